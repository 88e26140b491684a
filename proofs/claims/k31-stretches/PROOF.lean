import PyProof.Rows.All
import Wide.All
import OpenK.AllK
import Wide.FinOn
import HandS.ForMost
import HandS.Exc
import HandS.IsInst
import HandS.RaiseMore
import HandS.FStr
import HandS.Deep
import HandS.SortInts
import HandS.Defaults
import HandS.MakeKw
import HandS.MakeKwOnly
import HandS.Property
import HandS.ExcOwn
import HandS.WordsExc
import HandS.OwnEq
import HandS.Ends
import KE.KStateDown
import HandS.Head0
import HandS.Head1
import HandS.Head2
import HandS.HeadEnd
import HandS.HeadHook1
import HandS.HeadHook2
import PySem.Challenge.RW_dueways_k31_stretches
set_option Elab.async false
set_option linter.all false
set_option maxRecDepth 100000
set_option maxHeartbeats 0
/-! MirA: trees of data, the frame of a running def, and how both stand for slots and heap -/
namespace Mir
open PySem L2

inductive Dat where
  | non
  | bl (b : Bool)
  | int (i : Int)
  | str (x : Str)
  | lst (ds : List Dat)
  | tup (ds : List Dat)
  /-- a list of the caller's that is only read: the script -/
  | ro (ds : List Dat)
  | ins (c : Str) (fs : List (Str × Dat))
  | dic (ks : List (Key × Dat))

mutual
inductive Rp (cm : Str → Addr) (K : PySem.W.Frag) (G : Hp) : V → Dat → Prop
  | non : Rp cm K G .non .non
  | bl (b : Bool) : Rp cm K G (.bl b) (.bl b)
  | int (i : Int) : Rp cm K G (.int i) (.int i)
  | str (x : Str) : Rp cm K G (.str x) (.str x)
  | lst {a : Addr} {vs : List V} {ds : List Dat} : G a = some (.lst vs) → RpAll cm K G vs ds → Rp cm K G (.ref a) (.lst ds)
  | ro {a : Addr} {vs : List V} {ds : List Dat} : SqL K G a vs → RpAll cm K G vs ds → Rp cm K G (.ref a) (.ro ds)
  | tup {a : Addr} {vs : List V} {ds : List Dat} : SqT K G a vs → RpAll cm K G vs ds → Rp cm K G (.ref a) (.tup ds)
  | ins {a dx : Addr} {c : Str} {gs : List (Str × V)} {fs : List (Str × Dat)} : G a = some (.ins (cm c) dx gs) → RpF cm K G gs fs → Rp cm K G (.ref a) (.ins c fs)
  | dic {a : Addr} {gs : List (Key × V)} {fs : List (Key × Dat)} : G a = some (.dK gs) → RpK cm K G gs fs → Rp cm K G (.ref a) (.dic fs)
inductive RpAll (cm : Str → Addr) (K : PySem.W.Frag) (G : Hp) : List V → List Dat → Prop
  | nil : RpAll cm K G [] []
  | cons {v : V} {d : Dat} {vs : List V} {ds : List Dat} : Rp cm K G v d → RpAll cm K G vs ds → RpAll cm K G (v :: vs) (d :: ds)
inductive RpF (cm : Str → Addr) (K : PySem.W.Frag) (G : Hp) : List (Str × V) → List (Str × Dat) → Prop
  | nil : RpF cm K G [] []
  | cons {f : Str} {v : V} {d : Dat} {gs : List (Str × V)} {fs : List (Str × Dat)} : Rp cm K G v d → RpF cm K G gs fs → RpF cm K G ((f, v) :: gs) ((f, d) :: fs)
inductive RpK (cm : Str → Addr) (K : PySem.W.Frag) (G : Hp) : List (Key × V) → List (Key × Dat) → Prop
  | nil : RpK cm K G [] []
  | cons {f : Key} {v : V} {d : Dat} {gs : List (Key × V)} {fs : List (Key × Dat)} : Rp cm K G v d → RpK cm K G gs fs → RpK cm K G ((f, v) :: gs) ((f, d) :: fs)
end

theorem sqT_same {K : PySem.W.Frag} {H H' : Hp} {a : Addr} {xs : List V} (e : Same H H') (h : SqT K H a xs) : SqT K H' a xs := by
  rcases h with (h | ⟨o, h⟩) | h
  · exact .inl (.inl (e _ _ h))
  · exact .inl (.inr ⟨o, e _ _ h⟩)
  · exact .inr h

section
variable {cm : Str → Addr} {K : PySem.W.Frag} {G G' : Hp}
mutual
theorem Rp.mono (e : Same G G') : ∀ {v : V} {d : Dat}, Rp cm K G v d → Rp cm K G' v d
  | _, _, .non => .non
  | _, _, .bl b => .bl b
  | _, _, .int i => .int i
  | _, _, .str x => .str x
  | _, _, .lst s r => .lst (e _ _ s) (RpAll.mono e r)
  | _, _, .ro s r => .ro (e.seq s) (RpAll.mono e r)
  | _, _, .tup s r => .tup (sqT_same e s) (RpAll.mono e r)
  | _, _, .ins s r => .ins (e _ _ s) (RpF.mono e r)
  | _, _, .dic s r => .dic (e _ _ s) (RpK.mono e r)
theorem RpAll.mono (e : Same G G') : ∀ {vs : List V} {ds : List Dat}, RpAll cm K G vs ds → RpAll cm K G' vs ds
  | _, _, .nil => .nil
  | _, _, .cons a b => .cons (Rp.mono e a) (RpAll.mono e b)
theorem RpF.mono (e : Same G G') : ∀ {vs : List (Str × V)} {ds : List (Str × Dat)}, RpF cm K G vs ds → RpF cm K G' vs ds
  | _, _, .nil => .nil
  | _, _, .cons a b => .cons (Rp.mono e a) (RpF.mono e b)
theorem RpK.mono (e : Same G G') : ∀ {vs : List (Key × V)} {ds : List (Key × Dat)}, RpK cm K G vs ds → RpK cm K G' vs ds
  | _, _, .nil => .nil
  | _, _, .cons a b => .cons (Rp.mono e a) (RpK.mono e b)
end
theorem RpAll.length : ∀ {vs : List V} {ds : List Dat}, RpAll cm K G vs ds → vs.length = ds.length
  | _, _, .nil => rfl
  | _, _, .cons _ b => congrArg Nat.succ (RpAll.length b)
theorem RpAll.get : ∀ {vs : List V} {ds : List Dat}, RpAll cm K G vs ds → ∀ {i : Nat} {d : Dat}, ds[i]? = some d → ∃ v, vs[i]? = some v ∧ Rp cm K G v d
  | _, _, .nil, i, d, e => by simp at e
  | _, _, .cons a b, 0, d, e => ⟨_, rfl, by simp at e; rw [← e]; exact a⟩
  | _, _, .cons a b, i + 1, d, e => RpAll.get b (i := i) (by simpa using e)
theorem RpAll.get' : ∀ {vs : List V} {ds : List Dat}, RpAll cm K G vs ds → ∀ {i : Nat} {v : V}, vs[i]? = some v → ∃ d, ds[i]? = some d ∧ Rp cm K G v d
  | _, _, .nil, i, d, e => by simp at e
  | _, _, .cons a b, 0, d, e => ⟨_, rfl, by simp at e; rw [← e]; exact a⟩
  | _, _, .cons a b, i + 1, d, e => RpAll.get' b (i := i) (by simpa using e)
theorem RpAll.append : ∀ {vs : List V} {ds : List Dat} {us : List V} {es : List Dat}, RpAll cm K G vs ds → RpAll cm K G us es → RpAll cm K G (vs ++ us) (ds ++ es)
  | _, _, _, _, .nil, r => r
  | _, _, _, _, .cons a b, r => .cons a (RpAll.append b r)
theorem RpAll.set {v : V} {d : Dat} (r : Rp cm K G v d) : ∀ {vs : List V} {ds : List Dat} (i : Nat), RpAll cm K G vs ds → RpAll cm K G (vs.set i v) (ds.set i d)
  | _, _, _, .nil => .nil
  | _, _, 0, .cons _ b => .cons r b
  | _, _, i + 1, .cons a b => .cons a (RpAll.set r i b)
theorem RpAll.take : ∀ {vs : List V} {ds : List Dat} (i : Nat), RpAll cm K G vs ds → RpAll cm K G (vs.take i) (ds.take i)
  | _, _, 0, _ => .nil
  | _, _, _ + 1, .nil => .nil
  | _, _, i + 1, .cons a b => .cons a (RpAll.take i b)
theorem RpAll.drop : ∀ {vs : List V} {ds : List Dat} (i : Nat), RpAll cm K G vs ds → RpAll cm K G (vs.drop i) (ds.drop i)
  | _, _, 0, r => r
  | _, _, _ + 1, .nil => .nil
  | _, _, i + 1, .cons a b => RpAll.drop i b
theorem RpAll.ints : ∀ (ns : List Int), RpAll cm K G (ns.map V.int) (ns.map Dat.int)
  | [] => .nil
  | n :: ns => .cons (.int n) (RpAll.ints ns)
theorem RpAll.ints_of : ∀ {vs : List V} {ns : List Int}, RpAll cm K G vs (ns.map Dat.int) → vs = ns.map V.int
  | _, [], .nil => rfl
  | _, n :: ns, .cons (.int _) b => by rw [RpAll.ints_of b]; rfl
theorem RpAll.bools_of : ∀ {vs : List V} {ns : List Bool}, RpAll cm K G vs (ns.map Dat.bl) → vs = ns.map V.bl
  | _, [], .nil => rfl
  | _, n :: ns, .cons (.bl _) b => by rw [RpAll.bools_of b]; rfl
theorem RpAll.strs_of : ∀ {vs : List V} {ns : List Str}, RpAll cm K G vs (ns.map Dat.str) → vs = ns.map V.str
  | _, [], .nil => rfl
  | _, n :: ns, .cons (.str _) b => by rw [RpAll.strs_of b]; rfl
theorem RpF.lookup : ∀ {gs : List (Str × V)} {fs : List (Str × Dat)}, RpF cm K G gs fs → ∀ {f : Str} {d : Dat}, fs.lookup f = some d → ∃ v, gs.lookup f = some v ∧ Rp cm K G v d
  | _, _, .nil, f, d, e => by cases e
  | _, _, .cons (f := g) (v := v) (d := d') (gs := gs) (fs := fs) a b, f, d, e => by
    simp only [List.lookup] at e ⊢
    cases h : (f == g) with
    | true => rw [h] at e; cases e; exact ⟨v, rfl, a⟩
    | false => rw [h] at e; exact RpF.lookup b e
theorem RpF.lookup_none : ∀ {gs : List (Str × V)} {fs : List (Str × Dat)}, RpF cm K G gs fs → ∀ {f : Str}, fs.lookup f = none → gs.lookup f = none
  | _, _, .nil, f, e => rfl
  | _, _, .cons (f := g) (v := v) (d := d') (gs := gs) (fs := fs) a b, f, e => by
    simp only [List.lookup] at e ⊢
    cases h : (f == g) with
    | true => rw [h] at e; cases e
    | false => rw [h] at e; exact RpF.lookup_none b e
theorem RpF.length : ∀ {gs : List (Str × V)} {fs : List (Str × Dat)}, RpF cm K G gs fs → gs.length = fs.length
  | _, _, .nil => rfl
  | _, _, .cons _ b => congrArg Nat.succ (RpF.length b)
end

/-- a field stored, in the trees -/
def putD (f : Str) (d : Dat) : List (Str × Dat) → List (Str × Dat)
  | [] => [(f, d)]
  | (g, e) :: r => if g = f then (g, d) :: r else (g, e) :: putD f d r
theorem RpF.put {cm : Str → Addr} {K : PySem.W.Frag} {G : Hp} {f : Str} {v : V} {d : Dat} (r : Rp cm K G v d) : ∀ {gs : List (Str × V)} {fs : List (Str × Dat)}, RpF cm K G gs fs → RpF cm K G (putF f v gs) (putD f d fs)
  | _, _, .nil => .cons r .nil
  | _, _, .cons (f := g) a b => by
    unfold putF putD
    by_cases h : g = f
    · rw [if_pos h, if_pos h]
      first
        | exact .cons r b
        | (subst h; exact .cons r b)
    · rw [if_neg h, if_neg h]
      exact .cons a (RpF.put r b)

/-! ### what is hidden -/
def hid (M : List Addr) (H : Hp) : Hp := fun a => if a ∈ M then none else H a
theorem hid_in {M : List Addr} {H : Hp} {a : Addr} (h : a ∈ M) : hid M H a = none := if_pos h
theorem hid_out {M : List Addr} {H : Hp} {a : Addr} (h : a ∉ M) : hid M H a = H a := if_neg h
theorem hid_le {M : List Addr} {H : Hp} : Same (hid M H) H := fun a o e => by
  by_cases h : a ∈ M
  · rw [hid_in h] at e; cases e
  · rw [hid_out h] at e; exact e
theorem hid_same {M : List Addr} {H H' : Hp} (s : ∀ a o, a ∉ M → H a = some o → H' a = some o) : Same (hid M H) (hid M H') := fun a o e => by
  by_cases h : a ∈ M
  · rw [hid_in h] at e; cases e
  · rw [hid_out h] at e ⊢; exact s a o h e
theorem hid_sub {M M' : List Addr} {H : Hp} (s : ∀ a, a ∈ M' → a ∈ M) : Same (hid M H) (hid M' H) := fun a o e => by
  by_cases h : a ∈ M
  · rw [hid_in h] at e; cases e
  · rw [hid_out h] at e
    rw [hid_out fun z => h (s a z)]; exact e
theorem hid_upd {M : List Addr} {H : Hp} {a : Addr} {o : HO} (h : a ∈ M) : hid M (upd H a o) = hid M H := by
  funext b
  by_cases hb : b ∈ M
  · rw [hid_in hb, hid_in hb]
  · rw [hid_out hb, hid_out hb, upd_ne (a := a) (b := b) (fun z => hb (by rw [z]; exact h))]
theorem same_new {H : Hp} {p : Addr} {o : HO} (h : H p = none) : Same H (upd H p o) := fun b x e => by
  rw [upd_ne (ne_of_none e h)]; exact e

/-! ### slots -/
inductive Own where
  | lst (ds : List Dat)
  | obj (c : Str) (fs : List (Str × Dat))
inductive Slot where
  | no
  | dat (d : Dat)
  /-- a list of the def's own making -/
  | loc (ds : List Dat)
  /-- what the j-th lent parameter holds -/
  | own (j : Nat) (o : Own)
abbrev Sg := List Slot
def Slot.isLoc : Slot → Bool
  | .loc _ => true
  | _ => false
def locs : Sg → St → List Addr
  | .loc _ :: S, some (.ref l) :: σ => l :: locs S σ
  | _ :: S, _ :: σ => locs S σ
  | _, _ => []
def owns : Sg → List Nat
  | .own j _ :: S => j :: owns S
  | _ :: S => owns S
  | [] => []

/-- the frame of a running def: hidden by its callers M, the heap at its entry H0, the addresses lent to it A0; hidden for a while, as they stand: T -/
structure Fm where
  cm : Str → Addr
  K : PySem.W.Frag
  M : List Addr
  H0 : Hp
  A0 : List Addr
  T : List (Addr × HO) := []
def vis (F : Fm) (S : Sg) (σ : St) (H : Hp) : Hp := hid (F.M ++ locs S σ) H
inductive OwnOk (cm : Str → Addr) (K : PySem.W.Frag) (G H : Hp) (l : Addr) : Own → Prop
  | lst {vs : List V} {ds : List Dat} : H l = some (.lst vs) → RpAll cm K G vs ds → OwnOk cm K G H l (.lst ds)
  | obj {c : Str} {dx : Addr} {gs : List (Str × V)} {fs : List (Str × Dat)} : H l = some (.ins (cm c) dx gs) → RpF cm K G gs fs → OwnOk cm K G H l (.obj c fs)
inductive SlotOk (F : Fm) (G H : Hp) : Slot → Option V → Prop
  | no {v : Option V} : SlotOk F G H .no v
  | dat {d : Dat} {v : V} : Rp F.cm F.K G v d → SlotOk F G H (.dat d) (some v)
  | loc {ds : List Dat} {l : Addr} {vs : List V} : H l = some (.lst vs) → RpAll F.cm F.K G vs ds → SlotOk F G H (.loc ds) (some (.ref l))
  | own {j : Nat} {o : Own} {l : Addr} : F.A0[j]? = some l → OwnOk F.cm F.K G H l o → SlotOk F G H (.own j o) (some (.ref l))
structure Rel (F : Fm) (S : Sg) (σ : St) (H : Hp) : Prop where
  len : S.length = σ.length
  sl : ∀ (i : Nat) (s : Slot) (v : Option V), S[i]? = some s → σ[i]? = some v → SlotOk F (vis F S σ H) H s v
  nd : (locs S σ).Nodup
  new : ∀ l, l ∈ locs S σ → F.H0 l = none
  ond : (owns S).Nodup
  and_ : F.A0.Nodup
  ain : ∀ a, a ∈ F.A0 → a ∈ F.M
  liv : ∀ a, a ∈ F.M → H a ≠ none
  lom : ∀ l, l ∈ locs S σ → l ∉ F.M
  tmp : ∀ p, p ∈ F.T → H p.1 = some p.2 ∧ p.1 ∈ F.M ∧ p.1 ∉ F.A0
  keep : ∀ a o, F.H0 a = some o → a ∉ F.A0 → H a = some o

theorem OwnOk.mono {cm : Str → Addr} {K : PySem.W.Frag} {G G' H H' : Hp} {l : Addr} {o : Own} (g : Same G G') (h : ∀ x, H l = some x → H' l = some x) (x : OwnOk cm K G H l o) : OwnOk cm K G' H' l o := by
  cases x with
  | lst e r => exact .lst (h _ e) (r.mono g)
  | obj e r => exact .obj (h _ e) (r.mono g)
theorem SlotOk.mono {F : Fm} {G G' H H' : Hp} {s : Slot} {v : Option V} (g : Same G G') (h : ∀ l x, v = some (.ref l) → s ≠ .no → (∀ d, s ≠ .dat d) → H l = some x → H' l = some x) (x : SlotOk F G H s v) : SlotOk F G' H' s v := by
  cases x with
  | no => exact .no
  | dat r => exact .dat (r.mono g)
  | loc e r => exact .loc (h _ _ rfl (by intro z; cases z) (by intro d z; cases z) e) (r.mono g)
  | own e o => exact .own e (o.mono g fun x q => h _ x rfl (by intro z; cases z) (by intro d z; cases z) q)

theorem mem_locs : ∀ {S : Sg} {σ : St} {l : Addr}, l ∈ locs S σ ↔ ∃ (i : Nat) (ds : List Dat), S[i]? = some (Slot.loc ds) ∧ σ[i]? = some (some (V.ref l))
  | [], σ, l => by simp [locs]
  | s :: S, [], l => by
    have : locs (s :: S) [] = [] := by cases s <;> rfl
    simp [this]
  | s :: S, v :: σ, l => by
    constructor
    · intro h
      have hh : (∃ ds, s = .loc ds ∧ v = some (.ref l)) ∨ l ∈ locs S σ := by
        cases s with
        | loc ds =>
          cases v with
          | none => exact .inr h
          | some v =>
            cases v with
            | ref a =>
              rcases List.mem_cons.mp (show l ∈ a :: locs S σ from h) with e | e
              · exact .inl ⟨ds, rfl, by rw [e]⟩
              · exact .inr e
            | _ => exact .inr h
        | _ => exact .inr (by simpa [locs] using h)
      rcases hh with ⟨ds, rfl, rfl⟩ | h
      · exact ⟨0, ds, rfl, rfl⟩
      · obtain ⟨i, ds, a, b⟩ := mem_locs.mp h
        exact ⟨i + 1, ds, by simpa using a, by simpa using b⟩
    · rintro ⟨i, ds, a, b⟩
      cases i with
      | zero =>
        simp at a b
        subst a; subst b
        exact List.mem_cons_self ..
      | succ i =>
        have h : l ∈ locs S σ := mem_locs.mpr ⟨i, ds, by simpa using a, by simpa using b⟩
        cases s with
        | loc ds =>
          cases v with
          | none => exact h
          | some v =>
            cases v with
            | ref a => exact List.mem_cons_of_mem _ h
            | _ => exact h
        | _ => simpa [locs] using h

/-- one slot changed to what is no list of one's own -/
theorem locs_set_sub : ∀ {S : Sg} {σ : St} {i : Nat} {s : Slot} {v : Option V}, s.isLoc = false → List.Sublist (locs (S.set i s) (σ.set i v)) (locs S σ)
  | [], σ, i, s, v, h => by simp [locs]
  | a :: S, [], i, s, v, h => by
    have : ∀ T : Sg, locs T [] = [] := fun T => by cases T with
      | nil => rfl
      | cons x r => cases x <;> rfl
    simp [this]
  | a :: S, b :: σ, 0, s, v, h => by
    have e : locs ((a :: S).set 0 s) ((b :: σ).set 0 v) = locs S σ := by
      cases s with
      | loc ds => cases h
      | _ => simp [locs]
    rw [e]
    cases a with
    | loc ds =>
      cases b with
      | none => simp [locs]
      | some b =>
        cases b with
        | ref l => exact List.sublist_cons_self _ _
        | _ => simp [locs]
    | _ => simp [locs]
  | a :: S, b :: σ, i + 1, s, v, h => by
    have ih := locs_set_sub (S := S) (σ := σ) (i := i) (s := s) (v := v) h
    show List.Sublist (locs (a :: S.set i s) (b :: σ.set i v)) (locs (a :: S) (b :: σ))
    cases a with
    | loc ds =>
      cases b with
      | none => simpa [locs] using ih
      | some b =>
        cases b with
        | ref l => exact ih.cons_cons l
        | _ => simpa [locs] using ih
    | _ => simpa [locs] using ih
/-- the same list, other items -/
theorem locs_set_same : ∀ {S : Sg} {σ : St} {i : Nat} {ds es : List Dat}, S[i]? = some (.loc ds) → locs (S.set i (.loc es)) σ = locs S σ
  | [], σ, i, ds, es, h => by simp at h
  | a :: S, [], i, ds, es, h => by
    have : ∀ T : Sg, locs T [] = [] := fun T => by cases T with
      | nil => rfl
      | cons x r => cases x <;> rfl
    simp [this]
  | a :: S, b :: σ, 0, ds, es, h => by
    simp at h
    subst h
    cases b with
    | none => rfl
    | some b => cases b <;> rfl
  | a :: S, b :: σ, i + 1, ds, es, h => by
    have ih := locs_set_same (S := S) (σ := σ) (i := i) (ds := ds) (es := es) (by simpa using h)
    show locs (a :: S.set i _) (b :: σ) = locs (a :: S) (b :: σ)
    cases a with
    | loc ds =>
      cases b with
      | none => simpa [locs] using ih
      | some b =>
        cases b with
        | ref l => simp [locs, ih]
        | _ => simpa [locs] using ih
    | _ => simpa [locs] using ih
/-- a new list -/
theorem locs_set_new : ∀ {S : Sg} {σ : St} {i : Nat} {ds : List Dat} {p : Addr}, (locs S σ).Nodup → p ∉ locs S σ → (locs (S.set i (.loc ds)) (σ.set i (some (.ref p)))).Nodup ∧ ∀ l, l ∈ locs (S.set i (.loc ds)) (σ.set i (some (.ref p))) → l = p ∨ l ∈ locs S σ
  | [], σ, i, ds, p, h, hp => by simp [locs]
  | a :: S, [], i, ds, p, h, hp => by
    have : ∀ T : Sg, locs T [] = [] := fun T => by cases T with
      | nil => rfl
      | cons x r => cases x <;> rfl
    simp [this]
  | a :: S, b :: σ, 0, ds, p, h, hp => by
    show (p :: locs S σ).Nodup ∧ ∀ l, l ∈ p :: locs S σ → l = p ∨ l ∈ locs (a :: S) (b :: σ)
    have sub : List.Sublist (locs S σ) (locs (a :: S) (b :: σ)) := by
      cases a with
      | loc ds =>
        cases b with
        | none => simp [locs]
        | some b =>
          cases b with
          | ref l => exact List.sublist_cons_self _ _
          | _ => simp [locs]
      | _ => simp [locs]
    exact ⟨List.nodup_cons.mpr ⟨fun z => hp (sub.subset z), h.sublist sub⟩, fun l hl => (List.mem_cons.mp hl).imp id fun z => sub.subset z⟩
  | a :: S, b :: σ, i + 1, ds, p, h, hp => by
    show (locs (a :: S.set i _) (b :: σ.set i _)).Nodup ∧ ∀ l, l ∈ locs (a :: S.set i _) (b :: σ.set i _) → l = p ∨ l ∈ locs (a :: S) (b :: σ)
    have plain : locs (a :: S) (b :: σ) = locs S σ → (locs (a :: S.set i (.loc ds)) (b :: σ.set i (some (.ref p))) = locs (S.set i (.loc ds)) (σ.set i (some (.ref p)))) →
        (locs (a :: S.set i (.loc ds)) (b :: σ.set i (some (.ref p)))).Nodup ∧ ∀ l, l ∈ locs (a :: S.set i (.loc ds)) (b :: σ.set i (some (.ref p))) → l = p ∨ l ∈ locs (a :: S) (b :: σ) := fun e1 e2 => by
      rw [e2, e1]
      exact locs_set_new (by rw [← e1]; exact h) (by rw [← e1]; exact hp)
    cases a with
    | loc es =>
      cases b with
      | none => exact plain rfl rfl
      | some b =>
        cases b with
        | ref l =>
          have h' : (l :: locs S σ).Nodup := h
          have hp' : p ∉ l :: locs S σ := hp
          obtain ⟨n1, n2⟩ := List.nodup_cons.mp h'
          obtain ⟨r1, r2⟩ := locs_set_new (S := S) (σ := σ) (i := i) (ds := ds) n2 fun z => hp' (List.mem_cons_of_mem _ z)
          show (l :: locs (S.set i _) (σ.set i _)).Nodup ∧ ∀ x, x ∈ l :: locs (S.set i _) (σ.set i _) → x = p ∨ x ∈ l :: locs S σ
          refine ⟨List.nodup_cons.mpr ⟨fun z => ?_, r1⟩, fun x hx => ?_⟩
          · rcases r2 l z with e | e
            · exact hp' (by rw [e]; exact List.mem_cons_self ..)
            · exact n1 e
          · rcases List.mem_cons.mp hx with e | e
            · exact .inr (by rw [e]; exact List.mem_cons_self ..)
            · exact (r2 x e).imp id fun z => List.mem_cons_of_mem _ z
        | _ => exact plain rfl rfl
    | _ => exact plain rfl rfl
/-- a list that is given away -/
theorem locs_set_gone : ∀ {S : Sg} {σ : St} {i : Nat} {ds : List Dat} {l : Addr} {s : Slot}, (locs S σ).Nodup → S[i]? = some (.loc ds) → σ[i]? = some (some (.ref l)) → s.isLoc = false → l ∉ locs (S.set i s) σ
  | [], σ, i, ds, l, s, h, h1, h2, h3 => by simp at h1
  | a :: S, [], i, ds, l, s, h, h1, h2, h3 => by simp at h2
  | a :: S, b :: σ, 0, ds, l, s, h, h1, h2, h3 => by
    simp at h1 h2
    subst h1; subst h2
    have e : locs ((Slot.loc ds :: S).set 0 s) (some (V.ref l) :: σ) = locs S σ := by
      cases s with
      | loc ds => cases h3
      | _ => simp [locs]
    rw [e]
    exact (List.nodup_cons.mp (show (l :: locs S σ).Nodup from h)).1
  | a :: S, b :: σ, i + 1, ds, l, s, h, h1, h2, h3 => by
    show l ∉ locs (a :: S.set i s) (b :: σ)
    have h1' : S[i]? = some (.loc ds) := by simpa using h1
    have h2' : σ[i]? = some (some (.ref l)) := by simpa using h2
    have hin : l ∈ locs S σ := mem_locs.mpr ⟨i, ds, h1', h2'⟩
    cases a with
    | loc es =>
      cases b with
      | none =>
        have := locs_set_gone (S := S) (σ := σ) (s := s) h h1' h2' h3
        simpa [locs] using this
      | some b =>
        cases b with
        | ref x =>
          have h' : (x :: locs S σ).Nodup := h
          obtain ⟨n1, n2⟩ := List.nodup_cons.mp h'
          have := locs_set_gone (S := S) (σ := σ) (s := s) n2 h1' h2' h3
          intro z
          rcases List.mem_cons.mp (show l ∈ x :: locs (S.set i s) σ from z) with e | e
          · exact n1 (by rw [← e]; exact hin)
          · exact this e
        | _ =>
          have := locs_set_gone (S := S) (σ := σ) (s := s) h h1' h2' h3
          simpa [locs] using this
    | _ =>
      have := locs_set_gone (S := S) (σ := σ) (s := s) (by simpa [locs] using h) h1' h2' h3
      simpa [locs] using this

theorem owns_set_sub : ∀ {S : Sg} {i : Nat} {s : Slot}, (∀ j o, s ≠ .own j o) → List.Sublist (owns (S.set i s)) (owns S)
  | [], i, s, h => by simp [owns]
  | a :: S, 0, s, h => by
    have e : owns ((a :: S).set 0 s) = owns S := by
      cases s with
      | own j o => exact absurd rfl (h j o)
      | _ => simp [owns]
    rw [e]
    cases a with
    | own j o => exact List.sublist_cons_self _ _
    | _ => simp [owns]
  | a :: S, i + 1, s, h => by
    have ih := owns_set_sub (S := S) (i := i) (s := s) h
    show List.Sublist (owns (a :: S.set i s)) (owns (a :: S))
    cases a with
    | own j o => exact ih.cons_cons j
    | _ => simpa [owns] using ih
theorem owns_set_same : ∀ {S : Sg} {i j : Nat} {o u : Own}, S[i]? = some (.own j o) → owns (S.set i (.own j u)) = owns S
  | [], i, j, o, u, h => by simp at h
  | a :: S, 0, j, o, u, h => by simp at h; subst h; rfl
  | a :: S, i + 1, j, o, u, h => by
    have ih := owns_set_same (S := S) (i := i) (u := u) (by simpa using h)
    show owns (a :: S.set i _) = owns (a :: S)
    cases a with
    | own j o => simp [owns, ih]
    | _ => simpa [owns] using ih
theorem mem_owns : ∀ {S : Sg} {j : Nat}, (∃ (i : Nat) (o : Own), S[i]? = some (.own j o)) → j ∈ owns S
  | [], j, ⟨i, o, h⟩ => by simp at h
  | a :: S, j, ⟨0, o, h⟩ => by simp at h; subst h; exact List.mem_cons_self ..
  | a :: S, j, ⟨i + 1, o, h⟩ => by
    have ih := mem_owns (S := S) (j := j) ⟨i, o, by simpa using h⟩
    cases a with
    | own j o => exact List.mem_cons_of_mem _ ih
    | _ => simpa [owns] using ih
/-- no two slots hold the same lent thing -/
theorem owns_one : ∀ {S : Sg} {i k j : Nat} {o u : Own}, (owns S).Nodup → S[i]? = some (.own j o) → S[k]? = some (.own j u) → i = k
  | [], i, k, j, o, u, _, h, _ => by simp at h
  | a :: S, 0, 0, j, o, u, _, _, _ => rfl
  | a :: S, 0, k + 1, j, o, u, n, h, h' => by
    simp at h; subst h
    exact absurd (mem_owns ⟨k, u, by simpa using h'⟩) (List.nodup_cons.mp (show (j :: owns S).Nodup from n)).1
  | a :: S, i + 1, 0, j, o, u, n, h, h' => by
    simp at h'; subst h'
    exact absurd (mem_owns ⟨i, o, by simpa using h⟩) (List.nodup_cons.mp (show (j :: owns S).Nodup from n)).1
  | a :: S, i + 1, k + 1, j, o, u, n, h, h' => by
    have n' : (owns S).Nodup := by
      cases a with
      | own j o => exact (List.nodup_cons.mp (show (j :: owns S).Nodup from n)).2
      | _ => simpa [owns] using n
    exact congrArg Nat.succ (owns_one (S := S) (i := i) (k := k) (j := j) (o := o) (u := u) n' (by simpa using h) (by simpa using h'))
end Mir

/-! MirB: how the frame's relation goes on; results, their wishes -/
namespace Mir
open PySem L2

theorem locs_one : ∀ {S : Sg} {σ : St} {i k : Nat} {ds es : List Dat} {l : Addr}, (locs S σ).Nodup → S[i]? = some (.loc ds) → σ[i]? = some (some (.ref l)) → S[k]? = some (.loc es) → σ[k]? = some (some (.ref l)) → i = k := by
  intro S σ i k ds es l n a b c d
  by_cases e : i = k
  · exact e
  · have h1 : l ∉ locs (S.set i .no) σ := locs_set_gone n a b rfl
    exact absurd (mem_locs.mpr ⟨k, es, by rw [List.getElem?_set_ne e]; exact c, d⟩) h1

theorem set_same {α : Type} {xs : List α} {i : Nat} {a : α} (h : xs[i]? = some a) : xs.set i a = xs := by
  refine List.ext_getElem? fun k => ?_
  by_cases ek : i = k
  · subst ek
    have q : i < xs.length := (List.getElem?_eq_some_iff.mp h).1
    rw [List.getElem?_set, if_pos rfl, if_pos q, h]
  · rw [List.getElem?_set_ne ek]
section
variable {F : Fm} {S : Sg} {σ : St} {H H' : Hp}
theorem Rel.locH (R : Rel F S σ H) {l : Addr} (h : l ∈ locs S σ) : ∃ vs, H l = some (.lst vs) := by
  obtain ⟨i, ds, a, b⟩ := mem_locs.mp h
  have q := R.sl i _ _ a b
  cases q with
  | loc e r => exact ⟨_, e⟩
theorem Rel.mlive (R : Rel F S σ H) {a : Addr} (h : a ∈ F.M) : H a ≠ none := R.liv a h
theorem Rel.alv (R : Rel F S σ H) (a : Addr) (h : a ∈ F.A0) : H a ≠ none := R.liv a (R.ain a h)
theorem Rel.hlive (R : Rel F S σ H) {a : Addr} (h : a ∈ F.M ++ locs S σ) : H a ≠ none := by
  rcases List.mem_append.mp h with h | h
  · exact R.mlive h
  · obtain ⟨vs, e⟩ := R.locH h
    rw [e]; simp
theorem Rel.fresh (R : Rel F S σ H) {p : Addr} (h : H p = none) : p ∉ F.M ++ locs S σ := fun z => R.hlive z h
theorem Rel.fresh0 (R : Rel F S σ H) {p : Addr} (h : H p = none) : F.H0 p = none := by
  cases q : F.H0 p with
  | none => rfl
  | some o =>
    by_cases ha : p ∈ F.A0
    · exact absurd h (R.alv p ha)
    · rw [R.keep p o q ha] at h; cases h
theorem Rel.locM (R : Rel F S σ H) {l : Addr} (h : l ∈ locs S σ) : l ∉ F.M := R.lom l h
theorem upd_some {H : Hp} {a l : Addr} {o : HO} (h : H a ≠ none) : upd H l o a ≠ none := by
  by_cases e : a = l
  · rw [e, upd_same]; simp
  · rw [upd_ne e]; exact h
theorem vis_grow (e : Same H H') : Same (vis F S σ H) (vis F S σ H') := hid_same fun a o _ q => e a o q
theorem Rel.grow (R : Rel F S σ H) (e : Same H H') : Rel F S σ H' where
  len := R.len
  sl := fun i s v a b => (R.sl i s v a b).mono (vis_grow e) fun l x _ _ _ q => e l x q
  nd := R.nd
  new := R.new
  ond := R.ond
  and_ := R.and_
  ain := R.ain
  liv := fun a h => by
    cases q : H a with
    | none => exact absurd q (R.liv a h)
    | some o => rw [e a o q]; simp
  lom := R.lom
  tmp := fun p h => ⟨e _ _ (R.tmp p h).1, (R.tmp p h).2⟩
  keep := fun a o q n => e a o (R.keep a o q n)
/-- a new object that is nobody's own -/
theorem Rel.vnew (R : Rel F S σ H) {p : Addr} {o : HO} (h : H p = none) : vis F S σ (upd H p o) p = some o := by
  unfold vis
  rw [hid_out (R.fresh h), upd_same]

theorem get_set_cases {α : Type} {xs : List α} {i k : Nat} {a b : α} (h : (xs.set i a)[k]? = some b) : (k = i ∧ b = a) ∨ (k ≠ i ∧ xs[k]? = some b) := by
  by_cases e : k = i
  · subst e
    rw [List.getElem?_set] at h
    simp at h
    exact .inl ⟨rfl, h.2.symm⟩
  · rw [List.getElem?_set_ne fun z => e z.symm] at h
    exact .inr ⟨e, h⟩

/-- a slot gets a value that is nobody's own -/
theorem Rel.set (R : Rel F S σ H) {i : Nat} {s : Slot} {v : Option V} (h1 : s.isLoc = false) (h2 : ∀ j o, s ≠ .own j o) (ok : SlotOk F (vis F S σ H) H s v) :
    Rel F (S.set i s) (σ.set i v) H ∧ Same (vis F S σ H) (vis F (S.set i s) (σ.set i v) H) := by
  have sub := locs_set_sub (S := S) (σ := σ) (i := i) (s := s) (v := v) h1
  have g : Same (vis F S σ H) (vis F (S.set i s) (σ.set i v) H) := hid_sub fun a ha => by
    rcases List.mem_append.mp ha with ha | ha
    · exact List.mem_append_left _ ha
    · exact List.mem_append_right _ (sub.subset ha)
  refine ⟨⟨by rw [List.length_set, List.length_set]; exact R.len, fun k t w a b => ?_, R.nd.sublist sub, fun l hl => R.new l (sub.subset hl), R.ond.sublist (owns_set_sub h2), R.and_, R.ain, R.liv, fun l hl => R.lom l (sub.subset hl), R.tmp, R.keep⟩, g⟩
  rcases get_set_cases a with ⟨e, rfl⟩ | ⟨e, a⟩
  · rcases get_set_cases b with ⟨_, rfl⟩ | ⟨e', _⟩
    · exact ok.mono g fun _ _ _ _ _ q => q
    · exact absurd e e'
  · rcases get_set_cases b with ⟨e', _⟩ | ⟨_, b⟩
    · exact absurd e' e
    · exact (R.sl k t w a b).mono g fun _ _ _ _ _ q => q
theorem Rel.dat (R : Rel F S σ H) {i : Nat} {v : V} {d : Dat} (r : Rp F.cm F.K (vis F S σ H) v d) :
    Rel F (S.set i (.dat d)) (σ.set i (some v)) H ∧ Same (vis F S σ H) (vis F (S.set i (.dat d)) (σ.set i (some v)) H) := R.set rfl (fun _ _ z => by cases z) (.dat r)
theorem Rel.no (R : Rel F S σ H) {i : Nat} {v : Option V} : Rel F (S.set i .no) (σ.set i v) H ∧ Same (vis F S σ H) (vis F (S.set i .no) (σ.set i v) H) := R.set rfl (fun _ _ z => by cases z) .no
/-- a slot gets a new list of the def's own -/
theorem Rel.newLoc (R : Rel F S σ H) {i : Nat} {p : Addr} {vs : List V} {ds : List Dat} (hp : H p = none) (r : RpAll F.cm F.K (vis F S σ H) vs ds) :
    Rel F (S.set i (.loc ds)) (σ.set i (some (.ref p))) (upd H p (.lst vs)) ∧ Same (vis F S σ H) (vis F (S.set i (.loc ds)) (σ.set i (some (.ref p))) (upd H p (.lst vs))) := by
  have fr := R.fresh hp
  have hpl : p ∉ locs S σ := fun z => fr (List.mem_append_right _ z)
  obtain ⟨n1, n2⟩ := locs_set_new (S := S) (σ := σ) (i := i) (ds := ds) R.nd hpl
  have e : Same H (upd H p (.lst vs)) := same_new hp
  have g : Same (vis F S σ H) (vis F (S.set i (.loc ds)) (σ.set i (some (.ref p))) (upd H p (.lst vs))) := fun a o q => by
    by_cases ha : a ∈ F.M ++ locs S σ
    · unfold vis at q; rw [hid_in ha] at q; cases q
    · unfold vis at q ⊢
      rw [hid_out ha] at q
      rw [hid_out, e a o q]
      intro z
      rcases List.mem_append.mp z with z | z
      · exact ha (List.mem_append_left _ z)
      · rcases n2 a z with y | y
        · rw [y, hp] at q; cases q
        · exact ha (List.mem_append_right _ y)
  refine ⟨⟨by rw [List.length_set, List.length_set]; exact R.len, fun k t w a b => ?_, n1, fun l hl => ?_, R.ond.sublist (owns_set_sub fun _ _ z => by cases z), R.and_, R.ain, fun a h => upd_some (R.liv a h), fun l hl => ?_, fun p h => ⟨e _ _ (R.tmp p h).1, (R.tmp p h).2⟩, fun a o q n => e a o (R.keep a o q n)⟩, g⟩
  · rcases get_set_cases a with ⟨ek, rfl⟩ | ⟨ek, a⟩
    · rcases get_set_cases b with ⟨_, rfl⟩ | ⟨e', _⟩
      · exact .loc upd_same (r.mono g)
      · exact absurd ek e'
    · rcases get_set_cases b with ⟨e', _⟩ | ⟨_, b⟩
      · exact absurd e' ek
      · exact (R.sl k t w a b).mono g fun l x _ _ _ q => e l x q
  · rcases n2 l hl with y | y
    · rw [y]; exact R.fresh0 hp
    · exact R.new l y
  · rcases n2 l hl with y | y
    · rw [y]; exact fun z => fr (List.mem_append_left _ z)
    · exact R.lom l y
/-- a list of the def's own changes -/
theorem Rel.setLoc (R : Rel F S σ H) {i : Nat} {l : Addr} {us : List V} {cs ds : List Dat} (hi : S[i]? = some (.loc cs)) (hl : σ[i]? = some (some (.ref l))) (r : RpAll F.cm F.K (vis F S σ H) us ds) :
    Rel F (S.set i (.loc ds)) σ (upd H l (.lst us)) ∧ Same (vis F S σ H) (vis F (S.set i (.loc ds)) σ (upd H l (.lst us))) := by
  have hin : l ∈ locs S σ := mem_locs.mpr ⟨i, cs, hi, hl⟩
  have eL : locs (S.set i (.loc ds)) σ = locs S σ := locs_set_same hi
  have eG : vis F (S.set i (.loc ds)) σ (upd H l (.lst us)) = vis F S σ H := by
    unfold vis
    rw [eL, hid_upd (List.mem_append_right _ hin)]
  have g : Same (vis F S σ H) (vis F (S.set i (.loc ds)) σ (upd H l (.lst us))) := by rw [eG]; exact Same.refl _
  have nl : F.H0 l = none := R.new l hin
  refine ⟨⟨by rw [List.length_set]; exact R.len, fun k t w a b => ?_, by rw [eL]; exact R.nd, fun x hx => R.new x (by rw [← eL]; exact hx), R.ond.sublist (owns_set_sub fun _ _ z => by cases z), R.and_, R.ain, fun a h => upd_some (R.liv a h), fun x hx => R.lom x (by rw [← eL]; exact hx), fun p h => ⟨by rw [upd_ne fun z => R.lom l hin (by rw [← z]; exact (R.tmp p h).2.1)]; exact (R.tmp p h).1, (R.tmp p h).2⟩, fun a o q n => ?_⟩, g⟩
  · rcases get_set_cases a with ⟨ek, rfl⟩ | ⟨ek, a⟩
    · rw [ek, hl] at b
      cases b
      exact .loc upd_same (r.mono g)
    · refine (R.sl k t w a b).mono g fun l' x ew n1 n2 q => ?_
      have hne : l' ≠ l := fun z => by
        rw [z] at ew
        cases t with
        | no => exact n1 rfl
        | dat d => exact n2 d rfl
        | loc es => exact ek (locs_one R.nd a (by rw [b, ew]) hi hl)
        | own j o =>
          have y := R.sl k _ w a b
          rw [ew] at y
          cases y with
          | own e0 _ => exact R.lom l hin (R.ain l (List.mem_of_getElem? e0))
      rw [upd_ne hne]; exact q
  · rw [upd_ne fun z => by rw [z, nl] at q; cases q]
    exact R.keep a o q n
/-- what was lent changes -/
theorem Rel.setOwn (R : Rel F S σ H) {i j : Nat} {l : Addr} {o u : Own} {ho : HO} (hi : S[i]? = some (.own j o)) (hl : σ[i]? = some (some (.ref l))) (hj : F.A0[j]? = some l) (r : OwnOk F.cm F.K (vis F S σ H) (upd H l ho) l u) :
    Rel F (S.set i (.own j u)) σ (upd H l ho) ∧ Same (vis F S σ H) (vis F (S.set i (.own j u)) σ (upd H l ho)) := by
  have hA : l ∈ F.A0 := List.mem_of_getElem? hj
  have hM : l ∈ F.M := R.ain l hA
  have sub : List.Sublist (locs (S.set i (.own j u)) σ) (locs S σ) := by
    have := locs_set_sub (S := S) (σ := σ) (i := i) (s := .own j u) (v := some (.ref l)) rfl
    rw [set_same hl] at this
    exact this
  have g : Same (vis F S σ H) (vis F (S.set i (.own j u)) σ (upd H l ho)) := by
    unfold vis
    rw [hid_upd (List.mem_append_left _ hM)]
    exact hid_sub fun a ha => by
      rcases List.mem_append.mp ha with ha | ha
      · exact List.mem_append_left _ ha
      · exact List.mem_append_right _ (sub.subset ha)
  refine ⟨⟨by rw [List.length_set]; exact R.len, fun k t w a b => ?_, R.nd.sublist sub, fun x hx => R.new x (sub.subset hx), by rw [owns_set_same hi]; exact R.ond, R.and_, R.ain, fun a h => upd_some (R.liv a h), fun x hx => R.lom x (sub.subset hx), fun p h => ⟨by rw [upd_ne fun z => (R.tmp p h).2.2 (by rw [z]; exact hA)]; exact (R.tmp p h).1, (R.tmp p h).2⟩, fun a x q n => ?_⟩, g⟩
  · rcases get_set_cases a with ⟨ek, rfl⟩ | ⟨ek, a2⟩
    · rw [ek, hl] at b
      cases b
      exact .own hj (r.mono g fun _ q => q)
    · refine (R.sl k t w a2 b).mono g fun l' x ew n1 n2 q => ?_
      have hne : l' ≠ l := fun z => by
        rw [z] at ew
        cases t with
        | no => exact n1 rfl
        | dat d => exact n2 d rfl
        | loc es => exact R.locM (mem_locs.mpr ⟨k, es, a2, by rw [b, ew]⟩) hM
        | own j' o' =>
          have y := R.sl k _ w a2 b
          rw [ew] at y
          cases y with
          | own e0 _ =>
            have ej : j' = j := nd_ix R.and_ e0 hj
            rw [ej] at a2
            exact ek (owns_one R.ond a2 hi)
      rw [upd_ne hne]; exact q
  · rw [upd_ne fun z => n (by rw [z]; exact hA)]
    exact R.keep a x q n
/-- a list of the def's own becomes a value for all -/
theorem Rel.freeze (R : Rel F S σ H) {i : Nat} {l : Addr} {ds : List Dat} (hi : S[i]? = some (.loc ds)) (hl : σ[i]? = some (some (.ref l))) :
    Rel F (S.set i (.dat (.lst ds))) σ H ∧ Same (vis F S σ H) (vis F (S.set i (.dat (.lst ds))) σ H) ∧ Rp F.cm F.K (vis F (S.set i (.dat (.lst ds))) σ H) (.ref l) (.lst ds) := by
  have e : σ.set i (some (.ref l)) = σ := set_same hl
  have sub : List.Sublist (locs (S.set i (.dat (.lst ds))) σ) (locs S σ) := by
    have := locs_set_sub (S := S) (σ := σ) (i := i) (s := .dat (.lst ds)) (v := some (.ref l)) rfl
    rw [e] at this
    exact this
  have g : Same (vis F S σ H) (vis F (S.set i (.dat (.lst ds))) σ H) := hid_sub fun a ha => by
    rcases List.mem_append.mp ha with ha | ha
    · exact List.mem_append_left _ ha
    · exact List.mem_append_right _ (sub.subset ha)
  have y := R.sl i _ _ hi hl
  have hin : l ∈ locs S σ := mem_locs.mpr ⟨i, ds, hi, hl⟩
  cases y with
  | @loc _ _ vs eh r =>
    have out : l ∉ F.M ++ locs (S.set i (.dat (.lst ds))) σ := fun z => by
      rcases List.mem_append.mp z with z | z
      · exact R.locM hin z
      · exact locs_set_gone R.nd hi hl rfl z
    have rp : Rp F.cm F.K (vis F (S.set i (.dat (.lst ds))) σ H) (.ref l) (.lst ds) := .lst (by unfold vis; rw [hid_out out]; exact eh) (r.mono g)
    refine ⟨⟨by rw [List.length_set]; exact R.len, fun k t w a b => ?_, R.nd.sublist sub, fun x hx => R.new x (sub.subset hx), R.ond.sublist (owns_set_sub fun _ _ z => by cases z), R.and_, R.ain, R.liv, fun x hx => R.lom x (sub.subset hx), R.tmp, R.keep⟩, g, rp⟩
    rcases get_set_cases a with ⟨ek, rfl⟩ | ⟨ek, a⟩
    · rw [ek, hl] at b
      cases b
      exact .dat rp
    · exact (R.sl k t w a b).mono g fun _ _ _ _ _ q => q
/-- a new thing that is nobody's: hidden for a while -/
def Fm.hide (F : Fm) (p : Addr) (o : HO) : Fm := { F with M := p :: F.M, T := (p, o) :: F.T }
theorem Rel.hide (R : Rel F S σ H) {p : Addr} {o : HO} (hp : H p = none) : Rel (F.hide p o) S σ (upd H p o) ∧ Same (vis F S σ H) (vis (F.hide p o) S σ (upd H p o)) := by
  have fr := R.fresh hp
  have e : Same H (upd H p o) := same_new hp
  have g : Same (vis F S σ H) (vis (F.hide p o) S σ (upd H p o)) := fun a x q => by
    unfold vis at q ⊢
    by_cases ha : a ∈ F.M ++ locs S σ
    · rw [hid_in ha] at q; cases q
    · rw [hid_out ha] at q
      have hne : a ≠ p := ne_of_none q hp
      rw [hid_out fun z => ?_, upd_ne hne]
      · exact q
      · rcases List.mem_cons.mp (show a ∈ p :: (F.M ++ locs S σ) from z) with z | z
        · exact hne z
        · exact ha z
  refine ⟨⟨R.len, fun i s v a b => ?_, R.nd, R.new, R.ond, R.and_, fun a h => List.mem_cons_of_mem _ (R.ain a h), fun a h => ?_, fun l hl z => ?_, fun q h => ?_, fun a x q n => e a x (R.keep a x q n)⟩, g⟩
  · have y := R.sl i s v a b
    have y2 : SlotOk F (vis (F.hide p o) S σ (upd H p o)) (upd H p o) s v := y.mono g fun l x _ _ _ q => e l x q
    cases y2 with
    | no => exact .no
    | dat r => exact .dat r
    | loc h r => exact .loc h r
    | own h r => exact .own h r
  · rcases List.mem_cons.mp (show a ∈ p :: F.M from h) with h | h
    · rw [h, upd_same]; simp
    · exact upd_some (R.liv a h)
  · rcases List.mem_cons.mp (show l ∈ p :: F.M from z) with z | z
    · exact fr (by rw [← z]; exact List.mem_append_right _ hl)
    · exact R.lom l hl z
  · rcases List.mem_cons.mp (show q ∈ (p, o) :: F.T from h) with h | h
    · rw [h]; exact ⟨upd_same, List.mem_cons_self .., fun z => R.alv p z hp⟩
    · exact ⟨e _ _ (R.tmp q h).1, List.mem_cons_of_mem _ (R.tmp q h).2.1, (R.tmp q h).2.2⟩
theorem Rel.hidden {p : Addr} {o o' : HO} (R : Rel (F.hide p o) S σ H) (h0 : F.H0 p = none) (ht : ∀ q, q ∈ F.T → q.1 ≠ p) : Rel (F.hide p o') S σ (upd H p o') ∧ vis (F.hide p o') S σ (upd H p o') = vis (F.hide p o) S σ H := by
  have hM : p ∈ (F.hide p o).M := List.mem_cons_self ..
  have ha : p ∉ F.A0 := (R.tmp (p, o) (List.mem_cons_self ..)).2.2
  have eG : vis (F.hide p o') S σ (upd H p o') = vis (F.hide p o) S σ H := by
    show hid ((F.hide p o).M ++ locs S σ) (upd H p o') = hid ((F.hide p o).M ++ locs S σ) H
    rw [hid_upd (List.mem_append_left _ hM)]
  refine ⟨⟨R.len, fun i s v a b => ?_, R.nd, R.new, R.ond, R.and_, R.ain, fun a h => upd_some (R.liv a h), R.lom, fun q h => ?_, fun a x q n => ?_⟩, eG⟩
  · rw [eG]
    have y := (R.sl i s v a b).mono (Same.refl _) (H' := upd H p o') fun l x ev n1 n2 q => by
      have hne : l ≠ p := fun z => by
        rw [z] at ev
        cases s with
        | no => exact n1 rfl
        | dat d => exact n2 d rfl
        | loc ds => exact R.lom p (mem_locs.mpr ⟨i, ds, a, by rw [b, ev]⟩) hM
        | own j u =>
          have y := R.sl i _ v a b
          rw [ev] at y
          cases y with
          | own e0 _ => exact ha (List.mem_of_getElem? e0)
      rw [upd_ne hne]; exact q
    cases y with
    | no => exact .no
    | dat r => exact .dat r
    | loc h r => exact .loc h r
    | own h r => exact .own h r
  · rcases List.mem_cons.mp (show q ∈ (p, o') :: F.T from h) with h | h
    · rw [h]; exact ⟨upd_same, hM, ha⟩
    · have t := R.tmp q (List.mem_cons_of_mem _ h)
      exact ⟨by rw [upd_ne (ht q h)]; exact t.1, t.2⟩
  · have hne : a ≠ p := fun z => by
      rw [z] at q
      exact absurd q (by rw [show (F.hide p o').H0 p = none from h0]; simp)
    rw [upd_ne hne]
    exact R.keep a x q n
theorem Rel.unhide {p : Addr} {o : HO} {S0 : Sg} {σ0 : St} {H1 : Hp} (R0 : Rel F S0 σ0 H1) (R : Rel (F.hide p o) S σ H) : Rel F S σ H ∧ Same (vis (F.hide p o) S σ H) (vis F S σ H) := by
  have g : Same (vis (F.hide p o) S σ H) (vis F S σ H) := hid_sub fun a h => List.mem_cons_of_mem _ h
  refine ⟨⟨R.len, fun i s v a b => ?_, R.nd, R.new, R.ond, R.and_, R0.ain, fun a h => R.liv a (List.mem_cons_of_mem _ h), fun l hl z => R.lom l hl (List.mem_cons_of_mem _ z), fun q h => ⟨(R.tmp q (List.mem_cons_of_mem _ h)).1, (R0.tmp q h).2⟩, R.keep⟩, g⟩
  have y := (R.sl i s v a b).mono g fun _ _ _ _ _ q => q
  cases y with
  | no => exact .no
  | dat r => exact .dat r
  | loc h r => exact .loc h r
  | own h r => exact .own h r
theorem Rel.tnew (R : Rel F S σ H) {p : Addr} (hp : H p = none) : ∀ q, q ∈ F.T → q.1 ≠ p := fun q h z => by
  have e := (R.tmp q h).1
  rw [z, hp] at e
  cases e
end

/-! ### results -/
inductive Rs (α : Type) where
  | ok (a : α) (S : Sg)
  | exc (c : Str) (fs : List (Str × Dat)) (S : Sg)
  | bad
def Rs.bind {α β : Type} : Rs α → (α → Sg → Rs β) → Rs β
  | .ok a S, k => k a S
  | .exc c fs S, _ => .exc c fs S
  | .bad, _ => .bad
def Rs.of {α : Type} : Option α → Sg → Rs α
  | some a, S => .ok a S
  | none, _ => .bad
@[simp] theorem Rs.bind_ok {α β : Type} (a : α) (S : Sg) (k : α → Sg → Rs β) : (Rs.ok a S).bind k = k a S := rfl
@[simp] theorem Rs.bind_exc {α β : Type} (c : Str) (fs : List (Str × Dat)) (S : Sg) (k : α → Sg → Rs β) : (Rs.exc c fs S).bind k = .exc c fs S := rfl
@[simp] theorem Rs.bind_bad {α β : Type} (k : α → Sg → Rs β) : (Rs.bad : Rs α).bind k = .bad := rfl
@[simp] theorem Rs.of_some {α : Type} (a : α) (S : Sg) : Rs.of (some a) S = .ok a S := rfl
@[simp] theorem Rs.of_none {α : Type} (S : Sg) : Rs.of (none : Option α) S = .bad := rfl

/-- what stands for what, at slots and a visible heap -/
abbrev Rep (β α : Type) := St → Hp → β → α → Prop
def outX (F : Fm) (W : WX) (σ : St) (G : Hp) (c : Str) (fs : List (Str × Dat)) (S : Sg) : Prop :=
  ∀ (da : Addr) (gs : List (Str × V)) (H : Hp), Rel F S σ H → Same G (vis F S σ H) → H da = some (.xd gs) → RpF F.cm F.K (vis F S σ H) gs fs → W (.ref (F.cm c)) (some da) σ H
def out {β α : Type} (F : Fm) (W : WX) (σ : St) (G : Hp) (R : Rep β α) (Q : β → Hp → Prop) : Rs α → Prop
  | .ok a S => ∀ v H, Rel F S σ H → Same G (vis F S σ H) → R σ (vis F S σ H) v a → Q v H
  | .exc c fs S => outX F W σ G c fs S
  | .bad => False
/-- the reading that a mirror gives -/
def tG {β α : Type} (cm : Str → Addr) (K : PySem.W.Frag) (W : WX) (R : Rep β α) (m : Sg → Rs α) : St → Hp → (β → Hp → Prop) → Prop := fun σ H Q =>
  ∃ F S, F.cm = cm ∧ F.K = K ∧ Rel F S σ H ∧ out F W σ (vis F S σ H) R Q (m S)
section
variable {F : Fm} {W : WX} {σ : St} {G G' : Hp}
theorem out_same {β α : Type} {R : Rep β α} {Q : β → Hp → Prop} {r : Rs α} (e : Same G G') (h : out F W σ G R Q r) : out F W σ G' R Q r := by
  cases r with
  | ok a S => exact fun v H a b c => h v H a (e.trans b) c
  | exc c fs S => exact fun da gs H a b c d => h da gs H a (e.trans b) c d
  | bad => exact h
theorem out_bind {β α β' α' : Type} {R : Rep β α} {R' : Rep β' α'} {Q : β' → Hp → Prop} {r : Rs α} {k : α → Sg → Rs α'} (h : out F W σ G R' Q (r.bind k)) :
    out F W σ G R (fun x H1 => ∃ a S1, Rel F S1 σ H1 ∧ Same G (vis F S1 σ H1) ∧ R σ (vis F S1 σ H1) x a ∧ out F W σ (vis F S1 σ H1) R' Q (k a S1)) r := by
  cases r with
  | ok a S => exact fun v H x y z => ⟨a, S, x, y, z, out_same y h⟩
  | exc c fs S => exact h
  | bad => exact h
theorem out_imp {β α : Type} {R : Rep β α} {Q Q' : β → Hp → Prop} {r : Rs α} (h : out F W σ G R Q r) (q : ∀ v H, Q v H → Q' v H) : out F W σ G R Q' r := by
  cases r with
  | ok a S => exact fun v H x y z => q v H (h v H x y z)
  | exc c fs S => exact h
  | bad => exact h
end
/-- from a mirror that goes on by k: its first part's reading -/
theorem tG_bind {β α β' α' : Type} {cm : Str → Addr} {K : PySem.W.Frag} {W : WX} {R : Rep β α} {R' : Rep β' α'} {m : Sg → Rs α} {k : α → Sg → Rs α'} {σ : St} {H : Hp} {Q : β' → Hp → Prop} {Q' : β → Hp → Prop} {F : Fm} {S : Sg}
    (e1 : F.cm = cm) (e2 : F.K = K) (r : Rel F S σ H) (h : out F W σ (vis F S σ H) R' Q ((m S).bind k))
    (q : ∀ x H1 a S1, Rel F S1 σ H1 → Same (vis F S σ H) (vis F S1 σ H1) → R σ (vis F S1 σ H1) x a → out F W σ (vis F S1 σ H1) R' Q (k a S1) → Q' x H1) : tG cm K W R m σ H Q' :=
  ⟨F, S, e1, e2, r, out_imp (out_bind (R := R) h) fun x H1 ⟨a, S1, a1, a2, a3, a4⟩ => q x H1 a S1 a1 a2 a3 a4⟩

abbrev ME := Sg → Rs Dat
abbrev MT := Sg → Rs Bool
abbrev MA := Sg → Rs (List Dat)
abbrev rE (cm : Str → Addr) (K : PySem.W.Frag) : Rep V Dat := fun _ G v d => Rp cm K G v d
abbrev rT : Rep Bool Bool := fun _ _ b c => b = c
abbrev rA (cm : Str → Addr) (K : PySem.W.Frag) : Rep (List V) (List Dat) := fun _ G v d => RpAll cm K G v d
abbrev tE (cm : Str → Addr) (K : PySem.W.Frag) (W : WX) (m : ME) : TE := tG cm K W (rE cm K) m
abbrev tT (cm : Str → Addr) (K : PySem.W.Frag) (W : WX) (m : MT) : TT := tG cm K W rT m
abbrev tA (cm : Str → Addr) (K : PySem.W.Frag) (W : WX) (m : MA) : TA := tG cm K W (rA cm K) m

theorem PE.weak {X : Cx} {e : Expr} {t t' : TE} (h : PE X e t) (i : ∀ σ H Q, t' σ H Q → t σ H Q) : PE X e t' := ⟨fun pins s σ H Q I q => h.run pins s σ H Q I (i σ H Q q)⟩
theorem PT.weak {X : Cx} {e : Expr} {t t' : TT} (h : PT X e t) (i : ∀ σ H Q, t' σ H Q → t σ H Q) : PT X e t' := ⟨fun pins s σ H Q I q => h.run pins s σ H Q I (i σ H Q q)⟩
theorem PW.weak {X : Cx} {e : Expr} {t t' : TT} (h : PW X e t) (i : ∀ σ H Q, t' σ H Q → t σ H Q) : PW X e t' := ⟨fun wh pins s σ H Q I q => h.run wh pins s σ H Q I (i σ H Q q)⟩
theorem PA.weak {X : Cx} {es : List Expr} {t t' : TA} (h : PA X es t) (i : ∀ σ H Q, t' σ H Q → t σ H Q) : PA X es t' := ⟨fun pos pins s σ H Q I q => h.run pos pins s σ H Q I (i σ H Q q)⟩
theorem PS.weak {X : Cx} {st : Stmt} {t t' : TS} (h : PS X st t) (i : ∀ D σ H, t' D σ H → t D σ H) : PS X st t' := ⟨fun pins s σ H D I q => h.run pins s σ H D I (i D σ H q)⟩
theorem PSs.weak {X : Cx} {st : List Stmt} {t t' : TS} (h : PSs X st t) (i : ∀ D σ H, t' D σ H → t D σ H) : PSs X st t' := ⟨fun pins s σ H D I q => h.run pins s σ H D I (i D σ H q)⟩
end Mir

/-! MirC: expressions and their mirrors -/
namespace Mir
open PySem L2

def live (M : List Addr) (H : Hp) : Prop := ∀ m, m ∈ M → H m ≠ none
theorem live_fresh {M : List Addr} {H : Hp} {p : Addr} (l : live M H) (h : H p = none) : p ∉ M := fun z => l p z h
theorem hid_new {M : List Addr} {H : Hp} {p : Addr} {o : HO} (l : live M H) (h : H p = none) : hid M (upd H p o) p = some o := by
  rw [hid_out (live_fresh l h), upd_same]
theorem hid_grow {M : List Addr} {H H' : Hp} (e : Same H H') : Same (hid M H) (hid M H') := hid_same fun a o _ q => e a o q
theorem Rel.live {F : Fm} {S : Sg} {σ : St} {H : Hp} (R : Rel F S σ H) : Mir.live (F.M ++ locs S σ) H := fun _ h => R.hlive h

/-- an operation of two values, of one, of a list of them: by what it does to the trees; the heap only grows -/
def rD (cm : Str → Addr) (K : PySem.W.Frag) (g : Dat → Dat → Option Dat) : R2 := fun x y H Q =>
  ∃ M a b c, live M H ∧ Rp cm K (hid M H) x a ∧ Rp cm K (hid M H) y b ∧ g a b = some c ∧ ∀ v H', Same H H' → Rp cm K (hid M H') v c → Q v H'
def rU (cm : Str → Addr) (K : PySem.W.Frag) (g : Dat → Option Dat) : V → Hp → VK → Prop := fun x H Q =>
  ∃ M a c, live M H ∧ Rp cm K (hid M H) x a ∧ g a = some c ∧ ∀ v H', Same H H' → Rp cm K (hid M H') v c → Q v H'
def rDs (cm : Str → Addr) (K : PySem.W.Frag) (g : List Dat → Option Dat) : List V → Hp → VK → Prop := fun vs H Q =>
  ∃ M ds c, live M H ∧ RpAll cm K (hid M H) vs ds ∧ g ds = some c ∧ ∀ v H', Same H H' → Rp cm K (hid M H') v c → Q v H'

/-! ### the mirrors -/
def mC (d : Dat) : ME := fun S => .ok d S
def mVar (i : Nat) : ME := fun S => match S[i]? with
  | some (.dat d) => .ok d S
  | some (.loc ds) => .ok (.lst ds) (S.set i (.dat (.lst ds)))
  | _ => .bad
def m2 (g : Dat → Dat → Option Dat) (ma mb : ME) : ME := fun S => (ma S).bind fun a S1 => (mb S1).bind fun b S2 => Rs.of (g a b) S2
def m1 (g : Dat → Option Dat) (ma : ME) : ME := fun S => (ma S).bind fun a S1 => Rs.of (g a) S1
def mNil : MA := fun S => .ok [] S
def mCons (ma : ME) (mr : MA) : MA := fun S => (ma S).bind fun a S1 => (mr S1).bind fun r S2 => .ok (a :: r) S2
def mCall (g : List Dat → Option Dat) (ma : MA) : ME := fun S => (ma S).bind fun ds S1 => Rs.of (g ds) S1
def mIf (c : MT) (a b : ME) : ME := fun S => (c S).bind fun t S1 => if t = true then a S1 else b S1
def mAnd (a b : ME) : ME := fun S => (a S).bind fun d S1 => match d with
  | .bl true => b S1
  | .bl false => .ok (.bl false) S1
  | _ => .bad
def mOr (a b : ME) : ME := fun S => (a S).bind fun d S1 => match d with
  | .bl true => .ok (.bl true) S1
  | .bl false => b S1
  | _ => .bad
def mNot (a : ME) : ME := fun S => (a S).bind fun d S1 => match d with
  | .bl b => .ok (.bl !b) S1
  | _ => .bad
def cTruth (a : ME) : MT := fun S => (a S).bind fun d S1 => match d with
  | .bl b => .ok b S1
  | _ => .bad
def cAnd (a b : MT) : MT := fun S => (a S).bind fun t S1 => if t = true then b S1 else .ok false S1
def cOr (a b : MT) : MT := fun S => (a S).bind fun t S1 => if t = true then .ok true S1 else b S1
def cNot (a : MT) : MT := fun S => (a S).bind fun t S1 => .ok (!t) S1
/-- a < b < c -/
def mChain (g g' : Dat → Dat → Option Dat) (a b c : ME) : ME := fun S => (a S).bind fun x S1 => (b S1).bind fun y S2 => (Rs.of (g x y) S2).bind fun z S3 => match z with
  | .bl true => (c S3).bind fun w S4 => Rs.of (g' y w) S4
  | .bl false => .ok (.bl false) S3
  | _ => .bad
/-- the largest list made here -/
def lim : Nat := 1000000
theorem lim_line {n : Nat} (h : n ≤ lim) : n ≤ sizeLine := Nat.le_trans h (by decide)
theorem lim_lt {n : Nat} (h : n < lim) : n < sizeLine := Nat.lt_of_lt_of_le h (by decide)
def mkLst (ds : List Dat) : Option Dat := if ds.length ≤ lim then some (.lst ds) else none
def mkTup (ds : List Dat) : Option Dat := if ds.length ≤ lim then some (.tup ds) else none
def mLst (ma : MA) : ME := mCall mkLst ma
def mTup (ma : MA) : ME := mCall mkTup ma

/-! ### the rules -/
section
variable {X : Cx} {cm : Str → Addr} {W : WX} {a b c e : Expr} {es : List Expr} {ma mb mc : ME} {mr : MA} {ca cb : MT} {pos : Pos} {g g' : Dat → Dat → Option Dat}

theorem ge_const {v : V} {d : Dat} (h : PE X e (tC v)) (r : ∀ G, Rp cm X.K G v d) : PE X e (tE cm X.K W (mC d)) := PE.weak h fun σ H Q ⟨F, S, e1, e2, R, o⟩ => o v H R (Same.refl _) (r _)
theorem ge_int {i j} : PE X (.Constant (.int i) j pos) (tE cm X.K W (mC (.int i))) := ge_const pe_int fun _ => .int i
theorem ge_str {x j} : PE X (.Constant (.str x) j pos) (tE cm X.K W (mC (.str x))) := ge_const pe_str fun _ => .str x
theorem ge_bl {x j} : PE X (.Constant (.bool x) j pos) (tE cm X.K W (mC (.bl x))) := ge_const pe_bl fun _ => .bl x
theorem ge_non {j} : PE X (.Constant .none j pos) (tE cm X.K W (mC .non)) := ge_const pe_non fun _ => .non
theorem ge_var {i : Nat} (h : PE X e (tVar i)) : PE X e (tE cm X.K W (mVar i)) := PE.weak h fun σ H Q ⟨F, S, e1, e2, R, o⟩ => by
  unfold mVar at o
  cases hs : S[i]? with
  | none => rw [hs] at o; exact False.elim o
  | some s =>
    rw [hs] at o
    have hl : i < σ.length := by rw [← R.len]; exact (List.getElem?_eq_some_iff.mp hs).1
    have hv : σ[i]? = some σ[i] := List.getElem?_eq_getElem hl
    have q := R.sl i s _ hs hv
    cases s with
    | no => exact False.elim o
    | own j u => exact False.elim o
    | dat d =>
      generalize σ[i] = w at hv q
      cases q with
      | dat r => exact ⟨_, hv, o _ H R (Same.refl _) (by rw [← e1, ← e2]; exact r)⟩
    | loc ds =>
      generalize σ[i] = w at hv q
      cases q with
      | loc eh r =>
        obtain ⟨R', s', r'⟩ := R.freeze hs hv
        exact ⟨_, hv, o _ H R' s' (by rw [← e1, ← e2]; exact r')⟩
theorem out_of {F : Fm} {S : Sg} {σ : St} {H : Hp} {Q : VK} {o : Option Dat} {K : PySem.W.Frag} (R : Rel F S σ H) (h : out F W σ (vis F S σ H) (rE cm K) Q (Rs.of o S)) :
    ∃ d, o = some d ∧ ∀ v H', Same H H' → Rp cm K (hid (F.M ++ locs S σ) H') v d → Q v H' := by
  cases o with
  | none => exact False.elim h
  | some d => exact ⟨d, rfl, fun v H' s r => h v H' (R.grow s) (vis_grow s) r⟩
theorem ge_op {op} (o : OpR X (binaryOp op) (rD cm X.K g)) (ha : PE X a (tE cm X.K W ma)) (hb : PE X b (tE cm X.K W mb)) : PE X (.BinOp a op b pos) (tE cm X.K W (m2 g ma mb)) :=
  PE.weak (pe_op o ha hb) fun σ H Q ⟨F, S, e1, e2, R, h⟩ => tG_bind e1 e2 R h fun x H1 da S1 R1 s1 p1 h1 => tG_bind e1 e2 R1 h1 fun y H2 db S2 R2 s2 p2 h2 => by
    obtain ⟨d, e, q⟩ := out_of R2 h2
    exact ⟨_, da, db, d, R2.live, p1.mono s2, p2, e, q⟩
theorem ge_cmp {op} (o : OpR X (compareOp op) (rD cm X.K g)) (ha : PE X a (tE cm X.K W ma)) (hb : PE X b (tE cm X.K W mb)) (hm : behindInMarks op b = false) : PE X (.Compare a [op] [b] pos) (tE cm X.K W (m2 g ma mb)) :=
  PE.weak (pe_cmpR o ha hb hm) fun σ H Q ⟨F, S, e1, e2, R, h⟩ => tG_bind e1 e2 R h fun x H1 da S1 R1 s1 p1 h1 => tG_bind e1 e2 R1 h1 fun y H2 db S2 R2 s2 p2 h2 => by
    obtain ⟨d, e, q⟩ := out_of R2 h2
    exact ⟨_, da, db, d, R2.live, p1.mono s2, p2, e, q⟩
theorem ge_ix (o : IxR X (rD cm X.K g)) (ha : PE X a (tE cm X.K W ma)) (hb : PE X b (tE cm X.K W mb)) (hm : PlainIx b) : PE X (.Subscript a b pos) (tE cm X.K W (m2 g ma mb)) :=
  PE.weak (pe_ix o ha hb hm) fun σ H Q ⟨F, S, e1, e2, R, h⟩ => tG_bind e1 e2 R h fun x H1 da S1 R1 s1 p1 h1 => tG_bind e1 e2 R1 h1 fun y H2 db S2 R2 s2 p2 h2 => by
    obtain ⟨d, e, q⟩ := out_of R2 h2
    exact ⟨_, da, db, d, R2.live, p1.mono s2, p2, e, q⟩
theorem ge_un {op} {f : Dat → Option Dat} (o : UnR X (unaryOp op) (rU cm X.K f)) (ha : PE X a (tE cm X.K W ma)) : PE X (.UnaryOp op a pos) (tE cm X.K W (m1 f ma)) :=
  PE.weak (pe_un o ha) fun σ H Q ⟨F, S, e1, e2, R, h⟩ => tG_bind e1 e2 R h fun x H1 da S1 R1 s1 p1 h1 => by
    obtain ⟨d, e, q⟩ := out_of R1 h1
    exact ⟨_, da, d, R1.live, p1, e, q⟩
theorem ge_chain {op op'} (o : OpR X (compareOp op) (rD cm X.K g)) (o' : OpR X (compareOp op') (rD cm X.K g')) (ha : PE X a (tE cm X.K W ma)) (hb : PE X b (tE cm X.K W mb)) (hc : PE X c (tE cm X.K W mc))
    (hm : lastMarks [op, op'] [b, c] = false := by rfl) (hbl : ∀ x y z, g x y = some z → ∃ t, z = .bl t := by intro x y z h; cases x <;> cases y <;> first | cases h | (cases h; exact ⟨_, rfl⟩)) : PE X (.Compare a [op, op'] [b, c] pos) (tE cm X.K W (mChain g g' ma mb mc)) :=
  PE.weak (pe_chain o o' ha hb hc hm) fun σ H Q ⟨F, S, e1, e2, R, h⟩ => tG_bind e1 e2 R h fun x H1 da S1 R1 s1 p1 h1 => tG_bind e1 e2 R1 h1 fun y H2 db S2 R2 s2 p2 h2 => by
    cases hg : g da db with
    | none => rw [hg] at h2; exact False.elim h2
    | some z =>
      rw [hg] at h2
      obtain ⟨t, rfl⟩ := hbl _ _ _ hg
      refine ⟨_, da, db, .bl t, R2.live, p1.mono s2, p2, hg, fun v H3 s3 r3 => ?_⟩
      cases r3
      refine ⟨t, rfl, ?_⟩
      have R3 := R2.grow s3
      cases t with
      | false => exact h2 _ H3 R3 (vis_grow s3) (.bl false)
      | true =>
        refine tG_bind e1 e2 R3 (out_same (vis_grow s3) h2) fun w H4 dw S4 R4 s4 p4 h4 => ?_
        obtain ⟨d, e, q⟩ := out_of R4 h4
        exact ⟨_, db, dw, d, R4.live, (p2.mono (vis_grow s3)).mono s4, p4, e, q⟩
theorem ga_nil : PA X [] (tA cm X.K W mNil) := PA.weak pa_nil fun σ H Q ⟨F, S, e1, e2, R, h⟩ => h [] H R (Same.refl _) .nil
theorem ga_cons (ha : PE X e (tE cm X.K W ma)) (hr : PA X es (tA cm X.K W mr)) (hs : starEach (e :: es) X.env = (false, eval e X.env) :: starEach es X.env := by rfl) : PA X (e :: es) (tA cm X.K W (mCons ma mr)) :=
  PA.weak (pa_cons ha hr hs) fun σ H Q ⟨F, S, e1, e2, R, h⟩ => tG_bind e1 e2 R h fun x H1 da S1 R1 s1 p1 h1 => tG_bind e1 e2 R1 h1 fun y H2 db S2 R2 s2 p2 h2 => h2 _ H2 R2 (Same.refl _) (.cons (p1.mono s2) p2)
theorem ge_callB {x : Str} {p : Pos} {id : String} {f : List Dat → Option Dat} (hc : CallR X (.builtin id) (rDs cm X.K f)) (hg : Gl X x) (hm : X.mg x = none) (hv : bootBuiltins x = some (.builtin id)) (ha : PA X (e :: es) (tA cm X.K W mr))
    (hn : x ≠ "__name__" := by decide) (hdb : (x == ("__debug__" : Str)) = false := by decide) (he : starEach (e :: es) X.env = (false, eval e X.env) :: starEach es X.env := by rfl) (hpl : (backTo pos (starEach es X.env)).any (·.1) = false := by rfl) :
    PE X (.Call (.Name x p) (e :: es) [] pos) (tE cm X.K W (mCall f mr)) :=
  PE.weak (pe_callB hc hg hm hv ha hn hdb he hpl) fun σ H Q ⟨F, S, e1, e2, R, h⟩ => tG_bind e1 e2 R h fun x H1 da S1 R1 s1 p1 h1 => by
    obtain ⟨d, e, q⟩ := out_of R1 h1
    exact ⟨_, da, d, R1.live, p1, e, q⟩
theorem ge_callTy {x : Str} {p : Pos} {T : String} {f : List Dat → Option Dat} (hc : CallR X (.type T) (rDs cm X.K f)) (hg : Gl X x) (hm : X.mg x = none) (hv : bootBuiltins x = some (.type T)) (ha : PA X (e :: es) (tA cm X.K W mr))
    (hn : x ≠ "__name__" := by decide) (hdb : (x == ("__debug__" : Str)) = false := by decide) (he : starEach (e :: es) X.env = (false, eval e X.env) :: starEach es X.env := by rfl) (hpl : (backTo pos (starEach es X.env)).any (·.1) = false := by rfl) :
    PE X (.Call (.Name x p) (e :: es) [] pos) (tE cm X.K W (mCall f mr)) :=
  PE.weak (pe_callTy hc hg hm hv ha hn hdb he hpl) fun σ H Q ⟨F, S, e1, e2, R, h⟩ => tG_bind e1 e2 R h fun x H1 da S1 R1 s1 p1 h1 => by
    obtain ⟨d, e, q⟩ := out_of R1 h1
    exact ⟨_, da, d, R1.live, p1, e, q⟩
theorem ge_lst (ha : PA X es (tA cm X.K W mr)) : PE X (.List es pos) (tE cm X.K W (mLst mr)) :=
  PE.weak (pe_lst ha) fun σ H Q ⟨F, S, e1, e2, R, h⟩ => tG_bind e1 e2 R h fun x H1 da S1 R1 s1 p1 h1 => by
    obtain ⟨d, e, q⟩ := out_of R1 h1
    unfold mkLst at e
    by_cases hl : da.length ≤ lim
    · rw [if_pos hl] at e
      cases e
      refine ⟨by rw [RpAll.length p1]; exact lim_line hl, fun p hp => q _ _ (same_new hp) (.lst (hid_new R1.live hp) (RpAll.mono (hid_grow (same_new hp)) p1))⟩
    · rw [if_neg hl] at e; cases e
theorem ge_tup {k} (ha : PA X es (tA cm X.K W mr)) : PE X (.Tuple es k pos) (tE cm X.K W (mTup mr)) :=
  PE.weak (pe_tup ha) fun σ H Q ⟨F, S, e1, e2, R, h⟩ => tG_bind e1 e2 R h fun x H1 da S1 R1 s1 p1 h1 => by
    obtain ⟨d, e, q⟩ := out_of R1 h1
    unfold mkTup at e
    by_cases hl : da.length ≤ lim
    · rw [if_pos hl] at e
      cases e
      refine ⟨by rw [RpAll.length p1]; exact lim_line hl, fun p hp => q _ _ (same_new hp) (.tup (SqT.of (hid_new R1.live hp)) (RpAll.mono (hid_grow (same_new hp)) p1))⟩
    · rw [if_neg hl] at e; cases e
/-! ### tests -/
theorem gt_val (h : PE X e (tE cm X.K W ma)) (he : ∀ whole, isTrue e X.env whole = (do let v ← whole; standAt e.pos; holding [v] (truthy v)) := by intro _; rfl) : PT X e (tT cm X.K W (cTruth ma)) :=
  PT.weak (pt_val h he) fun σ H Q ⟨F, S, e1, e2, R, h⟩ => tG_bind e1 e2 R h fun x H1 da S1 R1 s1 p1 h1 => by
    cases p1 with
    | bl t => exact ⟨t, rfl, h1 t H1 R1 (Same.refl _) rfl⟩
    | _ => exact False.elim h1
theorem gt_not (h : PT X e (tT cm X.K W ca)) : PT X (.UnaryOp .Not e pos) (tT cm X.K W (cNot ca)) :=
  PT.weak (pt_not h) fun σ H Q ⟨F, S, e1, e2, R, h⟩ => tG_bind e1 e2 R h fun x H1 da S1 R1 s1 p1 h1 => by
    cases p1
    exact h1 _ H1 R1 (Same.refl _) rfl
theorem gw_and1 (h : PT X e (tT cm X.K W ca)) : PW X (.BoolOp .And [e] pos) (tT cm X.K W ca) := pw_and1 h
theorem gw_or1 (h : PT X e (tT cm X.K W ca)) : PW X (.BoolOp .Or [e] pos) (tT cm X.K W ca) := pw_or1 h
theorem gw_and (ha : PT X a (tT cm X.K W ca)) (hb : PW X (.BoolOp .And (b :: es) pos) (tT cm X.K W cb)) : PW X (.BoolOp .And (a :: b :: es) pos) (tT cm X.K W (cAnd ca cb)) :=
  PW.weak (pw_and ha hb) fun σ H Q ⟨F, S, e1, e2, R, h⟩ => tG_bind e1 e2 R h fun x H1 da S1 R1 s1 p1 h1 => by
    cases p1
    cases x with
    | true => exact ⟨F, S1, e1, e2, R1, h1⟩
    | false => exact h1 _ H1 R1 (Same.refl _) rfl
theorem gw_or (ha : PT X a (tT cm X.K W ca)) (hb : PW X (.BoolOp .Or (b :: es) pos) (tT cm X.K W cb)) : PW X (.BoolOp .Or (a :: b :: es) pos) (tT cm X.K W (cOr ca cb)) :=
  PW.weak (pw_or ha hb) fun σ H Q ⟨F, S, e1, e2, R, h⟩ => tG_bind e1 e2 R h fun x H1 da S1 R1 s1 p1 h1 => by
    cases p1
    cases x with
    | false => exact ⟨F, S1, e1, e2, R1, h1⟩
    | true => exact h1 _ H1 R1 (Same.refl _) rfl
theorem ge_and (ha : PE X a (tE cm X.K W ma)) (hb : PE X (.BoolOp .And (b :: es) pos) (tE cm X.K W mb)) : PE X (.BoolOp .And (a :: b :: es) pos) (tE cm X.K W (mAnd ma mb)) :=
  PE.weak (pe_and ha hb) fun σ H Q ⟨F, S, e1, e2, R, h⟩ => tG_bind e1 e2 R h fun x H1 da S1 R1 s1 p1 h1 => by
    cases p1 with
    | bl t =>
      refine ⟨t, rfl, ?_⟩
      cases t with
      | true => exact ⟨F, S1, e1, e2, R1, h1⟩
      | false => exact h1 _ H1 R1 (Same.refl _) (.bl false)
    | _ => exact False.elim h1
theorem ge_or (ha : PE X a (tE cm X.K W ma)) (hb : PE X (.BoolOp .Or (b :: es) pos) (tE cm X.K W mb)) : PE X (.BoolOp .Or (a :: b :: es) pos) (tE cm X.K W (mOr ma mb)) :=
  PE.weak (pe_or ha hb) fun σ H Q ⟨F, S, e1, e2, R, h⟩ => tG_bind e1 e2 R h fun x H1 da S1 R1 s1 p1 h1 => by
    cases p1 with
    | bl t =>
      refine ⟨t, rfl, ?_⟩
      cases t with
      | false => exact ⟨F, S1, e1, e2, R1, h1⟩
      | true => exact h1 _ H1 R1 (Same.refl _) (.bl true)
    | _ => exact False.elim h1
theorem ge_one {op} (h : PE X a (tE cm X.K W ma)) : PE X (.BoolOp op [a] pos) (tE cm X.K W ma) := pe_one h
theorem ge_not (ha : PE X a (tE cm X.K W ma)) : PE X (.UnaryOp .Not a pos) (tE cm X.K W (mNot ma)) :=
  PE.weak (pe_not ha) fun σ H Q ⟨F, S, e1, e2, R, h⟩ => tG_bind e1 e2 R h fun x H1 da S1 R1 s1 p1 h1 => by
    cases p1 with
    | bl t => exact ⟨t, rfl, h1 _ H1 R1 (Same.refl _) (.bl _)⟩
    | _ => exact False.elim h1
theorem ge_if (hc : PT X c (tT cm X.K W ca)) (ha : PE X a (tE cm X.K W ma)) (hb : PE X b (tE cm X.K W mb)) : PE X (.IfExp c a b pos) (tE cm X.K W (mIf ca ma mb)) :=
  PE.weak (pe_ifExp hc ha hb) fun σ H Q ⟨F, S, e1, e2, R, h⟩ => tG_bind e1 e2 R h fun x H1 da S1 R1 s1 p1 h1 => by
    cases p1
    cases x with
    | true => exact ⟨F, S1, e1, e2, R1, h1⟩
    | false => exact ⟨F, S1, e1, e2, R1, h1⟩
end
end Mir

/-! MirD: what the operators and built-ins do to the trees -/
namespace Mir
open PySem L2

def intD (f : Int → Int → Option Dat) : Dat → Dat → Option Dat
  | .int i, .int j => f i j
  | _, _ => none
def addD : Dat → Dat → Option Dat
  | .int i, .int j => some (.int (i + j))
  | .str x, .str y => if x.length + y.length ≤ lim then some (.str (x ++ y)) else none
  | .lst xs, .lst ys => if xs.length + ys.length ≤ lim then some (.lst (xs ++ ys)) else none
  | .tup xs, .tup ys => if xs ≠ [] ∧ xs.length + ys.length ≤ lim then some (.tup (xs ++ ys)) else none
  | _, _ => none
abbrev subD := intD fun i j => some (.int (i - j))
def small64 (i : Int) : Bool := decide (-(2 ^ 64) < i) && decide (i < 2 ^ 64)
def mulI (i j : Int) : Option Dat := if small64 i || small64 j then some (.int (i * j)) else none
def mulD : Dat → Dat → Option Dat
  | .int i, .int j => mulI i j
  | .lst xs, .int j => if -(2 ^ 63) ≤ j ∧ j < 2 ^ 63 ∧ xs.length * j.toNat ≤ lim then some (.lst (List.replicate j.toNat xs).flatten) else none
  | _, _ => none
abbrev modD := intD fun i j => if 0 < j then some (.int (i % j)) else none
abbrev fdivD := intD fun i j => if 0 < j ∧ j < 1073741824 then some (.int (i / j)) else none
abbrev powD := intD fun i j => if 0 ≤ j ∧ j ≤ 1000000 ∧ i.natAbs < 2 ^ 64 then some (.int (i ^ j.toNat)) else none
abbrev ltD := intD fun i j => some (.bl (decide (i < j)))
abbrev leD := intD fun i j => some (.bl (decide (i ≤ j)))
abbrev gtD := intD fun i j => some (.bl (decide (j < i)))
abbrev geD := intD fun i j => some (.bl (decide (j ≤ i)))
def isND (a b : Dat) : Option Dat := match b with
  | .non => match a with
    | .non => some (.bl true)
    | _ => some (.bl false)
  | _ => none
def notND (a b : Dat) : Option Dat := match b with
  | .non => match a with
    | .non => some (.bl false)
    | _ => some (.bl true)
  | _ => none
def negD : Dat → Option Dat
  | .int i => some (.int (-i))
  | _ => none
mutual
def toPy : Dat → Option PyData
  | .non => some .none
  | .bl b => some (.bool b)
  | .int i => some (.int i)
  | .str x => some (.str x)
  | .lst ds => match toPyAll ds with
    | some ps => some (.list ps)
    | none => none
  | .tup ds => match toPyAll ds with
    | some ps => some (.tuple ps)
    | none => none
  | .ro ds => match toPyAll ds with
    | some ps => some (.list ps)
    | none => none
  | .ins _ _ => none
  | .dic _ => none
def toPyAll : List Dat → Option (List PyData)
  | [] => some []
  | d :: ds => match toPy d, toPyAll ds with
    | some p, some ps => some (p :: ps)
    | _, _ => none
end
def eqP (a b : Dat) : Option Bool := match toPy a, toPy b with
  | some p, some q => if SeqAt.shaped p && SeqAt.shaped q then some (PyData.eqv p q) else none
  | _, _ => none
def eqB : Dat → Dat → Option Bool
  | .int i, .int j => some (decide (i = j))
  | .str x, .str y => some (decide (x = y))
  | .bl x, .bl y => some (decide (x = y))
  | .non, .non => some true
  | a, b => eqP a b
def eqD (a b : Dat) : Option Dat := (eqB a b).map Dat.bl
def neD (a b : Dat) : Option Dat := (eqB a b).map fun t => Dat.bl (!t)
def ixD : Dat → Dat → Option Dat
  | .lst ds, .int i => atI ds i
  | .tup ds, .int i => atI ds i
  | .ro ds, .int i => atI ds i
  | .str x, .int i => if x.length ≤ lim then (atI x.cps.toList i).map fun c => Dat.str ⟨#[c]⟩ else none
  | _, _ => none
def flatD : Dat → Option V
  | .non => some .non
  | .bl b => some (.bl b)
  | .int i => some (.int i)
  | .str x => some (.str x)
  | _ => none
def flatAll : List Dat → Option (List V)
  | [] => some []
  | d :: ds => match flatD d, flatAll ds with
    | some v, some vs => some (v :: vs)
    | _, _ => none
def inB (a b : Dat) : Option Bool := match flatD a with
  | none => none
  | some v => match b with
    | .lst ds => (flatAll ds).map fun vs => inV v vs
    | .tup ds => (flatAll ds).map fun vs => inV v vs
    | _ => none
def inD (a b : Dat) : Option Dat := (inB a b).map Dat.bl
def notInD (a b : Dat) : Option Dat := (inB a b).map fun t => Dat.bl (!t)
/-! calls -/
def intsOf : List Dat → Option (List Int)
  | [] => some []
  | .int i :: ds => match intsOf ds with
    | some r => some (i :: r)
    | none => none
  | _ => none
def boolsOf : List Dat → Option (List Bool)
  | [] => some []
  | .bl i :: ds => match boolsOf ds with
    | some r => some (i :: r)
    | none => none
  | _ => none
def strsOf : List Dat → Option (List Str)
  | [] => some []
  | .str i :: ds => match strsOf ds with
    | some r => some (i :: r)
    | none => none
  | _ => none
def maxI : List Int → Int
  | [] => 0
  | [x] => x
  | x :: r => max x (maxI r)
def minI : List Int → Int
  | [] => 0
  | [x] => x
  | x :: r => min x (minI r)
def lenC : List Dat → Option Dat
  | [.lst ds] => some (.int ds.length)
  | [.tup ds] => some (.int ds.length)
  | [.ro ds] => some (.int ds.length)
  | [.str x] => if x.length ≤ lim then some (.int x.length) else none
  | _ => none
def absC : List Dat → Option Dat
  | [.int i] => some (.int (if i < 0 then -i else i))
  | _ => none
def maxC : List Dat → Option Dat
  | [.int i, .int j] => some (.int (if j > i then j else i))
  | [.lst ds] => match intsOf ds with
    | some (n :: r) => some (.int (maxI (n :: r)))
    | _ => none
  | _ => none
def minC : List Dat → Option Dat
  | [.int i, .int j] => some (.int (if j < i then j else i))
  | [.lst ds] => match intsOf ds with
    | some (n :: r) => some (.int (minI (n :: r)))
    | _ => none
  | _ => none
def sumC : List Dat → Option Dat
  | [.lst ds] => (intsOf ds).map fun ns => .int ns.sum
  | _ => none
def allC : List Dat → Option Dat
  | [.lst ds] => (boolsOf ds).map fun ns => .bl (ns.all id)
  | _ => none
def anyC : List Dat → Option Dat
  | [.lst ds] => (boolsOf ds).map fun ns => .bl (ns.any id)
  | _ => none
def intC : List Dat → Option Dat
  | [.int i] => some (.int i)
  | [.bl b] => some (.int (if b = true then 1 else 0))
  | _ => none
def divmodC : List Dat → Option Dat
  | [.int i, .int j] => if 0 < j ∧ j < 1073741824 then some (.tup [.int (i / j), .int (i % j)]) else none
  | _ => none
def listC : List Dat → Option Dat
  | [.lst ds] => some (.lst ds)
  | [.tup ds] => some (.lst ds)
  | [.ro ds] => some (.lst ds)
  | _ => none
def tupleC : List Dat → Option Dat
  | [.lst ds] => some (.tup ds)
  | [.ro ds] => some (.tup ds)
  | [.tup ds] => some (.tup ds)
  | _ => none
/-- the text of a number is short enough -/
def showI (i : Int) : Bool := decide (i.natAbs.log2 < 1920)
def strC : List Dat → Option Dat
  | [.int i] => if showI i then some (.str (toString i)) else none
  | [.str x] => some (.str x)
  | [.non] => some (.str "None")
  | [.bl b] => some (.str (if b then "True" else "False"))
  | _ => none
def showP (p : PyData) : Option Str := if p.showable && !p.hasDict && decide (p.depth ≤ 60) && decide (p.shown.length ≤ sizeLine) then some p.shown else none
def reprS (d : Dat) : Option Str := match toPy d with
  | some p => showP p
  | none => none
def reprC : List Dat → Option Dat
  | [d] => (reprS d).map Dat.str
  | _ => none

section
variable {X : Cx} {cm : Str → Addr}
theorem o_int {f : Value → Value → Sem Value} {C : Int → Int → Prop} {g : Int → Int → V} {h : Int → Int → Option Dat} (o : OpR X f (rI C g)) (k : ∀ i j d, h i j = some d → C i j ∧ ∀ G, Rp cm X.K G (g i j) d) : OpR X f (rD cm X.K (intD h)) := by
  rintro pins s σ H x y v u Q I rx ry ⟨M, a, b, c, lv, pa, pb, e, q⟩
  cases a with
  | int i =>
    cases b with
    | int j =>
      cases pa
      cases pb
      obtain ⟨k1, k2⟩ := k i j c e
      exact o pins s σ H _ _ v u Q I rx ry ⟨i, j, rfl, rfl, k1, q _ H (Same.refl _) (k2 _)⟩
    | _ => cases e
  | _ => cases e
theorem o_int0 {f : Value → Value → Sem Value} {g : Int → Int → V} {h : Int → Int → Option Dat} (o : OpR X f (rI0 g)) (k : ∀ i j d, h i j = some d → ∀ G, Rp cm X.K G (g i j) d) : OpR X f (rD cm X.K (intD h)) := by
  rintro pins s σ H x y v u Q I rx ry ⟨M, a, b, c, lv, pa, pb, e, q⟩
  cases a with
  | int i =>
    cases b with
    | int j =>
      cases pa
      cases pb
      exact o pins s σ H _ _ v u Q I rx ry ⟨i, j, rfl, rfl, q _ H (Same.refl _) (k i j c e _)⟩
    | _ => cases e
  | _ => cases e
theorem o_add : OpR X (binaryOp .Add) (rD cm X.K addD) := by
  rintro pins s σ H x y v u Q I rx ry ⟨M, a, b, c, lv, pa, pb, e, q⟩
  cases a with
  | int i =>
    cases b with
    | int j =>
      cases pa; cases pb; cases e
      exact op_add pins s σ H _ _ v u Q I rx ry ⟨i, j, rfl, rfl, q _ H (Same.refl _) (.int _)⟩
    | _ => cases e
  | str i =>
    cases b with
    | str j =>
      cases pa; cases pb
      unfold addD at e
      by_cases hz : i.length + j.length ≤ lim
      · dsimp only at e
        rw [if_pos hz] at e; cases e
        exact op_add_str pins s σ H _ _ v u Q I rx ry ⟨i, j, rfl, rfl, lim_line hz, q _ H (Same.refl _) (.str _)⟩
      · dsimp only at e
        rw [if_neg hz] at e; cases e
    | _ => cases e
  | lst i =>
    cases b with
    | lst j =>
      unfold addD at e
      by_cases hz : i.length + j.length ≤ lim
      · dsimp only at e
        rw [if_pos hz] at e; cases e
        cases pa with
        | lst ha ra =>
          cases pb with
          | lst hb rb =>
            refine op_cat pins s σ H _ _ v u Q I rx ry ⟨_, _, _, _, rfl, rfl, hid_le _ _ ha, hid_le _ _ hb, ?_, fun p hp => q _ _ (same_new hp) (.lst (hid_new lv hp) ((ra.append rb).mono (hid_grow (same_new hp))))⟩
            rw [ra.length, rb.length]; exact lim_line hz
      · dsimp only at e
        rw [if_neg hz] at e; cases e
    | _ => cases e
  | tup i =>
    cases b with
    | tup j =>
      unfold addD at e
      by_cases hz : i ≠ [] ∧ i.length + j.length ≤ lim
      · dsimp only at e
        rw [if_pos hz] at e; cases e
        cases pa with
        | tup ha ra =>
          cases pb with
          | tup hb rb =>
            refine op_catT pins s σ H _ _ v u Q I rx ry ⟨_, _, _, _, rfl, rfl, sqT_same hid_le ha, sqT_same hid_le hb, fun z => hz.1 ?_, ?_, fun z => q _ _ (Same.refl _) ?_, fun _ p hp => q _ _ (same_new hp) (.tup (SqT.of (hid_new lv hp)) ((ra.append rb).mono (hid_grow (same_new hp))))⟩
            · have l := ra.length
              rw [z] at l
              cases i with
              | nil => rfl
              | cons _ _ => cases l
            · rw [ra.length, rb.length]; exact lim_line hz.2
            · subst z
              cases rb
              rw [List.append_nil]
              exact .tup ha ra
      · dsimp only at e
        rw [if_neg hz] at e; cases e
    | _ => cases e
  | _ => cases e
theorem o_sub : OpR X (binaryOp .Sub) (rD cm X.K subD) := o_int0 op_sub fun i j d e G => by cases e; exact .int _
theorem o_mul : OpR X (binaryOp .Mult) (rD cm X.K mulD) := by
  rintro pins s σ H x y v u Q I rx ry ⟨M, a, b, c, lv, pa, pb, e, q⟩
  cases a with
  | int i =>
    cases b with
    | int j =>
      cases pa; cases pb
      have e' : mulI i j = some c := e
      unfold mulI small64 at e'
      by_cases hz : (decide (-(2 ^ 64) < i) && decide (i < 2 ^ 64) || decide (-(2 ^ 64) < j) && decide (j < 2 ^ 64)) = true
      · rw [if_pos hz] at e'; cases e'
        simp only [Bool.or_eq_true, Bool.and_eq_true, decide_eq_true_eq] at hz
        exact op_mul pins s σ H _ _ v u Q I rx ry ⟨i, j, rfl, rfl, hz, q _ H (Same.refl _) (.int _)⟩
      · rw [if_neg hz] at e'; cases e'
    | _ => cases e
  | lst i =>
    cases b with
    | int j =>
      cases pb
      unfold mulD at e
      by_cases hz : -(2 ^ 63) ≤ j ∧ j < 2 ^ 63 ∧ i.length * j.toNat ≤ lim
      · dsimp only at e
        rw [if_pos hz] at e; cases e
        cases pa with
        | lst ha ra =>
          have rr : ∀ n : Nat, RpAll cm X.K (hid M H) (List.replicate n _).flatten (List.replicate n i).flatten := fun n => by
            induction n with
            | zero => exact .nil
            | succ n ih => rw [List.replicate_succ, List.replicate_succ, List.flatten_cons, List.flatten_cons]; exact ra.append ih
          refine op_rep pins s σ H _ _ v u Q I rx ry ⟨_, j, _, rfl, rfl, hid_le _ _ ha, hz.1, hz.2.1, ?_, fun p hp => q _ _ (same_new hp) (.lst (hid_new lv hp) ((rr _).mono (hid_grow (same_new hp))))⟩
          rw [ra.length]; exact lim_line hz.2.2
      · dsimp only at e
        rw [if_neg hz] at e; cases e
    | _ => cases e
  | _ => cases e
theorem o_mod : OpR X (binaryOp .Mod) (rD cm X.K modD) := o_int op_mod fun i j d e => by
  by_cases hz : 0 < j
  · rw [if_pos hz] at e; cases e; exact ⟨hz, fun _ => .int _⟩
  · rw [if_neg hz] at e; cases e
theorem o_fdiv : OpR X (binaryOp .FloorDiv) (rD cm X.K fdivD) := o_int op_fdiv fun i j d e => by
  by_cases hz : 0 < j ∧ j < 1073741824
  · rw [if_pos hz] at e; cases e; exact ⟨hz, fun _ => .int _⟩
  · rw [if_neg hz] at e; cases e
theorem o_pow : OpR X (binaryOp .Pow) (rD cm X.K powD) := o_int op_pow fun i j d e => by
  by_cases hz : 0 ≤ j ∧ j ≤ 1000000 ∧ i.natAbs < 2 ^ 64
  · rw [if_pos hz] at e; cases e; exact ⟨hz, fun _ => .int _⟩
  · rw [if_neg hz] at e; cases e
theorem o_lt : OpR X (compareOp .Lt) (rD cm X.K ltD) := o_int0 op_lt fun i j d e G => by cases e; exact .bl _
theorem o_le : OpR X (compareOp .LtE) (rD cm X.K leD) := o_int0 op_le fun i j d e G => by cases e; exact .bl _
theorem o_gt : OpR X (compareOp .Gt) (rD cm X.K gtD) := o_int0 op_gt fun i j d e G => by cases e; exact .bl _
theorem o_ge : OpR X (compareOp .GtE) (rD cm X.K geD) := o_int0 op_ge fun i j d e G => by cases e; exact .bl _
theorem rp_non {K : PySem.W.Frag} {G : Hp} {x : V} {a : Dat} (p : Rp cm K G x a) : (decide (x = .non)) = (match a with | .non => true | _ => false) := by
  cases p <;> rfl
theorem o_isN : OpR X (compareOp .Is) (rD cm X.K isND) := by
  rintro pins s σ H x y v u Q I rx ry ⟨M, a, b, c, lv, pa, pb, e, q⟩
  cases b with
  | non =>
    cases pb
    have d := rp_non pa
    refine op_isN pins s σ H _ _ v u Q I rx ry ⟨rfl, ?_⟩
    rw [d]
    cases a <;> (cases e; exact q _ H (Same.refl _) (.bl _))
  | _ => cases e
theorem o_notN : OpR X (compareOp .IsNot) (rD cm X.K notND) := by
  rintro pins s σ H x y v u Q I rx ry ⟨M, a, b, c, lv, pa, pb, e, q⟩
  cases b with
  | non =>
    cases pb
    have d := rp_non pa
    refine op_notN pins s σ H _ _ v u Q I rx ry ⟨rfl, ?_⟩
    rw [d]
    cases a <;> (cases e; exact q _ H (Same.refl _) (.bl _))
  | _ => cases e
theorem u_neg : UnR X (unaryOp .USub) (rU cm X.K negD) := by
  rintro pins s σ H x v Q I rx ⟨M, a, c, lv, pa, e, q⟩
  cases a with
  | int i =>
    cases pa; cases e
    exact un_neg pins s σ H _ v Q I rx ⟨i, rfl, q _ H (Same.refl _) (.int _)⟩
  | _ => cases e
mutual
theorem dp_of {K : PySem.W.Frag} {G : Hp} : ∀ {v : V} {d : Dat} {p : PyData}, Rp cm K G v d → toPy d = some p → Dp K G v p
  | _, _, _, .non, e => by cases e; exact .non
  | _, _, _, .bl b, e => by cases e; exact .bl b
  | _, _, _, .int b, e => by cases e; exact .int b
  | _, _, _, .str b, e => by cases e; exact .str b
  | _, _, p, .lst (ds := ds) s r, e => by
    rw [toPy] at e
    cases h : toPyAll ds with
    | none => rw [h] at e; cases e
    | some ps => rw [h] at e; cases e; exact .lst (SqL.of s) (dpAll_of r h)
  | _, _, p, .ro (ds := ds) s r, e => by
    rw [toPy] at e
    cases h : toPyAll ds with
    | none => rw [h] at e; cases e
    | some ps => rw [h] at e; cases e; exact .lst s (dpAll_of r h)
  | _, _, p, .tup (ds := ds) s r, e => by
    rw [toPy] at e
    cases h : toPyAll ds with
    | none => rw [h] at e; cases e
    | some ps => rw [h] at e; cases e; exact .tup s (dpAll_of r h)
  | _, _, _, .ins s r, e => by rw [toPy] at e; cases e
  | _, _, _, .dic s r, e => by rw [toPy] at e; cases e
theorem dpAll_of {K : PySem.W.Frag} {G : Hp} : ∀ {vs : List V} {ds : List Dat} {ps : List PyData}, RpAll cm K G vs ds → toPyAll ds = some ps → DpAll K G vs ps
  | _, _, _, .nil, e => by rw [toPyAll] at e; cases e; exact .nil
  | _, _, _, .cons (d := d) (ds := ds) a b, e => by
    rw [toPyAll] at e
    cases h : toPy d with
    | none => rw [h] at e; cases e
    | some p =>
      cases h2 : toPyAll ds with
      | none => rw [h, h2] at e; cases e
      | some ps => rw [h, h2] at e; cases e; exact .cons (dp_of a h) (dpAll_of b h2)
end
theorem eqP_eq {t : Bool} {M : List Addr} {H : Hp} {x y : V} {a b : Dat} (pa : Rp cm X.K (hid M H) x a) (pb : Rp cm X.K (hid M H) y b) (e : eqP a b = some t) :
    ∃ d f, Dp X.K H x d ∧ Dp X.K H y f ∧ SeqAt.shaped d = true ∧ SeqAt.shaped f = true ∧ PyData.eqv d f = t := by
  unfold eqP at e
  cases ha : toPy a with
  | none => rw [ha] at e; cases e
  | some p =>
    cases hb : toPy b with
    | none => rw [ha, hb] at e; cases e
    | some r =>
      rw [ha, hb] at e
      dsimp only at e
      by_cases hz : (SeqAt.shaped p && SeqAt.shaped r) = true
      · rw [if_pos hz] at e
        cases e
        rw [Bool.and_eq_true] at hz
        exact ⟨p, r, dp_of (pa.mono hid_le) ha, dp_of (pb.mono hid_le) hb, hz.1, hz.2, rfl⟩
      · rw [if_neg hz] at e; cases e
/-- == of plain data -/
theorem eqB_cases {t : Bool} {M : List Addr} {H : Hp} {x y : V} {a b : Dat} (pa : Rp cm X.K (hid M H) x a) (pb : Rp cm X.K (hid M H) y b) (e : eqB a b = some t) :
    (scal x y = true ∧ decide (x = y) = t) ∨ ∃ d f, Dp X.K H x d ∧ Dp X.K H y f ∧ SeqAt.shaped d = true ∧ SeqAt.shaped f = true ∧ PyData.eqv d f = t := by
  have gen : eqP a b = some t → (scal x y = true ∧ decide (x = y) = t) ∨ ∃ d f, Dp X.K H x d ∧ Dp X.K H y f ∧ SeqAt.shaped d = true ∧ SeqAt.shaped f = true ∧ PyData.eqv d f = t := fun e => .inr (eqP_eq pa pb e)
  cases a with
  | int i =>
    cases b with
    | int j => cases pa; cases pb; cases e; exact .inl ⟨rfl, by simp⟩
    | _ => exact gen (by simpa [eqB] using e)
  | str i =>
    cases b with
    | str j => cases pa; cases pb; cases e; exact .inl ⟨rfl, by simp⟩
    | _ => exact gen (by simpa [eqB] using e)
  | bl i =>
    cases b with
    | bl j => cases pa; cases pb; cases e; exact .inl ⟨rfl, by simp⟩
    | _ => exact gen (by simpa [eqB] using e)
  | non =>
    cases b with
    | non => cases pa; cases pb; cases e; exact .inl ⟨rfl, by simp⟩
    | _ => exact gen (by simpa [eqB] using e)
  | _ => exact gen (by simpa [eqB] using e)
theorem o_eq (hu : X.A.units + 64 < cLine) : OpR X (compareOp .Eq) (rD cm X.K eqD) := by
  rintro pins s σ H x y v u Q I rx ry ⟨M, a, b, c, lv, pa, pb, e, q⟩
  unfold eqD at e
  cases h : eqB a b with
  | none => rw [h] at e; cases e
  | some t =>
    rw [h] at e
    cases e
    rcases eqB_cases pa pb h with ⟨h1, rfl⟩ | ⟨d, f, h1, h2, h3, h4, rfl⟩
    · exact op_eq pins s σ H _ _ v u Q I rx ry ⟨h1, q _ H (Same.refl _) (.bl _)⟩
    · exact op_eqD hu pins s σ H _ _ v u Q I rx ry ⟨d, f, h1, h2, h3, h4, q _ H (Same.refl _) (.bl _)⟩
theorem o_ne (hu : X.A.units + 64 < cLine) : OpR X (compareOp .NotEq) (rD cm X.K neD) := by
  rintro pins s σ H x y v u Q I rx ry ⟨M, a, b, c, lv, pa, pb, e, q⟩
  unfold neD at e
  cases h : eqB a b with
  | none => rw [h] at e; cases e
  | some t =>
    rw [h] at e
    cases e
    rcases eqB_cases pa pb h with ⟨h1, rfl⟩ | ⟨d, f, h1, h2, h3, h4, rfl⟩
    · exact op_ne pins s σ H _ _ v u Q I rx ry ⟨h1, q _ H (Same.refl _) (.bl _)⟩
    · exact op_neD hu pins s σ H _ _ v u Q I rx ry ⟨d, f, h1, h2, h3, h4, q _ H (Same.refl _) (.bl _)⟩
theorem at_rp {K : PySem.W.Frag} {G : Hp} {vs : List V} {ds : List Dat} {i : Int} {d : Dat} (r : RpAll cm K G vs ds) (e : atI ds i = some d) : ∃ v, atI vs i = some v ∧ Rp cm K G v d := by
  unfold atI at e ⊢
  rw [r.length]
  cases h : ixN ds.length i with
  | none => rw [h] at e; cases e
  | some j => rw [h] at e; exact r.get e
theorem i_ix : IxR X (rD cm X.K ixD) := by
  rintro ve vs pins s σ H x y v u Q I rx ry ⟨M, a, b, c, lv, pa, pb, e, q⟩ hp
  cases b with
  | int i =>
    cases pb
    cases a with
    | lst ds =>
      cases pa with
      | lst ha ra =>
        obtain ⟨w, e1, e2⟩ := at_rp ra e
        exact ix_list ve vs pins s σ H _ _ v u Q I rx ry ⟨_, _, i, w, rfl, rfl, SqL.of (hid_le _ _ ha), e1, q _ H (Same.refl _) e2⟩ hp
    | ro ds =>
      cases pa with
      | ro ha ra =>
        obtain ⟨w, e1, e2⟩ := at_rp ra e
        exact ix_list ve vs pins s σ H _ _ v u Q I rx ry ⟨_, _, i, w, rfl, rfl, Same.seq hid_le ha, e1, q _ H (Same.refl _) e2⟩ hp
    | tup ds =>
      cases pa with
      | tup ha ra =>
        obtain ⟨w, e1, e2⟩ := at_rp ra e
        exact ix_tup ve vs pins s σ H _ _ v u Q I rx ry ⟨_, _, i, w, rfl, rfl, sqT_same hid_le ha, e1, q _ H (Same.refl _) e2⟩ hp
    | str z =>
      cases pa
      unfold ixD at e
      dsimp only at e
      by_cases hz : z.length ≤ lim
      · rw [if_pos hz] at e
        cases h : atI z.cps.toList i with
        | none => rw [h] at e; cases e
        | some n =>
          rw [h] at e; cases e
          exact ix_str ve vs pins s σ H _ _ v u Q I rx ry ⟨z, i, n, rfl, rfl, lim_line hz, h, q _ H (Same.refl _) (.str _)⟩ hp
      · rw [if_neg hz] at e; cases e
    | _ => cases e
  | _ => cases a <;> cases e
theorem flat_rp {K : PySem.W.Frag} {G : Hp} {v w : V} {d : Dat} (r : Rp cm K G v d) (e : flatD d = some w) : v = w ∧ flatV v = true := by
  cases r <;> cases e <;> exact ⟨rfl, rfl⟩
theorem flatAll_rp {K : PySem.W.Frag} {G : Hp} : ∀ {vs : List V} {ds : List Dat} {ws : List V}, RpAll cm K G vs ds → flatAll ds = some ws → vs = ws ∧ vs.all flatV = true
  | _, _, _, .nil, e => by cases e; exact ⟨rfl, rfl⟩
  | _, _, _, .cons (d := d) (ds := ds) a b, e => by
    unfold flatAll at e
    cases h : flatD d with
    | none => rw [h] at e; cases e
    | some p =>
      cases h2 : flatAll ds with
      | none => rw [h, h2] at e; cases e
      | some ps =>
        rw [h, h2] at e; cases e
        obtain ⟨e1, f1⟩ := flat_rp a h
        obtain ⟨e2, f2⟩ := flatAll_rp b h2
        subst e1; subst e2
        exact ⟨rfl, by rw [List.all_cons, f1, f2]; rfl⟩
theorem inB_rp {t : Bool} {M : List Addr} {H : Hp} {x y : V} {a b : Dat} (pa : Rp cm X.K (hid M H) x a) (pb : Rp cm X.K (hid M H) y b) (e : inB a b = some t) :
    ∃ p xs, y = .ref p ∧ (SqL X.K H p xs ∨ SqT X.K H p xs) ∧ flatV x = true ∧ xs.all flatV = true ∧ inV x xs = t := by
  unfold inB at e
  cases ha : flatD a with
  | none => rw [ha] at e; cases e
  | some w =>
    rw [ha] at e
    obtain ⟨rfl, f1⟩ := flat_rp pa ha
    cases b with
    | lst ds =>
      cases pb with
      | lst hb rb =>
        dsimp only at e
        cases h : flatAll ds with
        | none => rw [h] at e; cases e
        | some ws =>
          rw [h] at e; cases e
          obtain ⟨rfl, f2⟩ := flatAll_rp rb h
          exact ⟨_, _, rfl, .inl (SqL.of (hid_le _ _ hb)), f1, f2, rfl⟩
    | tup ds =>
      cases pb with
      | tup hb rb =>
        dsimp only at e
        cases h : flatAll ds with
        | none => rw [h] at e; cases e
        | some ws =>
          rw [h] at e; cases e
          obtain ⟨rfl, f2⟩ := flatAll_rp rb h
          exact ⟨_, _, rfl, .inr (sqT_same hid_le hb), f1, f2, rfl⟩
    | _ => cases e
theorem o_in : OpR X (compareOp .In) (rD cm X.K inD) := by
  rintro pins s σ H x y v u Q I rx ry ⟨M, a, b, c, lv, pa, pb, e, q⟩
  unfold inD at e
  cases h : inB a b with
  | none => rw [h] at e; cases e
  | some t =>
    rw [h] at e; cases e
    obtain ⟨p, xs, e1, e2, e3, e4, rfl⟩ := inB_rp pa pb h
    exact op_in_seq pins s σ H _ _ v u Q I rx ry ⟨p, xs, e1, e2, e3, e4, q _ H (Same.refl _) (.bl _)⟩
theorem o_notIn : OpR X (compareOp .NotIn) (rD cm X.K notInD) := by
  rintro pins s σ H x y v u Q I rx ry ⟨M, a, b, c, lv, pa, pb, e, q⟩
  unfold notInD at e
  cases h : inB a b with
  | none => rw [h] at e; cases e
  | some t =>
    rw [h] at e; cases e
    obtain ⟨p, xs, e1, e2, e3, e4, rfl⟩ := inB_rp pa pb h
    exact op_notIn_seq pins s σ H _ _ v u Q I rx ry ⟨p, xs, e1, e2, e3, e4, q _ H (Same.refl _) (.bl _)⟩
end
end Mir

/-! MirE: built-in functions -/
namespace Mir
open PySem L2
section
variable {X : Cx} {cm : Str → Addr}
theorem ints_rp {K : PySem.W.Frag} {G : Hp} : ∀ {vs : List V} {ds : List Dat} {ns : List Int}, RpAll cm K G vs ds → intsOf ds = some ns → vs = ns.map V.int
  | _, _, _, .nil, e => by cases e; rfl
  | _, _, _, .cons (d := d) (ds := ds) a b, e => by
    cases d with
    | int i =>
      cases a
      unfold intsOf at e
      cases h : intsOf ds with
      | none => rw [h] at e; cases e
      | some r => rw [h] at e; cases e; rw [ints_rp b h]; rfl
    | _ => cases e
theorem bools_rp {K : PySem.W.Frag} {G : Hp} : ∀ {vs : List V} {ds : List Dat} {ns : List Bool}, RpAll cm K G vs ds → boolsOf ds = some ns → vs = ns.map V.bl
  | _, _, _, .nil, e => by cases e; rfl
  | _, _, _, .cons (d := d) (ds := ds) a b, e => by
    cases d with
    | bl i =>
      cases a
      unfold boolsOf at e
      cases h : boolsOf ds with
      | none => rw [h] at e; cases e
      | some r => rw [h] at e; cases e; rw [bools_rp b h]; rfl
    | _ => cases e
theorem strs_rp {K : PySem.W.Frag} {G : Hp} : ∀ {vs : List V} {ds : List Dat} {ns : List Str}, RpAll cm K G vs ds → strsOf ds = some ns → vs = ns.map V.str
  | _, _, _, .nil, e => by cases e; rfl
  | _, _, _, .cons (d := d) (ds := ds) a b, e => by
    cases d with
    | str i =>
      cases a
      unfold strsOf at e
      cases h : strsOf ds with
      | none => rw [h] at e; cases e
      | some r => rw [h] at e; cases e; rw [strs_rp b h]; rfl
    | _ => cases e
theorem maxI_mem : ∀ (n : Int) (r : List Int), maxI (n :: r) ∈ n :: r ∧ ∀ y ∈ n :: r, y ≤ maxI (n :: r)
  | n, [] => ⟨List.mem_singleton.mpr rfl, fun y h => by rw [List.mem_singleton.mp h]; exact Int.le_refl _⟩
  | n, m :: r => by
    obtain ⟨h1, h2⟩ := maxI_mem m r
    show max n (maxI (m :: r)) ∈ _ ∧ ∀ y ∈ _, y ≤ max n (maxI (m :: r))
    refine ⟨?_, fun y hy => ?_⟩
    · by_cases h : n ≤ maxI (m :: r)
      · rw [Int.max_eq_right h]; exact List.mem_cons_of_mem _ h1
      · rw [Int.max_eq_left (by omega)]; exact List.mem_cons_self ..
    · rcases List.mem_cons.mp hy with e | e
      · rw [e]; exact Int.le_max_left _ _
      · exact Int.le_trans (h2 y e) (Int.le_max_right _ _)
theorem minI_mem : ∀ (n : Int) (r : List Int), minI (n :: r) ∈ n :: r ∧ ∀ y ∈ n :: r, minI (n :: r) ≤ y
  | n, [] => ⟨List.mem_singleton.mpr rfl, fun y h => by rw [List.mem_singleton.mp h]; exact Int.le_refl _⟩
  | n, m :: r => by
    obtain ⟨h1, h2⟩ := minI_mem m r
    show min n (minI (m :: r)) ∈ _ ∧ ∀ y ∈ _, min n (minI (m :: r)) ≤ y
    refine ⟨?_, fun y hy => ?_⟩
    · by_cases h : n ≤ minI (m :: r)
      · rw [Int.min_eq_left h]; exact List.mem_cons_self ..
      · rw [Int.min_eq_right (by omega)]; exact List.mem_cons_of_mem _ h1
    · rcases List.mem_cons.mp hy with e | e
      · rw [e]; exact Int.min_le_left _ _
      · exact Int.le_trans (Int.min_le_right _ _) (h2 y e)
theorem c_len : CallR X (.builtin "len") (rDs cm X.K lenC) := by
  rintro pins s σ H xs us Q I r ⟨M, ds, c, lv, pa, e, q⟩
  cases pa with
  | nil => cases e
  | cons p1 p2 =>
    cases p2 with
    | cons _ _ => cases p1 <;> cases e
    | nil =>
      cases p1 with
      | lst ha ra => cases e; exact call_len pins s σ H _ us Q I r ⟨_, _, rfl, .inl ⟨_, SqL.of (hid_le _ _ ha), ra.length.symm⟩, q _ H (Same.refl _) (.int _)⟩
      | ro ha ra => cases e; exact call_len pins s σ H _ us Q I r ⟨_, _, rfl, .inl ⟨_, Same.seq hid_le ha, ra.length.symm⟩, q _ H (Same.refl _) (.int _)⟩
      | tup ha ra => cases e; exact call_len pins s σ H _ us Q I r ⟨_, _, rfl, .inr ⟨_, sqT_same hid_le ha, ra.length.symm⟩, q _ H (Same.refl _) (.int _)⟩
      | str z =>
        unfold lenC at e
        dsimp only at e
        by_cases hz : z.length ≤ lim
        · rw [if_pos hz] at e; cases e
          exact call_len pins s σ H _ us Q I r ⟨_, _, rfl, ⟨lim_line hz, rfl⟩, q _ H (Same.refl _) (.int _)⟩
        · rw [if_neg hz] at e; cases e
      | _ => cases e
theorem c_abs : CallR X (.builtin "abs") (rDs cm X.K absC) := by
  rintro pins s σ H xs us Q I r ⟨M, ds, c, lv, pa, e, q⟩
  cases pa with
  | nil => cases e
  | cons p1 p2 =>
    cases p2 with
    | cons _ _ => cases p1 <;> cases e
    | nil =>
      cases p1 with
      | int i => cases e; exact call_abs pins s σ H _ us Q I r ⟨i, rfl, q _ H (Same.refl _) (.int _)⟩
      | _ => cases e
theorem c_max (hc : X.calm = true) : CallR X (.builtin "max") (rDs cm X.K maxC) := by
  rintro pins s σ H xs us Q I r ⟨M, ds, c, lv, pa, e, q⟩
  cases pa with
  | nil => cases e
  | cons p1 p2 =>
    cases p2 with
    | cons p2 p3 =>
      cases p3 with
      | cons _ _ => cases p1 <;> cases p2 <;> cases e
      | nil =>
        cases p1 with
        | int i =>
          cases p2 with
          | int j => cases e; exact call_max2 hc pins s σ H _ us Q I r ⟨i, j, rfl, q _ H (Same.refl _) (.int _)⟩
          | _ => cases e
        | _ => cases e
    | nil =>
      cases p1 with
      | @lst a vs ds ha ra =>
        have e' : (match intsOf ds with | some (n :: r) => some (Dat.int (maxI (n :: r))) | _ => none) = some c := e
        cases h : intsOf ds with
        | none => rw [h] at e'; cases e'
        | some ns =>
          rw [h] at e'
          cases ns with
          | nil => cases e'
          | cons n r' =>
            cases e'
            have z := ints_rp ra h
            subst z
            obtain ⟨m1, m2⟩ := maxI_mem n r'
            refine cr_max hc pins s σ H _ us Q I r ⟨_, n :: r', rfl, SqL.of (hid_le _ _ ha), Nat.succ_pos _, fun m hm hle => ?_⟩
            rw [Int.le_antisymm (m2 m hm) (hle _ m1)]
            exact q _ H (Same.refl _) (.int _)
      | _ => cases e
theorem c_min (hc : X.calm = true) : CallR X (.builtin "min") (rDs cm X.K minC) := by
  rintro pins s σ H xs us Q I r ⟨M, ds, c, lv, pa, e, q⟩
  cases pa with
  | nil => cases e
  | cons p1 p2 =>
    cases p2 with
    | cons p2 p3 =>
      cases p3 with
      | cons _ _ => cases p1 <;> cases p2 <;> cases e
      | nil =>
        cases p1 with
        | int i =>
          cases p2 with
          | int j => cases e; exact call_min2 hc pins s σ H _ us Q I r ⟨i, j, rfl, q _ H (Same.refl _) (.int _)⟩
          | _ => cases e
        | _ => cases e
    | nil =>
      cases p1 with
      | @lst a vs ds ha ra =>
        have e' : (match intsOf ds with | some (n :: r) => some (Dat.int (minI (n :: r))) | _ => none) = some c := e
        cases h : intsOf ds with
        | none => rw [h] at e'; cases e'
        | some ns =>
          rw [h] at e'
          cases ns with
          | nil => cases e'
          | cons n r' =>
            cases e'
            have z := ints_rp ra h
            subst z
            obtain ⟨m1, m2⟩ := minI_mem n r'
            refine cr_min hc pins s σ H _ us Q I r ⟨_, n :: r', rfl, SqL.of (hid_le _ _ ha), Nat.succ_pos _, fun m hm hle => ?_⟩
            rw [Int.le_antisymm (hle _ m1) (m2 m hm)]
            exact q _ H (Same.refl _) (.int _)
      | _ => cases e
theorem c_sum (hc : X.calm = true) : CallR X (.builtin "sum") (rDs cm X.K sumC) := by
  rintro pins s σ H xs us Q I r ⟨M, ds, c, lv, pa, e, q⟩
  cases pa with
  | nil => cases e
  | cons p1 p2 =>
    cases p2 with
    | cons _ _ => cases p1 <;> cases e
    | nil =>
      cases p1 with
      | @lst a vs ds ha ra =>
        have e' : (intsOf ds).map (fun ns => Dat.int ns.sum) = some c := e
        cases h : intsOf ds with
        | none => rw [h] at e'; cases e'
        | some ns =>
          rw [h] at e'; cases e'
          have z := ints_rp ra h
          subst z
          exact cr_sum hc pins s σ H _ us Q I r ⟨_, ns, rfl, SqL.of (hid_le _ _ ha), q _ H (Same.refl _) (.int _)⟩
      | _ => cases e
theorem c_all (hc : X.calm = true) : CallR X (.builtin "all") (rDs cm X.K allC) := by
  rintro pins s σ H xs us Q I r ⟨M, ds, c, lv, pa, e, q⟩
  cases pa with
  | nil => cases e
  | cons p1 p2 =>
    cases p2 with
    | cons _ _ => cases p1 <;> cases e
    | nil =>
      cases p1 with
      | @lst a vs ds ha ra =>
        have e' : (boolsOf ds).map (fun ns => Dat.bl (ns.all id)) = some c := e
        cases h : boolsOf ds with
        | none => rw [h] at e'; cases e'
        | some ns =>
          rw [h] at e'; cases e'
          have z := bools_rp ra h
          subst z
          exact cr_all hc pins s σ H _ us Q I r ⟨_, ns, rfl, SqL.of (hid_le _ _ ha), q _ H (Same.refl _) (.bl _)⟩
      | _ => cases e
theorem c_any (hc : X.calm = true) : CallR X (.builtin "any") (rDs cm X.K anyC) := by
  rintro pins s σ H xs us Q I r ⟨M, ds, c, lv, pa, e, q⟩
  cases pa with
  | nil => cases e
  | cons p1 p2 =>
    cases p2 with
    | cons _ _ => cases p1 <;> cases e
    | nil =>
      cases p1 with
      | @lst a vs ds ha ra =>
        have e' : (boolsOf ds).map (fun ns => Dat.bl (ns.any id)) = some c := e
        cases h : boolsOf ds with
        | none => rw [h] at e'; cases e'
        | some ns =>
          rw [h] at e'; cases e'
          have z := bools_rp ra h
          subst z
          exact cr_any hc pins s σ H _ us Q I r ⟨_, ns, rfl, SqL.of (hid_le _ _ ha), q _ H (Same.refl _) (.bl _)⟩
      | _ => cases e
theorem c_int : CallR X (.type "int") (rDs cm X.K intC) := by
  rintro pins s σ H xs us Q I r ⟨M, ds, c, lv, pa, e, q⟩
  cases pa with
  | nil => cases e
  | cons p1 p2 =>
    cases p2 with
    | cons _ _ => cases p1 <;> cases e
    | nil =>
      cases p1 with
      | int i => cases e; exact call_int1 pins s σ H _ us Q I r (.inl ⟨i, rfl, q _ H (Same.refl _) (.int _)⟩)
      | bl i => cases e; exact call_int1 pins s σ H _ us Q I r (.inr ⟨i, rfl, q _ H (Same.refl _) (.int _)⟩)
      | _ => cases e
theorem c_divmod : CallR X (.builtin "divmod") (rDs cm X.K divmodC) := by
  rintro pins s σ H xs us Q I r ⟨M, ds, c, lv, pa, e, q⟩
  cases pa with
  | nil => cases e
  | cons p1 p2 =>
    cases p2 with
    | nil => cases p1 <;> cases e
    | cons p2 p3 =>
      cases p3 with
      | cons _ _ => cases p1 <;> cases p2 <;> cases e
      | nil =>
        cases p1 with
        | int i =>
          cases p2 with
          | int j =>
            unfold divmodC at e
            dsimp only at e
            by_cases hz : 0 < j ∧ j < 1073741824
            · rw [if_pos hz] at e; cases e
              exact call_divmod pins s σ H _ us Q I r ⟨i, j, rfl, hz, fun p hp => q _ _ (same_new hp) (.tup (SqT.of (hid_new lv hp)) (.cons (.int _) (.cons (.int _) .nil)))⟩
            · rw [if_neg hz] at e; cases e
          | _ => cases e
        | _ => cases e
theorem c_list : CallR X (.type "list") (rDs cm X.K listC) := by
  rintro pins s σ H xs us Q I r ⟨M, ds, c, lv, pa, e, q⟩
  cases pa with
  | nil => cases e
  | cons p1 p2 =>
    cases p2 with
    | cons _ _ => cases p1 <;> cases e
    | nil =>
      cases p1 with
      | lst ha ra => cases e; exact call_list_of pins s σ H _ us Q I r ⟨_, _, rfl, .inl (SqL.of (hid_le _ _ ha)), fun p hp => q _ _ (same_new hp) (.lst (hid_new lv hp) (ra.mono (hid_grow (same_new hp))))⟩
      | ro ha ra => cases e; exact call_list_of pins s σ H _ us Q I r ⟨_, _, rfl, .inl (Same.seq hid_le ha), fun p hp => q _ _ (same_new hp) (.lst (hid_new lv hp) (ra.mono (hid_grow (same_new hp))))⟩
      | tup ha ra => cases e; exact call_list_of pins s σ H _ us Q I r ⟨_, _, rfl, .inr (sqT_same hid_le ha), fun p hp => q _ _ (same_new hp) (.lst (hid_new lv hp) (ra.mono (hid_grow (same_new hp))))⟩
      | _ => cases e
theorem c_tuple : CallR X (.type "tuple") (rDs cm X.K tupleC) := by
  rintro pins s σ H xs us Q I r ⟨M, ds, c, lv, pa, e, q⟩
  cases pa with
  | nil => cases e
  | cons p1 p2 =>
    cases p2 with
    | cons _ _ => cases p1 <;> cases e
    | nil =>
      cases p1 with
      | lst ha ra => cases e; exact call_tuple_of pins s σ H _ us Q I r ⟨_, _, rfl, .inl ⟨SqL.of (hid_le _ _ ha), fun p hp => q _ _ (same_new hp) (.tup (SqT.of (hid_new lv hp)) (ra.mono (hid_grow (same_new hp))))⟩⟩
      | ro ha ra => cases e; exact call_tuple_of pins s σ H _ us Q I r ⟨_, _, rfl, .inl ⟨Same.seq hid_le ha, fun p hp => q _ _ (same_new hp) (.tup (SqT.of (hid_new lv hp)) (ra.mono (hid_grow (same_new hp))))⟩⟩
      | tup ha ra => cases e; exact call_tuple_of pins s σ H _ us Q I r ⟨_, _, rfl, .inr ⟨sqT_same hid_le ha, q _ H (Same.refl _) (.tup ha ra)⟩⟩
      | _ => cases e
theorem c_str : CallR X (.type "str") (rDs cm X.K strC) := by
  rintro pins s σ H xs us Q I r ⟨M, ds, c, lv, pa, e, q⟩
  cases pa with
  | nil => cases e
  | cons p1 p2 =>
    cases p2 with
    | cons _ _ => cases p1 <;> cases e
    | nil =>
      cases p1 with
      | int i =>
        unfold strC at e
        dsimp only at e
        by_cases hz : showI i = true
        · rw [if_pos hz] at e; cases e
          exact call_str_int pins s σ H _ us Q I r ⟨i, rfl, of_decide_eq_true hz, q _ H (Same.refl _) (.str _)⟩
        · rw [if_neg hz] at e; cases e
      | str x => cases e; exact SkE.call_str_str pins s σ H _ us Q I r ⟨x, rfl, q _ H (Same.refl _) (.str _)⟩
      | non =>
        cases e
        obtain ⟨u, rfl, rx⟩ := vals1 r
        obtain rfl : u = Value.none := rx
        exact PySem.P.str_of_none ⟨.str _, H, I.tok _, ⟨_, rfl⟩, q _ H (Same.refl _) (.str _)⟩
      | bl b =>
        cases e
        obtain ⟨u, rfl, rx⟩ := vals1 r
        obtain rfl : u = Value.bool b := rx
        exact PySem.P.str_of_bool ⟨.str _, H, I.tok _, ⟨_, rfl⟩, q _ H (Same.refl _) (.str _)⟩
      | _ => cases e
theorem showP_ok {p : PyData} {x : Str} (e : showP p = some x) : p.showable = true ∧ p.hasDict = false ∧ p.depth ≤ 60 ∧ p.shown.length ≤ sizeLine ∧ x = p.shown := by
  unfold showP at e
  by_cases hz : (p.showable && !p.hasDict && decide (p.depth ≤ 60) && decide (p.shown.length ≤ sizeLine)) = true
  · rw [if_pos hz] at e
    cases e
    simp only [Bool.and_eq_true, decide_eq_true_eq, Bool.not_eq_true'] at hz
    exact ⟨hz.1.1.1, hz.1.1.2, hz.1.2, hz.2, rfl⟩
  · rw [if_neg hz] at e; cases e
/-- the text of a value, by whatever way of showing it -/
theorem repr_ok {pins : List (Addr × Obj)} {s : Shared} {σ : St} {H : Hp} {Q : VK} {M : List Addr} {x : V} {u : Value} {d : Dat} {z : Str} (I : L2.Inv X pins σ H s) (hg : X.A.guards = some []) (hu : X.A.units + 64 < cLine) (p : Rp cm X.K (hid M H) x d) (rx : RelV x u) (e : reprS d = some z)
    (q : Q (.str z) H) : wpAny (model X.prog X.w) X.A (call (.builtin "repr") [u]) (EP X pins σ Q) X.xe s := by
  unfold reprS at e
  cases hp : toPy d with
  | none => rw [hp] at e; cases e
  | some py =>
    rw [hp] at e
    obtain ⟨h1, h2, h3, h4, rfl⟩ := showP_ok e
    have dp := dp_of (p.mono hid_le) hp
    obtain ⟨as, rd⟩ := Dp.reads I py x u dp rx
    have ref : ∀ a, u = .ref a → wpAny (model X.prog X.w) X.A (call (.builtin "repr") [u]) (EP X pins σ Q) X.xe s := fun a ea => by
      subst ea
      exact repr_of_reads' rd h1 (PyData.noDict_hsm h2) hg (by omega) (fun _ _ z => z) (fun h' t tk k => ⟨.str py.shown, H, I.kept k, ⟨_, rfl⟩, q⟩) h4
    cases dp with
    | non =>
      obtain rfl : u = Value.none := rx
      exact PySem.P.repr_of_none ⟨.str _, H, I.tok _, ⟨_, rfl⟩, q⟩
    | bl b =>
      obtain rfl : u = Value.bool b := rx
      have eb : PyData.shown (.bool b) = if b = true then Str.ofString "True" else Str.ofString "False" := by cases b <;> rfl
      rw [eb] at q
      exact PySem.P.repr_of_bool ⟨.str _, H, I.tok _, ⟨_, rfl⟩, q⟩
    | int i =>
      obtain ⟨t, rfl⟩ := rx
      exact PySem.P.repr_of_int (of_decide_eq_true (by simpa [PyData.showable] using h1)) ⟨.str _, H, I.tok _, ⟨_, rfl⟩, q⟩
    | str i =>
      obtain ⟨t, rfl⟩ := rx
      exact PySem.P.repr_of_str ⟨.str _, H, I.tok _, ⟨_, rfl⟩, q⟩ h4
    | lst hs _ =>
      obtain rfl : u = Value.ref _ := rx
      exact ref _ rfl
    | tup hs _ =>
      obtain rfl : u = Value.ref _ := rx
      exact ref _ rfl
theorem c_repr (hg : X.A.guards = some []) (hu : X.A.units + 64 < cLine) : CallR X (.builtin "repr") (rDs cm X.K reprC) := by
  rintro pins s σ H xs us Q I r ⟨M, ds, c, lv, pa, e, q⟩
  cases pa with
  | nil => cases e
  | @cons v d vs ds p1 p2 =>
    cases p2 with
    | cons _ _ => cases p1 <;> cases e
    | nil =>
      obtain ⟨u, rfl, rx⟩ := vals1 r
      have e' : (reprS d).map Dat.str = some c := e
      cases h : reprS d with
      | none => rw [h] at e'; cases e'
      | some z =>
        rw [h] at e'; cases e'
        exact repr_ok I hg hu p1 rx h (q _ H (Same.refl _) (.str _))
end
end Mir

/-! MirF: statements and their mirrors -/
namespace Mir
open PySem L2

inductive Fl where
  | nx
  | rt (d : Dat)
  | bk
  | ct
abbrev MS := Sg → Rs Fl
def outS (F : Fm) (W : WX) (G : Hp) (D : Ends) : Rs Fl → Prop
  | .ok .nx S => ∀ σ H, Rel F S σ H → Same G (vis F S σ H) → D.nx σ H
  | .ok (.rt d) S => ∀ v σ H, Rel F S σ H → Same G (vis F S σ H) → Rp F.cm F.K (vis F S σ H) v d → D.rt v H
  | .ok .bk S => ∀ σ H, Rel F S σ H → Same G (vis F S σ H) → D.bk σ H
  | .ok .ct S => ∀ σ H, Rel F S σ H → Same G (vis F S σ H) → D.ct σ H
  | .exc c fs S => ∀ σ, outX F W σ G c fs S
  | .bad => False
def tS (cm : Str → Addr) (K : PySem.W.Frag) (W : WX) (m : MS) : TS := fun D σ H => ∃ F S, F.cm = cm ∧ F.K = K ∧ Rel F S σ H ∧ outS F W (vis F S σ H) D (m S)
theorem outS_same {F : Fm} {W : WX} {G G' : Hp} {D : Ends} {r : Rs Fl} (e : Same G G') (h : outS F W G D r) : outS F W G' D r := by
  cases r with
  | ok a S =>
    cases a with
    | nx => exact fun σ H a b => h σ H a (e.trans b)
    | rt d => exact fun v σ H a b c => h v σ H a (e.trans b) c
    | bk => exact fun σ H a b => h σ H a (e.trans b)
    | ct => exact fun σ H a b => h σ H a (e.trans b)
  | exc c fs S => exact fun σ da gs H a b c d => h σ da gs H a (e.trans b) c d
  | bad => exact h
/-- an expression first, then what a statement does with it -/
theorem tG_bindS {β α : Type} {cm : Str → Addr} {K : PySem.W.Frag} {W : WX} {R : Rep β α} {m : Sg → Rs α} {k : α → Sg → Rs Fl} {σ : St} {H : Hp} {D : Ends} {Q' : β → Hp → Prop} {F : Fm} {S : Sg}
    (e1 : F.cm = cm) (e2 : F.K = K) (r : Rel F S σ H) (h : outS F W (vis F S σ H) D ((m S).bind k))
    (q : ∀ x H1 a S1, Rel F S1 σ H1 → Same (vis F S σ H) (vis F S1 σ H1) → R σ (vis F S1 σ H1) x a → outS F W (vis F S1 σ H1) D (k a S1) → Q' x H1) : tG cm K W R m σ H Q' := by
  refine ⟨F, S, e1, e2, r, ?_⟩
  cases hm : m S with
  | ok a S1 => rw [hm] at h; exact fun v H1 a1 a2 a3 => q v H1 a S1 a1 a2 a3 (outS_same a2 h)
  | exc c fs S1 => rw [hm] at h; exact h σ
  | bad => rw [hm] at h; exact h

/-- behind a store -/
def outT (F : Fm) (W : WX) (G : Hp) (Q : St → Hp → Prop) : Rs Unit → Prop
  | .ok _ S => ∀ σ H, Rel F S σ H → Same G (vis F S σ H) → Q σ H
  | .exc c fs S => ∀ σ, outX F W σ G c fs S
  | .bad => False
theorem outT_same {F : Fm} {W : WX} {G G' : Hp} {Q : St → Hp → Prop} {r : Rs Unit} (e : Same G G') (h : outT F W G Q r) : outT F W G' Q r := by
  cases r with
  | ok a S => exact fun σ H a b => h σ H a (e.trans b)
  | exc c fs S => exact fun σ da gs H a b c d => h σ da gs H a (e.trans b) c d
  | bad => exact h
theorem tG_bindT {β α : Type} {cm : Str → Addr} {K : PySem.W.Frag} {W : WX} {R : Rep β α} {m : Sg → Rs α} {k : α → Sg → Rs Unit} {σ : St} {H : Hp} {Q : St → Hp → Prop} {Q' : β → Hp → Prop} {F : Fm} {S : Sg}
    (e1 : F.cm = cm) (e2 : F.K = K) (r : Rel F S σ H) (h : outT F W (vis F S σ H) Q ((m S).bind k))
    (q : ∀ x H1 a S1, Rel F S1 σ H1 → Same (vis F S σ H) (vis F S1 σ H1) → R σ (vis F S1 σ H1) x a → outT F W (vis F S1 σ H1) Q (k a S1) → Q' x H1) : tG cm K W R m σ H Q' := by
  refine ⟨F, S, e1, e2, r, ?_⟩
  cases hm : m S with
  | ok a S1 => rw [hm] at h; exact fun v H1 a1 a2 a3 => q v H1 a S1 a1 a2 a3 (outT_same a2 h)
  | exc c fs S1 => rw [hm] at h; exact h σ
  | bad => rw [hm] at h; exact h

/-! ### mirrors -/
def mNext : MS := fun S => .ok .nx S
def mSeq (a b : MS) : MS := fun S => match a S with
  | .ok .nx S1 => b S1
  | r => r
def mRet (m : ME) : MS := fun S => (m S).bind fun d S1 => .ok (.rt d) S1
def mRetN : MS := fun S => .ok (.rt .non) S
def mDrop (m : ME) : MS := fun S => (m S).bind fun _ S1 => .ok .nx S1
def mIfS (c : MT) (a b : MS) : MS := fun S => (c S).bind fun t S1 => if t = true then a S1 else b S1
def mBreak : MS := fun S => .ok .bk S
def mCont : MS := fun S => .ok .ct S
def mNever : MS := fun _ => .bad
/-- targets: the value, the state behind -/
abbrev MG := Dat → Sg → Rs Unit
abbrev MGs := List Dat → Sg → Rs Unit
def gNm (i : Nat) : MG := fun d S => .ok () (S.set i (.dat d))
def gNl : MGs := fun ds S => match ds with
  | [] => .ok () S
  | _ => .bad
def gCs (g : MG) (r : MGs) : MGs := fun ds S => match ds with
  | d :: ds => (g d S).bind fun _ S1 => r ds S1
  | [] => .bad
def gTp (r : MGs) : MG := fun d S => match d with
  | .tup ds => r ds S
  | _ => .bad
/-- x[i] = .., x a list of one's own or lent -/
def setAt (i : Nat) (k : Int) (d : Dat) (S : Sg) : Rs Unit := match S[i]? with
  | some (.loc ds) => match ixN ds.length k with
    | some j => .ok () (S.set i (.loc (ds.set j d)))
    | none => .bad
  | some (.own n (.lst ds)) => match ixN ds.length k with
    | some j => .ok () (S.set i (.own n (.lst (ds.set j d))))
    | none => .bad
  | _ => .bad
def mAsg (m : ME) (g : MG) : MS := fun S => (m S).bind fun d S1 => (g d S1).bind fun _ S2 => .ok .nx S2
/-- a new list, the def's own -/
def mSetL (i : Nat) (ma : MA) : MS := fun S => (ma S).bind fun ds S1 => if ds.length ≤ lim then .ok .nx (S1.set i (.loc ds)) else .bad
def appAt (i : Nat) (d : Dat) (S : Sg) : Rs Fl := match S[i]? with
  | some (.loc ds) => if ds.length < lim then .ok .nx (S.set i (.loc (ds ++ [d]))) else .bad
  | some (.own n (.lst ds)) => if ds.length < lim then .ok .nx (S.set i (.own n (.lst (ds ++ [d])))) else .bad
  | _ => .bad
def isMut (i : Nat) (S : Sg) : Bool := match S[i]? with
  | some (.loc _) => true
  | some (.own _ (.lst _)) => true
  | _ => false
def gIx (i : Nat) (mi : ME) : MG := fun d S => if isMut i S then (mi S).bind fun k S1 => match k with
  | .int k => if isMut i S1 then setAt i k d S1 else .bad
  | _ => .bad else .bad
def mApp (i : Nat) (m : ME) : MS := fun S => if isMut i S then (m S).bind fun d S1 => if isMut i S1 then appAt i d S1 else .bad else .bad
def mPar (i j : Nat) (ma : MA) : MS := fun S => (ma S).bind fun ds S1 => match ds with
  | [a, b] => .ok .nx ((S1.set i (.dat a)).set j (.dat b))
  | _ => .bad
def mAug (i : Nat) (g : Dat → Dat → Option Dat) (m : ME) : MS := fun S => match S[i]? with
  | some (.dat a) => (m S).bind fun b S1 => (Rs.of (g a b) S1).bind fun c S2 => .ok .nx (S2.set i (.dat c))
  | _ => .bad
/-- the items one after another -/
def loopS (g : MG) (b : MS) : List Dat → MS
  | [], S => .ok .nx S
  | d :: ds, S => (g d S).bind fun _ S1 => match b S1 with
    | .ok .nx S2 => loopS g b ds S2
    | .ok .ct S2 => loopS g b ds S2
    | .ok .bk S2 => .ok .nx S2
    | r => r
def mFor (mi : Sg → Rs (List Dat)) (g : MG) (b : MS) : MS := fun S => (mi S).bind fun ds S1 => loopS g b ds S1
def whileN (c : MT) (b : MS) : Nat → MS
  | 0, _ => .bad
  | n + 1, S => (c S).bind fun t S1 => if t = true then (match b S1 with
    | .ok .nx S2 => whileN c b n S2
    | .ok .ct S2 => whileN c b n S2
    | .ok .bk S2 => .ok .nx S2
    | r => r) else .ok .nx S1
open Classical in
/-- as many turns as it takes -/
noncomputable def mWhile (c : MT) (b : MS) : MS := fun S => if h : ∃ n, whileN c b n S ≠ .bad then whileN c b (choose h) S else .bad

/-! ### rules -/
def rIt (cm : Str → Addr) (K : PySem.W.Frag) : Rep It (List Dat) := fun _ G J ds =>
  (∀ (i : Nat) (H : Hp), Same G H → i < ds.length → J.go i H) ∧ (∀ H : Hp, Same G H → J.stop ds.length H) ∧
    ∀ (i : Nat) (H : Hp) (x : V) (H' : Hp) (M : List Addr), Same G (hid M H) → live M H → J.yld i H x H' → i < ds.length → Same H H' ∧ ∃ d, ds[i]? = some d ∧ Rp cm K (hid M H') x d
def tGt (cm : Str → Addr) (K : PySem.W.Frag) (W : WX) (g : MG) : TG := fun v σ H Q => ∃ F S d, F.cm = cm ∧ F.K = K ∧ Rel F S σ H ∧ Rp cm K (vis F S σ H) v d ∧ outT F W (vis F S σ H) Q (g d S)
def tGts (cm : Str → Addr) (K : PySem.W.Frag) (W : WX) (g : MGs) : TGs := fun vs σ H Q => ∃ F S ds, F.cm = cm ∧ F.K = K ∧ Rel F S σ H ∧ RpAll cm K (vis F S σ H) vs ds ∧ outT F W (vis F S σ H) Q (g ds S)
theorem PG.weak {X : Cx} {e : Expr} {t t' : TG} (h : PG X e t) (i : ∀ v σ H Q, t' v σ H Q → t v σ H Q) : PG X e t' := ⟨fun pins s σ H v u Q I r q => h.run pins s σ H v u Q I r (i v σ H Q q)⟩
theorem PGs.weak {X : Cx} {e : List Expr} {t t' : TGs} (h : PGs X e t) (i : ∀ v σ H Q, t' v σ H Q → t v σ H Q) : PGs X e t' := ⟨fun pins s σ H v u Q I r q => h.run pins s σ H v u Q I r (i v σ H Q q)⟩
theorem PI.weak {X : Cx} {tg e : Expr} {t t' : TI} (h : PI X tg e t) (i : ∀ σ H Q, t' σ H Q → t σ H Q) : PI X tg e t' := ⟨fun pins s σ H Q I q => h.run pins s σ H Q I (i σ H Q q)⟩
section
variable {X : Cx} {cm : Str → Addr} {W : WX} {a b c e tg : Expr} {es : List Expr} {ma mb mc : ME} {mr : MA} {ca cb : MT} {pos : Pos} {st : Stmt} {sts sts' : List Stmt} {s1 s2 : MS} {g : MG} {gs : MGs}
theorem gs_nil : PSs X [] (tS cm X.K W mNext) := PSs.weak pss_nil fun D σ H ⟨F, S, e1, e2, R, h⟩ => h σ H R (Same.refl _)
theorem gs_cons (h1 : PS X st (tS cm X.K W s1)) (h2 : PSs X sts (tS cm X.K W s2)) : PSs X (st :: sts) (tS cm X.K W (mSeq s1 s2)) :=
  PSs.weak (pss_cons h1 h2) fun D σ H ⟨F, S, e1, e2, R, h⟩ => ⟨F, S, e1, e2, R, by
    unfold mSeq at h
    cases hm : s1 S with
    | bad => rw [hm] at h; exact h
    | exc c fs S1 => rw [hm] at h; exact h
    | ok f S1 =>
      rw [hm] at h
      cases f with
      | nx => exact fun σ' H' R' s' => ⟨F, S1, e1, e2, R', outS_same s' h⟩
      | rt d => exact h
      | bk => exact h
      | ct => exact h⟩
theorem gs_one (h1 : PS X st (tS cm X.K W s1)) : PSs X [st] (tS cm X.K W s1) := pss_one h1
theorem gs_ret (h : PE X e (tE cm X.K W ma)) : PS X (.Return (some e) pos) (tS cm X.K W (mRet ma)) :=
  PS.weak (ps_ret h) fun D σ H ⟨F, S, e1, e2, R, h⟩ => tG_bindS e1 e2 R h fun x H1 da S1 R1 s1 p1 h1 => h1 x σ H1 R1 (Same.refl _) (by rw [e1, e2]; exact p1)
theorem gs_retN : PS X (.Return none pos) (tS cm X.K W mRetN) := PS.weak ps_retN fun D σ H ⟨F, S, e1, e2, R, h⟩ => h .non σ H R (Same.refl _) .non
theorem gs_expr (h : PE X e (tE cm X.K W ma)) (hs : swapsWith e none pos.line X.env = pure false := by rfl) : PS X (.Expr e pos) (tS cm X.K W (mDrop ma)) :=
  PS.weak (ps_expr h hs) fun D σ H ⟨F, S, e1, e2, R, h⟩ => tG_bindS e1 e2 R h fun x H1 da S1 R1 s1 p1 h1 => h1 σ H1 R1 (Same.refl _)
theorem gs_pass : PS X (.Pass pos) (tS cm X.K W mNext) := PS.weak ps_pass fun D σ H ⟨F, S, e1, e2, R, h⟩ => h σ H R (Same.refl _)
theorem gs_break : PS X (.Break pos) (tS cm X.K W mBreak) := PS.weak ps_break fun D σ H ⟨F, S, e1, e2, R, h⟩ => h σ H R (Same.refl _)
theorem gs_cont : PS X (.Continue pos) (tS cm X.K W mCont) := PS.weak ps_continue fun D σ H ⟨F, S, e1, e2, R, h⟩ => h σ H R (Same.refl _)
theorem gs_never : PS X st (tS cm X.K W mNever) := PS.weak ps_never fun D σ H ⟨F, S, e1, e2, R, h⟩ => h
theorem gs_if (hc : PT X c (tT cm X.K W ca)) (h1 : PSs X sts (tS cm X.K W s1)) (h2 : PSs X sts' (tS cm X.K W s2)) : PS X (.If c sts sts' pos) (tS cm X.K W (mIfS ca s1 s2)) :=
  PS.weak (ps_if hc h1 h2) fun D σ H ⟨F, S, e1, e2, R, h⟩ => tG_bindS e1 e2 R h fun x H1 da S1 R1 s1 p1 h1 => by
    cases p1
    cases x with
    | true => exact ⟨F, S1, e1, e2, R1, h1⟩
    | false => exact ⟨F, S1, e1, e2, R1, h1⟩
/-! targets -/
theorem gg_name {i : Nat} (h : PG X tg (L2.gName i)) : PG X tg (tGt cm X.K W (gNm i)) := PG.weak h fun v σ H Q ⟨F, S, d, e1, e2, R, p, h⟩ => by
  obtain ⟨R', s'⟩ := R.dat (i := i) (v := v) (d := d) (by rw [e1, e2]; exact p)
  exact h _ H R' s'
theorem ggs_nil : PGs X [] (tGts cm X.K W gNl) := PGs.weak pgs_nil fun v σ H Q ⟨F, S, d, e1, e2, R, p, h⟩ => by
  cases p with
  | nil => exact ⟨rfl, h σ H R (Same.refl _)⟩
  | cons _ _ => exact False.elim h
theorem ggs_cons (h1 : PG X e (tGt cm X.K W g)) (h2 : PGs X es (tGts cm X.K W gs)) (hs : (assignEach (e :: es) X.env).map (·.2) = assign e X.env :: (assignEach es X.env).map (·.2) := by rfl) : PGs X (e :: es) (tGts cm X.K W (gCs g gs)) :=
  PGs.weak (pgs_cons h1 h2 hs) fun v σ H Q ⟨F, S, d, e1, e2, R, p, h⟩ => by
    cases p with
    | nil => exact False.elim h
    | @cons v d vs ds pv pr =>
      refine ⟨v, vs, rfl, F, S, d, e1, e2, R, pv, ?_⟩
      have h' : outT F W (vis F S σ H) Q ((g d S).bind fun _ S1 => gs ds S1) := h
      cases hg : g d S with
      | bad => rw [hg] at h'; exact h'
      | exc c fs S1 => rw [hg] at h'; exact h'
      | ok u S1 =>
        rw [hg, Rs.bind_ok] at h'
        exact fun σ' H' R' s' => ⟨F, S1, ds, e1, e2, R', pr.mono s', outT_same s' h'⟩
theorem gg_tup {k n : Nat} (hc : X.calm = true) (h : PGs X es (tGts cm X.K W gs)) (hn : (assignEach es X.env).length = n := by rfl) (hst : (assignEach es X.env).findIdx? (·.1) = none := by rfl)
    (hl : ∀ ds S, ds.length ≠ n → gs ds S = .bad) : PG X (.Tuple es k pos) (tGt cm X.K W (gTp gs)) :=
  PG.weak (pg_tup hc h hn hst) fun v σ H Q ⟨F, S, d, e1, e2, R, p, h⟩ => by
    cases p with
    | @tup a vs ds hs hr =>
      have h' : outT F W (vis F S σ H) Q (gs ds S) := h
      refine ⟨a, vs, rfl, sqT_same hid_le hs, ?_, F, S, ds, e1, e2, R, hr, h'⟩
      by_cases hz : ds.length = n
      · rw [hr.length]; exact hz
      · rw [hl ds S hz] at h'; exact h'.elim
    | _ => exact False.elim h
/-- the list that a slot holds, its own or lent -/
theorem slot_mut {F : Fm} {S : Sg} {σ : St} {H : Hp} {i : Nat} (R : Rel F S σ H) (h : isMut i S = true) : ∃ l vs ds, σ[i]? = some (some (.ref l)) ∧ H l = some (.lst vs) ∧ RpAll F.cm F.K (vis F S σ H) vs ds ∧ (S[i]? = some (.loc ds) ∨ ∃ j, S[i]? = some (.own j (.lst ds)) ∧ F.A0[j]? = some l) := by
  unfold isMut at h
  cases hs : S[i]? with
  | none => rw [hs] at h; cases h
  | some s =>
    rw [hs] at h
    have hl : i < σ.length := by rw [← R.len]; exact (List.getElem?_eq_some_iff.mp hs).1
    have hv : σ[i]? = some σ[i] := List.getElem?_eq_getElem hl
    have q := R.sl i s _ hs hv
    generalize σ[i] = w at hv q
    cases s with
    | no => cases h
    | dat d => cases h
    | loc ds =>
      cases q with
      | loc eh r => exact ⟨_, _, ds, hv, eh, r, .inl rfl⟩
    | own j o =>
      cases o with
      | obj c fs => cases h
      | lst ds =>
        cases q with
        | own e0 ok =>
          cases ok with
          | lst eh r => exact ⟨_, _, ds, hv, eh, r, .inr ⟨j, rfl, e0⟩⟩
/-- and that list changed -/
theorem slot_set {F : Fm} {S : Sg} {σ : St} {H : Hp} {i : Nat} {l : Addr} {ds es : List Dat} {us : List V} (R : Rel F S σ H) (hl : σ[i]? = some (some (.ref l))) (r : RpAll F.cm F.K (vis F S σ H) us es) (h : S[i]? = some (.loc ds) ∨ ∃ j, S[i]? = some (.own j (.lst ds)) ∧ F.A0[j]? = some l) :
    ∃ s', (S[i]? = some (.loc ds) → s' = .loc es) ∧ (∀ j, S[i]? = some (.own j (.lst ds)) → s' = .own j (.lst es)) ∧ Rel F (S.set i s') σ (upd H l (.lst us)) ∧ Same (vis F S σ H) (vis F (S.set i s') σ (upd H l (.lst us))) := by
  rcases h with h | ⟨j, h, hj⟩
  · obtain ⟨a, b⟩ := R.setLoc h hl r
    exact ⟨_, fun _ => rfl, fun j z => (by rw [h] at z; cases z), a, b⟩
  · obtain ⟨a, b⟩ := R.setOwn (ho := .lst us) h hl hj (.lst upd_same r)
    exact ⟨_, fun z => (by rw [h] at z; cases z), fun k z => (by rw [h] at z; cases z; rfl), a, b⟩
theorem gg_ix {i : Nat} {o : Expr} (ho : PE X o (tVar i)) (hi : PE X e (tE cm X.K W ma)) (ha : ∀ v, assign (.Subscript o e pos) X.env v = (do
      let ov ← holding [v] (eval o X.env)
      let iv ← holding [v, ov] (eval e X.env)
      standAt pos
      holding [v, ov, iv] (setItem ov iv v)
      release [v, ov, iv] []) := by intro _; rfl) : PG X (.Subscript o e pos) (tGt cm X.K W (gIx i ma)) :=
  PG.weak (pg_sub ho hi set_list ha) fun v σ H Q ⟨F, S, d, e1, e2, R, p, h⟩ => by
    unfold gIx at h
    by_cases hz : isMut i S = true
    · rw [if_pos hz] at h
      obtain ⟨l, vs, ds, hl, _, _, _⟩ := slot_mut R hz
      refine ⟨_, hl, tG_bindT e1 e2 R h fun x H1 k S1 R1 s1 p1 h1 => ?_⟩
      cases p1 with
      | int k =>
        dsimp only at h1
        by_cases hz1 : isMut i S1 = true
        · rw [if_pos hz1] at h1
          obtain ⟨l', vs, ds, hl', eh, r, hs⟩ := slot_mut R1 hz1
          rw [hl] at hl'
          cases hl'
          unfold setAt at h1
          have core : ∀ j, ixN ds.length k = some j → ∃ s', (S1[i]? = some (.loc ds) → s' = .loc (ds.set j d)) ∧ (∀ n, S1[i]? = some (.own n (.lst ds)) → s' = .own n (.lst (ds.set j d))) ∧ Rel F (S1.set i s') σ (upd H1 l (.lst (vs.set j v))) ∧ Same (vis F S1 σ H1) (vis F (S1.set i s') σ (upd H1 l (.lst (vs.set j v)))) := fun j hj =>
            slot_set R1 hl (r.set (by rw [e1, e2]; exact p.mono s1) j) hs
          have fin : ∀ j, ixN ds.length k = some j → (∀ s', (S1[i]? = some (.loc ds) → s' = .loc (ds.set j d)) → (∀ n, S1[i]? = some (.own n (.lst ds)) → s' = .own n (.lst (ds.set j d))) → outT F W (vis F S1 σ H1) Q (.ok () (S1.set i s'))) →
              rSetL (.ref l) (.int k) v H1 fun H3 => Q σ H3 := fun j hj ho => by
            obtain ⟨s', h1, h2, h3, h4⟩ := core j hj
            exact ⟨l, vs, k, j, rfl, rfl, eh, by rw [r.length]; exact hj, ho s' h1 h2 σ _ h3 h4⟩
          rcases hs with hs | ⟨n, hs, _⟩
          · rw [hs] at h1
            dsimp only at h1
            cases hj : ixN ds.length k with
            | none => rw [hj] at h1; exact h1.elim
            | some j =>
              rw [hj] at h1
              exact fin j hj fun s' a _ => by rw [a hs]; exact h1
          · rw [hs] at h1
            dsimp only at h1
            cases hj : ixN ds.length k with
            | none => rw [hj] at h1; exact h1.elim
            | some j =>
              rw [hj] at h1
              exact fin j hj fun s' _ a => by rw [a n hs]; exact h1
        · rw [if_neg hz1] at h1; exact h1.elim
      | _ => exact False.elim h1
    · rw [if_neg hz] at h; exact h.elim
theorem gs_asg (he : PE X e (tE cm X.K W ma)) (hg : PG X tg (tGt cm X.K W g)) (hs : swapsWithSole [tg] e pos.line X.env = pure false := by rfl) (hw : swappedStores [tg] e X.env = pure none := by rfl)
    (h1 : (assignEach [tg] X.env).map (·.2) = [assign tg X.env] := by rfl) : PS X (.Assign [tg] e pos) (tS cm X.K W (mAsg ma g)) :=
  PS.weak (ps_asg he hg hs hw h1) fun D σ H ⟨F, S, e1, e2, R, h⟩ => tG_bindS e1 e2 R h fun x H1 da S1 R1 s1 p1 h1 => ⟨F, S1, da, e1, e2, R1, p1, by
    cases hg : g da S1 with
    | bad => rw [hg] at h1; exact h1
    | exc c fs S2 => rw [hg] at h1; exact h1
    | ok u S2 => rw [hg] at h1; exact h1⟩
theorem gs_set {i : Nat} {x : Str} {pos' : Pos} (hN : X.N.Nodup) (hi : X.N[i]? = some x) (hx : L2.Loc X.env.scope x) (he : PE X e (tE cm X.K W ma)) (hs : swapsWith e (some (.Name x pos')) pos.line X.env = pure false := by rfl)
    (hf : X.fn x = true ∨ X.env.scope.names.lookup x = some .local := by first | exact .inl rfl | exact .inr rfl | assumption) : PS X (.Assign [.Name x pos'] e pos) (tS cm X.K W (mAsg ma (gNm i))) :=
  PS.weak (ps_set hN hi hx he hs hf) fun D σ H ⟨F, S, e1, e2, R, h⟩ => tG_bindS e1 e2 R h fun x H1 da S1 R1 s1 p1 h1 => by
    obtain ⟨R', s'⟩ := R1.dat (i := i) (v := x) (d := da) (by rw [e1, e2]; exact p1)
    exact h1 _ H1 R' s'
/-- x = [..], the def's own list -/
theorem gs_setL {i : Nat} {x : Str} {pos' p2 : Pos} (hN : X.N.Nodup) (hi : X.N[i]? = some x) (hx : L2.Loc X.env.scope x) (ha : PA X es (tA cm X.K W mr)) (hs : swapsWith (.List es p2) (some (.Name x pos')) pos.line X.env = pure false := by rfl)
    (hf : X.fn x = true ∨ X.env.scope.names.lookup x = some .local := by first | exact .inl rfl | exact .inr rfl | assumption) : PS X (.Assign [.Name x pos'] (.List es p2) pos) (tS cm X.K W (mSetL i mr)) :=
  PS.weak (ps_set hN hi hx (pe_lst ha) hs hf) fun D σ H ⟨F, S, e1, e2, R, h⟩ => tG_bindS e1 e2 R h fun x H1 da S1 R1 s1 p1 h1 => by
    by_cases hl : da.length ≤ lim
    · rw [if_pos hl] at h1
      refine ⟨by rw [RpAll.length p1]; exact lim_line hl, fun p hp => ?_⟩
      obtain ⟨R', s'⟩ := R1.newLoc (i := i) (ds := da) hp (by rw [e1, e2]; exact p1)
      exact h1 _ _ R' s'
    · rw [if_neg hl] at h1; exact h1.elim
theorem gs_par {i j : Nat} {x y : Str} {px py pt : Pos} {kt k2 : Nat} {pt2 : Pos} (hc : X.calm = true) (hN : X.N.Nodup) (hi : X.N[i]? = some x) (hj : X.N[j]? = some y) (hij : i ≠ j)
    (hx : X.env.scope.names.lookup x = some .local) (hy : X.env.scope.names.lookup y = some .local) (ha : PA X [a, b] (tA cm X.K W mr))
    (hw : swappedStores [.Tuple [.Name x px, .Name y py] kt pt] (.Tuple [a, b] k2 pt2) X.env = pure (some [x, y])) (hs : swapsWithSole [.Tuple [.Name x px, .Name y py] kt pt] (.Tuple [a, b] k2 pt2) pos.line X.env = pure false := by rfl) :
    PS X (.Assign [.Tuple [.Name x px, .Name y py] kt pt] (.Tuple [a, b] k2 pt2) pos) (tS cm X.K W (mPar i j mr)) :=
  PS.weak (ps_par hc hN hi hj hij hx hy ha hw hs) fun D σ H ⟨F, S, e1, e2, R, h⟩ => tG_bindS e1 e2 R h fun x H1 da S1 R1 s1 p1 h1 => by
    cases p1 with
    | nil => exact False.elim h1
    | @cons v1 d1 _ _ q1 p2 =>
      cases p2 with
      | nil => exact False.elim h1
      | @cons v2 d2 _ _ q2 p3 =>
        cases p3 with
        | cons _ _ => exact False.elim h1
        | nil =>
          obtain ⟨R2, t2⟩ := R1.dat (i := i) (v := v1) (d := d1) (by rw [e1, e2]; exact q1)
          obtain ⟨R3, t3⟩ := R2.dat (i := j) (v := v2) (d := d2) (by rw [e1, e2]; exact q2.mono t2)
          exact ⟨v1, v2, rfl, h1 _ H1 R3 (t2.trans t3)⟩
theorem gs_app {i : Nat} {o : Expr} {apos cpos : Pos} (ho : PE X o (tVar i)) (he : PE X e (tE cm X.K W ma)) (hab : attributeBase o "append" X.env (eval o X.env) = eval o X.env := by rfl)
    (hst : starEach [e] X.env = (false, eval e X.env) :: starEach [] X.env := by rfl) (hln : (apos.endLine == cpos.line) = true := by rfl) (hs : swapsWith (.Call (.Attribute o "append" apos) [e] [] cpos) none pos.line X.env = pure false := by rfl)
    (h4 : (((backTo cpos (starEach [e] X.env)).all fun x => !x.1) && ((backToKw cpos (keywordEach [] X.env)).all fun x => x.1.isSome) && decide (([e].length + ([] : List Keyword).length + if ([] : List Keyword).isEmpty = true then 0 else 1) < 30)) = true := by rfl) :
    PS X (.Expr (.Call (.Attribute o "append" apos) [e] [] cpos) pos) (tS cm X.K W (mApp i ma)) :=
  PS.weak (ps_expr (pe_bm PySem.F.plainAttrs_list PySem.F.slot_list_append PySem.F.type_list_append mt_append ho (pa_cons he pa_nil hst) hab h4 hln hst (by rfl)) hs) fun D σ H ⟨F, S, e1, e2, R, h⟩ => by
    unfold mApp at h
    by_cases hz : isMut i S = true
    · rw [if_pos hz] at h
      obtain ⟨l, vs, ds, hl, eh, _, _⟩ := slot_mut R hz
      refine ⟨_, hl, .inl ⟨rfl, _, SqL.of eh⟩, tG_bindS e1 e2 R h fun x H1 d S1 R1 s1 p1 h1 => ?_⟩
      by_cases hz1 : isMut i S1 = true
      · rw [if_pos hz1] at h1
        obtain ⟨l', vs, ds, hl', eh, r, hs⟩ := slot_mut R1 hz1
        rw [hl] at hl'
        cases hl'
        obtain ⟨s', a1, a2, a3, a4⟩ := slot_set R1 hl (r.append (.cons (by rw [e1, e2]; exact p1) .nil)) hs
        have fin : ds.length < lim → outS F W (vis F S1 σ H1) D (.ok .nx (S1.set i s')) → rAppend (.ref l) [x] H1 fun _ H3 => D.nx σ H3 := fun hz ho => ⟨l, vs, x, rfl, rfl, eh, by rw [r.length]; exact lim_lt hz, ho σ _ a3 a4⟩
        unfold appAt at h1
        rcases hs with hs | ⟨n, hs, _⟩
        · rw [hs] at h1
          dsimp only at h1
          by_cases hz : ds.length < lim
          · rw [if_pos hz] at h1
            rw [a1 hs] at fin
            exact fin hz h1
          · rw [if_neg hz] at h1; exact h1.elim
        · rw [hs] at h1
          dsimp only at h1
          by_cases hz : ds.length < lim
          · rw [if_pos hz] at h1
            rw [a2 n hs] at fin
            exact fin hz h1
          · rw [if_neg hz] at h1; exact h1.elim
      · rw [if_neg hz1] at h1; exact h1.elim
    · rw [if_neg hz] at h; exact h.elim
/-! loops -/
theorem gs_for {mi : Sg → Rs (List Dat)} {iter : Expr} (hp : PassesOwn (model X.prog X.w) X.A X.env X.xe) (hc : X.calm = true) (hi : PI X tg iter (tG cm X.K W (rIt cm X.K) mi)) (hg : PG X tg (tGt cm X.K W g)) (hb : PSs X sts (tS cm X.K W s1))
    (hs : ∀ x, foldedSetIterable iter X.env x = pure x := by intro _; rfl) : PS X (.For tg iter sts [] pos) (tS cm X.K W (mFor mi g s1)) :=
  PS.weak (ps_for hp hc hi hg hb hs) fun D σ H ⟨F, S, e1, e2, R, h⟩ => tG_bindS e1 e2 R h fun J H1 ds S1 R1 s1' p1 h1 => by
    obtain ⟨j1, j2, j3⟩ := p1
    refine ⟨fun i m σ' H' => i + m = ds.length ∧ ∃ S', Rel F S' σ' H' ∧ Same (vis F S1 σ H1) (vis F S' σ' H') ∧ outS F W (vis F S' σ' H') D (loopS g s1 (ds.drop i) S'), ⟨ds.length, by omega, S1, R1, Same.refl _, h1⟩, ?_⟩
    rintro i m σ' H' ⟨em, S', R', s', h'⟩
    have sH : Same (vis F S1 σ H1) H' := s'.trans hid_le
    by_cases hi : i < ds.length
    · refine .inr ⟨j1 i H' sH hi, fun σ2 H2 => ∃ S2, Rel F S2 σ2 H2 ∧ Same (vis F S1 σ H1) (vis F S2 σ2 H2) ∧ outS F W (vis F S2 σ2 H2) D (loopS g s1 (ds.drop (i + 1)) S2), fun σ2 H2 ⟨S2, b1, b2, b3⟩ => ⟨m - 1, by omega, by omega, S2, b1, b2, b3⟩, fun x H2 hy => ?_⟩
      obtain ⟨sy, d, hd, pd⟩ := j3 i H' x H2 _ s' R'.live hy hi
      have R2 := R'.grow sy
      have s2 : Same (vis F S' σ' H') (vis F S' σ' H2) := vis_grow sy
      have e3 : ds.drop i = d :: ds.drop (i + 1) := by
        rw [List.drop_eq_getElem_cons hi]
        rw [List.getElem?_eq_getElem hi] at hd
        rw [Option.some.inj hd]
      rw [e3] at h'
      refine ⟨F, S', d, e1, e2, R2, pd, ?_⟩
      have h2 : outS F W (vis F S' σ' H2) D ((g d S').bind fun _ S1 => match s1 S1 with
        | .ok .nx S2 => loopS g s1 (ds.drop (i + 1)) S2
        | .ok .ct S2 => loopS g s1 (ds.drop (i + 1)) S2
        | .ok .bk S2 => .ok .nx S2
        | r => r) := outS_same s2 h'
      cases hgd : g d S' with
      | bad => rw [hgd] at h2; exact h2
      | exc c fs S3 => rw [hgd] at h2; exact h2
      | ok u S3 =>
        rw [hgd, Rs.bind_ok] at h2
        intro σ3 H3 R3 s3
        refine ⟨F, S3, e1, e2, R3, ?_⟩
        have h3 := outS_same s3 h2
        have st : Same (vis F S1 σ H1) (vis F S3 σ3 H3) := (s'.trans s2).trans s3
        cases hb : s1 S3 with
        | bad => rw [hb] at h3; exact h3
        | exc c fs S4 => rw [hb] at h3; exact h3
        | ok f S4 =>
          rw [hb] at h3
          cases f with
          | nx => exact fun σ4 H4 R4 s4 => ⟨S4, R4, st.trans s4, outS_same s4 h3⟩
          | ct => exact fun σ4 H4 R4 s4 => ⟨S4, R4, st.trans s4, outS_same s4 h3⟩
          | bk => exact h3
          | rt d => exact h3
    · have ei : i = ds.length := by omega
      refine .inl ⟨by rw [ei]; exact j2 H' sH, ?_⟩
      rw [List.drop_of_length_le (by omega)] at h'
      exact h' σ' H' R' (Same.refl _)
theorem whileN_more {c : MT} {b : MS} : ∀ {n k : Nat} {S : Sg}, n ≤ k → whileN c b n S ≠ .bad → whileN c b k S = whileN c b n S
  | 0, k, S, _, h => absurd rfl h
  | n + 1, 0, S, h, _ => by omega
  | n + 1, k + 1, S, hk, h => by
    cases hc : c S with
    | bad => simp only [whileN, hc, Rs.bind_bad]
    | exc _ _ _ => simp only [whileN, hc, Rs.bind_exc]
    | ok t S1 =>
      cases t with
      | false => simp only [whileN, hc, Rs.bind_ok]; rfl
      | true =>
        simp only [whileN, hc, Rs.bind_ok, if_pos] at h ⊢
        cases hb : b S1 with
        | bad => rfl
        | exc _ _ _ => rfl
        | ok f S2 =>
          rw [hb] at h
          cases f with
          | nx => exact whileN_more (by omega) h
          | ct => exact whileN_more (by omega) h
          | bk => rfl
          | rt d => rfl
open Classical in
theorem mWhile_of {c : MT} {b : MS} {n : Nat} {S : Sg} (h : whileN c b n S ≠ .bad) : mWhile c b S = whileN c b n S := by
  have hx : ∃ n, whileN c b n S ≠ .bad := ⟨n, h⟩
  unfold mWhile
  rw [dif_pos hx]
  have hy := choose_spec hx
  rcases Nat.le_total (choose hx) n with z | z
  · exact (whileN_more z hy).symm
  · exact whileN_more z h
open Classical in
theorem mWhile_is {c : MT} {b : MS} {S : Sg} (h : mWhile c b S ≠ .bad) : ∃ n, mWhile c b S = whileN c b n S := by
  unfold mWhile at h ⊢
  by_cases hx : ∃ n, whileN c b n S ≠ .bad
  · rw [dif_pos hx]; exact ⟨_, rfl⟩
  · rw [dif_neg hx] at h; exact absurd rfl h
theorem gs_while (hp : PassesOwn (model X.prog X.w) X.A X.env X.xe) (hc : PT X c (tT cm X.K W ca)) (hb : PSs X sts (tS cm X.K W s1)) : PS X (.While c sts [] pos) (tS cm X.K W (mWhile ca s1)) :=
  PS.weak (ps_while hp hc hb) fun D σ H ⟨F, S, e1, e2, R, h⟩ => by
    have nb : mWhile ca s1 S ≠ .bad := fun z => by rw [z] at h; exact h
    obtain ⟨n, hn⟩ := mWhile_is nb
    rw [hn] at h
    refine ⟨fun m σ' H' => ∃ S', Rel F S' σ' H' ∧ outS F W (vis F S' σ' H') D (whileN ca s1 m S'), ⟨n, S, R, h⟩, ?_⟩
    rintro m σ' H' ⟨S', R', h'⟩
    cases m with
    | zero => exact False.elim h'
    | succ m =>
      unfold whileN at h'
      refine tG_bindS e1 e2 R' h' fun x H1 t S1 R1 t1 p1 h1 => ?_
      cases p1
      cases x with
      | false => exact h1 σ' H1 R1 (Same.refl _)
      | true =>
        rw [if_pos rfl] at h1 ⊢
        refine ⟨fun σ2 H2 => ∃ S2, Rel F S2 σ2 H2 ∧ outS F W (vis F S2 σ2 H2) D (whileN ca s1 m S2), fun σ2 H2 q => ⟨m, Nat.lt_succ_self m, q⟩, F, S1, e1, e2, R1, ?_⟩
        cases hb : s1 S1 with
        | bad => rw [hb] at h1; exact h1
        | exc c fs S4 => rw [hb] at h1; exact h1
        | ok f S4 =>
          rw [hb] at h1
          cases f with
          | nx => exact fun σ4 H4 R4 s4 => ⟨S4, R4, outS_same s4 h1⟩
          | ct => exact fun σ4 H4 R4 s4 => ⟨S4, R4, outS_same s4 h1⟩
          | bk => exact h1
          | rt d => exact h1
end
end Mir

/-! MirG: what is walked; comprehensions -/
namespace Mir
open PySem L2

/-! ### iterables -/
def itemsD : Dat → Option (List Dat)
  | .lst ds => some ds
  | .ro ds => some ds
  | .tup ds => some ds
  | _ => none
def range1 : List Dat → Option (List Dat)
  | [.int j] => if -(2 ^ 62) ≤ j ∧ j < 2 ^ 62 then some ((List.range j.toNat).map fun (k : Nat) => Dat.int (0 + (k : Int))) else none
  | _ => none
def range2 : List Dat → Option (List Dat)
  | [.int i, .int j] => if -(2 ^ 62) ≤ i ∧ i < 2 ^ 62 ∧ -(2 ^ 62) ≤ j ∧ j < 2 ^ 62 then some ((List.range (j - i).toNat).map fun (k : Nat) => Dat.int (i + (k : Int))) else none
  | _ => none
def enumFrom (n : Nat) : List Dat → List Dat
  | [] => []
  | d :: ds => .tup [.int (n : Int), d] :: enumFrom (n + 1) ds
def enumD : List Dat → Option (List Dat)
  | [.lst ds] => some (enumFrom 0 ds)
  | _ => none
def zipD : List Dat → Option (List Dat)
  | [.lst xs, .lst ys] => some (List.zipWith (fun x y => Dat.tup [x, y]) xs ys)
  | _ => none
def mItems (m : ME) : Sg → Rs (List Dat) := fun S => (m S).bind fun d S1 => Rs.of (itemsD d) S1
def mIts (f : List Dat → Option (List Dat)) (m : MA) : Sg → Rs (List Dat) := fun S => (m S).bind fun d S1 => Rs.of (f d) S1

section
variable {X : Cx} {cm : Str → Addr} {W : WX} {a b e tg : Expr} {es : List Expr} {ma : ME} {mr : MA} {p pos : Pos}
theorem out_of' {F : Fm} {S : Sg} {σ : St} {H : Hp} {β α : Type} {R : Rep β α} {Q : β → Hp → Prop} {o : Option α} (h : out F W σ (vis F S σ H) R Q (Rs.of o S)) : ∃ d, o = some d ∧ out F W σ (vis F S σ H) R Q (.ok d S) := by
  cases o with
  | none => exact False.elim h
  | some d => exact ⟨d, rfl, h⟩
theorem it_list {σ : St} {G : Hp} {a : Addr} {vs : List V} {ds : List Dat} {K : PySem.W.Frag} (h : SqL K G a vs) (r : RpAll cm K G vs ds) : rIt cm K σ G (Itl K a) ds := by
  refine ⟨fun i H s hi => ?_, fun H s => ⟨vs, s.seq h, by rw [r.length]; exact Nat.le_refl _⟩, fun i H x H' M s lv y hi => ?_⟩
  · have hi' : i < vs.length := by rw [r.length]; exact hi
    exact ⟨vs, vs[i], s.seq h, List.getElem?_eq_getElem hi'⟩
  · obtain ⟨rfl, y⟩ := y
    obtain ⟨d, e1, e2⟩ := r.get' (y vs ((s.trans hid_le).seq h))
    exact ⟨Same.refl _, d, e1, e2.mono s⟩
theorem it_tup {σ : St} {G : Hp} {a : Addr} {vs : List V} {ds : List Dat} {K : PySem.W.Frag} (h : SqT K G a vs) (r : RpAll cm K G vs ds) : rIt cm K σ G (Itt K a) ds := by
  refine ⟨fun i H s hi => ?_, fun H s => ⟨vs, sqT_same s h, by rw [r.length]; exact Nat.le_refl _⟩, fun i H x H' M s lv y hi => ?_⟩
  · have hi' : i < vs.length := by rw [r.length]; exact hi
    exact ⟨vs, vs[i], sqT_same s h, List.getElem?_eq_getElem hi'⟩
  · obtain ⟨rfl, y⟩ := y
    obtain ⟨d, e1, e2⟩ := r.get' (y vs (sqT_same (s.trans hid_le) h))
    exact ⟨Same.refl _, d, e1, e2.mono s⟩
theorem it_range {σ : St} {G : Hp} {K : PySem.W.Frag} (lo : Int) (n : Nat) : rIt cm K σ G (Itr lo n) ((List.range n).map fun (k : Nat) => Dat.int (lo + (k : Int))) := by
  have el : ((List.range n).map fun (k : Nat) => Dat.int (lo + (k : Int))).length = n := by rw [List.length_map, List.length_range]
  refine ⟨fun i H s hi => by rw [el] at hi; exact hi, fun H s => by rw [el]; exact Nat.le_refl _, fun i H x H' M s lv y hi => ?_⟩
  obtain ⟨rfl, rfl⟩ := y
  rw [el] at hi
  exact ⟨Same.refl _, .int (lo + (i : Int)), by rw [List.getElem?_map, List.getElem?_range hi]; rfl, .int _⟩
theorem tG_bind' {β α β' α' : Type} {cm : Str → Addr} {K : PySem.W.Frag} {W : WX} {R : Rep β α} {R' : Rep β' α'} {m : Sg → Rs α} {k : α → Sg → Rs α'} {σ : St} {H : Hp} {Q : β' → Hp → Prop} {Q' : β → Hp → Prop} {F : Fm} {S : Sg}
    (e1 : F.cm = cm) (e2 : F.K = K) (r : Rel F S σ H) (h : out F W σ (vis F S σ H) R' Q ((m S).bind k))
    (q : ∀ x H1 a S1, m S = .ok a S1 → Rel F S1 σ H1 → Same (vis F S σ H) (vis F S1 σ H1) → R σ (vis F S1 σ H1) x a → out F W σ (vis F S1 σ H1) R' Q (k a S1) → Q' x H1) : tG cm K W R m σ H Q' := by
  refine ⟨F, S, e1, e2, r, ?_⟩
  cases hm : m S with
  | ok a S1 => rw [hm] at h; exact fun v H1 a1 a2 a3 => q v H1 a S1 hm a1 a2 a3 (out_same a2 h)
  | exc c fs S1 => rw [hm] at h; exact h
  | bad => rw [hm] at h; exact h
theorem gi_seq (h : PE X e (tE cm X.K W ma)) : PI X tg e (tG cm X.K W (rIt cm X.K) (mItems ma)) := by
  refine ⟨fun pins s σ H R I ⟨F, S, e1, e2, Rl, ho⟩ => ?_⟩
  by_cases ht : ∃ ds S1, ma S = .ok (.tup ds) S1
  · obtain ⟨ds, S1, ht⟩ := ht
    refine (pi_tup h).run pins s σ H R I (tG_bind' e1 e2 Rl ho fun x H1 da S2 hm R1 s1 p1 h1 => ?_)
    rw [ht] at hm
    cases hm
    cases p1 with
    | tup hs hr => exact ⟨_, rfl, ⟨_, sqT_same hid_le hs⟩, h1 _ H1 R1 (Same.refl _) (it_tup hs hr)⟩
  · refine (pi_list h).run pins s σ H R I (tG_bind' e1 e2 Rl ho fun x H1 da S2 hm R1 s1 p1 h1 => ?_)
    obtain ⟨d, hd, h1⟩ := out_of' h1
    cases p1 with
    | lst hs hr => cases hd; exact ⟨_, rfl, ⟨_, SqL.of (hid_le _ _ hs)⟩, h1 _ H1 R1 (Same.refl _) (it_list (SqL.of hs) hr)⟩
    | ro hs hr => cases hd; exact ⟨_, rfl, ⟨_, Same.seq hid_le hs⟩, h1 _ H1 R1 (Same.refl _) (it_list hs hr)⟩
    | tup hs hr => exact absurd ⟨_, _, hm⟩ ht
    | _ => cases hd
theorem gi_range1 (hg : Gl X "range") (hm : X.mg "range" = none) (ha : PA X [a] (tA cm X.K W mr)) (hs : starEach [a] X.env = [(false, eval a X.env)] := by rfl) : PI X tg (.Call (.Name "range" p) [a] [] pos) (tG cm X.K W (rIt cm X.K) (mIts range1 mr)) :=
  PI.weak (pi_range1 hg hm ha hs) fun σ H Q ⟨F, S, e1, e2, R, h⟩ => tG_bind' e1 e2 R h fun x H1 da S2 hm R1 s1 p1 h1 => by
    obtain ⟨d, hd, h1⟩ := out_of' h1
    cases p1 with
    | nil => cases hd
    | cons q1 q2 =>
      cases q2 with
      | cons _ _ => cases q1 <;> cases hd
      | nil =>
        cases q1 with
        | int j =>
          unfold range1 at hd
          dsimp only at hd
          by_cases hz : -(2 ^ 62) ≤ j ∧ j < 2 ^ 62
          · rw [if_pos hz] at hd; cases hd
            exact ⟨j, rfl, hz.1, hz.2, h1 _ H1 R1 (Same.refl _) (it_range 0 j.toNat)⟩
          · rw [if_neg hz] at hd; cases hd
        | _ => cases hd
theorem gi_range2 (hg : Gl X "range") (hm : X.mg "range" = none) (ha : PA X [a, b] (tA cm X.K W mr)) (hs : starEach [a, b] X.env = [(false, eval a X.env), (false, eval b X.env)] := by rfl) (hs2 : starEach [b] X.env = [(false, eval b X.env)] := by rfl) :
    PI X tg (.Call (.Name "range" p) [a, b] [] pos) (tG cm X.K W (rIt cm X.K) (mIts range2 mr)) :=
  PI.weak (pi_range2 hg hm ha hs hs2) fun σ H Q ⟨F, S, e1, e2, R, h⟩ => tG_bind' e1 e2 R h fun x H1 da S2 hm R1 s1 p1 h1 => by
    obtain ⟨d, hd, h1⟩ := out_of' h1
    cases p1 with
    | nil => cases hd
    | cons q1 q2 =>
      cases q2 with
      | nil => cases q1 <;> cases hd
      | cons q2 q3 =>
        cases q3 with
        | cons _ _ => cases q1 <;> cases q2 <;> cases hd
        | nil =>
          cases q1 with
          | int i =>
            cases q2 with
            | int j =>
              unfold range2 at hd
              dsimp only at hd
              by_cases hz : -(2 ^ 62) ≤ i ∧ i < 2 ^ 62 ∧ -(2 ^ 62) ≤ j ∧ j < 2 ^ 62
              · rw [if_pos hz] at hd; cases hd
                exact ⟨i, j, rfl, hz, h1 _ H1 R1 (Same.refl _) (it_range i (j - i).toNat)⟩
              · rw [if_neg hz] at hd; cases hd
            | _ => cases hd
          | _ => cases hd
theorem enum_get : ∀ (ds : List Dat) (n i : Nat) (d : Dat), ds[i]? = some d → (enumFrom n ds)[i]? = some (.tup [.int ((n + i : Nat) : Int), d])
  | [], n, i, d, h => by simp at h
  | x :: ds, n, 0, d, h => by simp at h; subst h; rfl
  | x :: ds, n, i + 1, d, h => by
    have q := enum_get ds (n + 1) i d (by simpa using h)
    show (enumFrom (n + 1) ds)[i]? = _
    rw [q, show n + 1 + i = n + (i + 1) by omega]
theorem enum_len : ∀ (ds : List Dat) (n : Nat), (enumFrom n ds).length = ds.length
  | [], n => rfl
  | x :: ds, n => congrArg Nat.succ (enum_len ds (n + 1))
theorem gi_enum {elts : List Expr} {kk : Nat} {tpos : Pos} (hg : Gl X "enumerate") (hm : X.mg "enumerate" = none) (ha : PA X [e] (tA cm X.K W mr)) (hs : starEach [e] X.env = [(false, eval e X.env)] := by rfl) :
    PI X (.Tuple elts kk tpos) (.Call (.Name "enumerate" p) [e] [] pos) (tG cm X.K W (rIt cm X.K) (mIts enumD mr)) :=
  PI.weak (pi_enum hg hm ha hs) fun σ H Q ⟨F, S, e1, e2, R, h⟩ => tG_bind' e1 e2 R h fun x H1 da S2 hm R1 s1 p1 h1 => by
    obtain ⟨d, hd, h1⟩ := out_of' h1
    cases p1 with
    | nil => cases hd
    | cons q1 q2 =>
      cases q2 with
      | cons _ _ => cases q1 <;> cases hd
      | nil =>
        cases q1 with
        | @lst a vs ds hs hr =>
          cases hd
          refine ⟨_, _, rfl, SqL.of (hid_le _ _ hs), h1 _ H1 R1 (Same.refl _) ⟨fun i H' s hi => ?_, fun H' s => ⟨vs, s.seq (SqL.of hs), by rw [hr.length, enum_len]; exact Nat.le_refl _⟩, fun i H' x H2 M s lv y hi => ?_⟩⟩
          · have hi' : i < vs.length := by rw [hr.length]; rw [enum_len] at hi; exact hi
            exact ⟨vs, vs[i], s.seq (SqL.of hs), List.getElem?_eq_getElem hi'⟩
          · obtain ⟨T, z, rfl, nT, rfl, y⟩ := y
            obtain ⟨d, k1, k2⟩ := hr.get' (y vs ((s.trans hid_le).seq (SqL.of hs)))
            refine ⟨same_new nT, _, enum_get ds 0 i d k1, .tup (SqT.of (hid_new lv nT)) (.cons ?_ (.cons ((k2.mono s).mono (hid_grow (same_new nT))) .nil))⟩
            rw [Nat.zero_add]
            exact .int _
        | _ => cases hd
theorem gi_zip {e2' : Expr} {elts : List Expr} {kk : Nat} {tpos : Pos} (hg : Gl X "zip") (hm : X.mg "zip" = none) (ha : PA X [e, e2'] (tA cm X.K W mr)) (hs : starEach [e, e2'] X.env = (false, eval e X.env) :: starEach [e2'] X.env := by rfl) (hpl : (backTo pos (starEach [e2'] X.env)).any (·.1) = false := by rfl) :
    PI X (.Tuple elts kk tpos) (.Call (.Name "zip" p) [e, e2'] [] pos) (tG cm X.K W (rIt cm X.K) (mIts zipD mr)) :=
  PI.weak (pi_zip hg hm ha hs hpl) fun σ H Q ⟨F, S, e1, e2, R, h⟩ => tG_bind' e1 e2 R h fun x H1 da S2 hm R1 s1 p1 h1 => by
    obtain ⟨d, hd, h1⟩ := out_of' h1
    cases p1 with
    | nil => cases hd
    | cons q1 q2 =>
      cases q2 with
      | nil => cases q1 <;> cases hd
      | cons q2 q3 =>
        cases q3 with
        | cons _ _ => cases q1 <;> cases q2 <;> cases hd
        | nil =>
          cases q1 with
          | @lst a vs ds hs hr =>
            cases q2 with
            | @lst b us cs ks kr =>
              cases hd
              have el : (List.zipWith (fun x y => Dat.tup [x, y]) ds cs).length = min vs.length us.length := by rw [List.length_zipWith, hr.length, kr.length]
              refine ⟨_, _, _, _, rfl, SqL.of (hid_le _ _ hs), SqL.of (hid_le _ _ ks), h1 _ H1 R1 (Same.refl _) ⟨fun i H' s hi => ?_, fun H' s => ⟨vs, us, s.seq (SqL.of hs), s.seq (SqL.of ks), by rw [el]; omega⟩, fun i H' x H2 M s lv y hi => ?_⟩⟩
              · rw [el] at hi
                exact ⟨vs, us, vs[i]'(by omega), us[i]'(by omega), s.seq (SqL.of hs), s.seq (SqL.of ks), List.getElem?_eq_getElem _, List.getElem?_eq_getElem _⟩
              · obtain ⟨T, z, z', rfl, nT, rfl, y, y'⟩ := y
                obtain ⟨d, k1, k2⟩ := hr.get' (y vs ((s.trans hid_le).seq (SqL.of hs)))
                obtain ⟨d', k1', k2'⟩ := kr.get' (y' us ((s.trans hid_le).seq (SqL.of ks)))
                refine ⟨same_new nT, .tup [d, d'], by rw [List.getElem?_zipWith, k1, k1'], .tup (SqT.of (hid_new lv nT)) (.cons ((k2.mono s).mono (hid_grow (same_new nT))) (.cons ((k2'.mono s).mono (hid_grow (same_new nT))) .nil))⟩
            | _ => cases hd
          | _ => cases hd
end

/-! ### comprehensions -/
def wipeS (S : Sg) : List Nat → Sg
  | [] => S
  | v :: vs => (wipeS S vs).set v .no
def Rs.calm {α : Type} : Rs α → Rs α
  | .exc _ _ _ => .bad
  | r => r
@[simp] theorem Rs.calm_ok {α : Type} (a : α) (S : Sg) : (Rs.ok a S).calm = .ok a S := rfl
@[simp] theorem Rs.calm_bad {α : Type} : (Rs.bad : Rs α).calm = .bad := rfl
def loopC (g : Dat → Sg → Option Sg) (c : MT) (e : ME) (vs : List Nat) : List Dat → List Dat → Sg → Rs (List Dat)
  | [], acc, S => .ok acc S
  | d :: ds, acc, S => (Rs.of (g d S) S).bind fun S1 _ => (c S1).calm.bind fun t S2 => if t = true then (e S2).calm.bind fun y S3 => if acc.length < lim then loopC g c e vs ds (acc ++ [y]) (wipeS S3 vs) else .bad else loopC g c e vs ds acc (wipeS S2 vs)
def mLc (mi : Sg → Rs (List Dat)) (g : Dat → Sg → Option Sg) (c : MT) (e : ME) (vs : List Nat) : ME := fun S => (mi S).bind fun ds S1 => (loopC g c e vs ds [] (wipeS S1 vs)).bind fun acc S2 => .ok (.lst acc) S2
def cYes : MT := fun S => .ok true S
def cgN (j : Nat) : Dat → Sg → Option Sg := fun d S => some (S.set j (.dat d))
def cgT2 (i j : Nat) : Dat → Sg → Option Sg := fun d S => match d with
  | .tup [a, b] => some ((S.set i (.dat a)).set j (.dat b))
  | _ => none
def cgT3 (i j k : Nat) : Dat → Sg → Option Sg := fun d S => match d with
  | .tup [a, b, c] => some (((S.set i (.dat a)).set j (.dat b)).set k (.dat c))
  | _ => none
abbrev W0 : WX := fun _ _ _ _ => False

section
variable {F : Fm} {S : Sg} {σ : St} {H : Hp}
theorem Rel.wipe (R : Rel F S σ H) : ∀ vs : List Nat, Rel F (wipeS S vs) (L2.wipe σ vs) H ∧ Same (vis F S σ H) (vis F (wipeS S vs) (L2.wipe σ vs) H)
  | [] => ⟨R, Same.refl _⟩
  | v :: vs => by
    obtain ⟨a, b⟩ := Rel.wipe R vs
    obtain ⟨c, d⟩ := a.no (i := v) (v := none)
    exact ⟨c, b.trans d⟩
theorem wipeS_no : ∀ (vs : List Nat) {v : Nat} {s : Slot}, v ∈ vs → (wipeS S vs)[v]? = some s → s = .no
  | [], v, s, h, _ => by cases h
  | w :: vs, v, s, h, e => by
    unfold wipeS at e
    rcases get_set_cases e with ⟨_, z⟩ | ⟨ne, z⟩
    · exact z
    · rcases List.mem_cons.mp h with h | h
      · exact absurd h ne
      · exact wipeS_no vs h z
theorem wipe_get : ∀ (vs : List Nat) {σ : St} {v : Nat}, v ∉ vs → (L2.wipe σ vs)[v]? = σ[v]?
  | [], σ, v, _ => rfl
  | w :: vs, σ, v, h => by
    unfold L2.wipe
    rw [List.getElem?_set_ne (fun z => h (by rw [z]; exact List.mem_cons_self ..)), wipe_get vs fun z => h (List.mem_cons_of_mem _ z)]
theorem wipe_set : ∀ (vs : List Nat) {σ : St} {v : Nat} {x : Option V}, v ∈ vs → L2.wipe (σ.set v x) vs = L2.wipe σ vs
  | [], σ, v, x, h => by cases h
  | w :: vs, σ, v, x, h => by
    unfold L2.wipe
    by_cases hv : v ∈ vs
    · rw [wipe_set vs hv]
    · have e : v = w := (List.mem_cons.mp h).resolve_right hv
      subst e
      refine List.ext_getElem? fun k => ?_
      by_cases ek : k = v
      · subst ek
        rw [List.getElem?_set, List.getElem?_set, if_pos rfl, if_pos rfl, L2.wipe_length, L2.wipe_length, List.length_set]
      · rw [List.getElem?_set_ne (fun z => ek z.symm), List.getElem?_set_ne (fun z => ek z.symm)]
        by_cases hk : k ∈ vs
        · have h1 : ∀ (us : List Nat) (τ : St), k ∈ us → (L2.wipe τ us)[k]? = if k < τ.length then some none else none := by
            intro us
            induction us with
            | nil => intro τ h; cases h
            | cons u us ih =>
              intro τ h
              unfold L2.wipe
              by_cases eu : u = k
              · subst eu
                rw [List.getElem?_set, if_pos rfl, L2.wipe_length]
              · rw [List.getElem?_set_ne eu]
                exact ih τ ((List.mem_cons.mp h).resolve_left fun z => eu z.symm)
          rw [h1 vs _ hk, h1 vs _ hk, List.length_set]
        · rw [wipe_get vs hk, wipe_get vs hk, List.getElem?_set_ne (fun z => ek z.symm)]
/-- what the wiped slots hold does not matter -/
theorem Rel.other {τ : St} (R : Rel F S τ H) (hl : σ.length = τ.length) (h : ∀ (v : Nat) (s : Slot), S[v]? = some s → σ[v]? = τ[v]? ∨ s = Slot.no) : Rel F S σ H ∧ vis F S σ H = vis F S τ H := by
  have key : ∀ (S : Sg) (σ τ : St), σ.length = τ.length → (∀ (v : Nat) (s : Slot), S[v]? = some s → σ[v]? = τ[v]? ∨ s = Slot.no) → locs S σ = locs S τ := by
    intro S
    induction S with
    | nil => intro σ τ _ _; cases σ <;> cases τ <;> rfl
    | cons s S ih =>
      intro σ τ hl h
      cases σ with
      | nil =>
        cases τ with
        | nil => rfl
        | cons _ _ => cases hl
      | cons x σ =>
        cases τ with
        | nil => cases hl
        | cons y τ =>
          have i2 := ih σ τ (by simpa using hl) fun v s e => by
            have := h (v + 1) s (by simpa using e)
            simpa using this
          rcases h 0 s rfl with e | e
          · have exy : x = y := by simpa using e
            subst exy
            cases s with
            | loc ds =>
              cases x with
              | none => exact i2
              | some x =>
                cases x with
                | ref l => simp [locs, i2]
                | _ => exact i2
            | _ => simpa [locs] using i2
          · subst e
            simpa [locs] using i2
  have eL := key S σ τ hl h
  have eV : vis F S σ H = vis F S τ H := by unfold vis; rw [eL]
  refine ⟨⟨by rw [R.len, hl], fun i s v a b => ?_, by rw [eL]; exact R.nd, fun l x => R.new l (by rw [← eL]; exact x), R.ond, R.and_, R.ain, R.liv, fun l x => R.lom l (by rw [← eL]; exact x), R.tmp, R.keep⟩, eV⟩
  rw [eV]
  rcases h i s a with e | e
  · exact R.sl i s v a (by rw [← e]; exact b)
  · subst e; exact .no
/-- a target that stores to the block's own names alone -/
def TgOk (cm : Str → Addr) (K : PySem.W.Frag) (t : TG) (vs : List Nat) (g : Dat → Sg → Option Sg) : Prop :=
  ∀ (F : Fm) (S : Sg) (σ : St) (H : Hp) (x : V) (d : Dat) (S' : Sg) (Q : St → Hp → Prop), F.cm = cm → F.K = K → Rel F S σ H → Rp cm K (vis F S σ H) x d → g d S = some S' →
    (∀ σ2, L2.wipe σ2 vs = L2.wipe σ vs → Rel F S' σ2 H → Same (vis F S σ H) (vis F S' σ2 H) → Q σ2 H) → t x σ H Q
theorem tg_name {cm : Str → Addr} {K : PySem.W.Frag} (j : Nat) : TgOk cm K (L2.gName j) [j] (cgN j) := fun F S σ H x d S' Q e1 e2 R p e k => by
  cases e
  obtain ⟨a, b⟩ := R.dat (i := j) (v := x) (d := d) (by rw [e1, e2]; exact p)
  exact k _ (wipe_set _ (List.mem_cons_self ..)) a b
theorem tg_two {cm : Str → Addr} {K : PySem.W.Frag} (i j : Nat) : TgOk cm K (gTup K 2 (gCons (L2.gName i) (gCons (L2.gName j) gNil))) [i, j] (cgT2 i j) := fun F S σ H x d S' Q e1 e2 R p e k => by
  cases p with
  | tup hs hr =>
    cases hr with
    | nil => cases e
    | cons p1 hr =>
      cases hr with
      | nil => cases e
      | cons p2 hr =>
        cases hr with
        | cons _ _ => cases e
        | nil =>
          cases e
          obtain ⟨a, b⟩ := R.dat (i := i) (by rw [e1, e2]; exact p1)
          obtain ⟨a2, b2⟩ := a.dat (i := j) (by rw [e1, e2]; exact p2.mono b)
          refine ⟨_, _, rfl, sqT_same hid_le hs, rfl, _, _, rfl, _, _, rfl, rfl, k _ ?_ a2 (b.trans b2)⟩
          rw [wipe_set _ (List.mem_cons_of_mem _ (List.mem_cons_self ..)), wipe_set _ (List.mem_cons_self ..)]
  | _ => cases e
theorem tg_three {cm : Str → Addr} {K : PySem.W.Frag} (i j l : Nat) : TgOk cm K (gTup K 3 (gCons (L2.gName i) (gCons (L2.gName j) (gCons (L2.gName l) gNil)))) [i, j, l] (cgT3 i j l) := fun F S σ H x d S' Q e1 e2 R p e k => by
  cases p with
  | tup hs hr =>
    cases hr with
    | nil => cases e
    | cons p1 hr =>
      cases hr with
      | nil => cases e
      | cons p2 hr =>
        cases hr with
        | nil => cases e
        | cons p3 hr =>
          cases hr with
          | cons _ _ => cases e
          | nil =>
            cases e
            obtain ⟨a, b⟩ := R.dat (i := i) (by rw [e1, e2]; exact p1)
            obtain ⟨a2, b2⟩ := a.dat (i := j) (by rw [e1, e2]; exact p2.mono b)
            obtain ⟨a3, b3⟩ := a2.dat (i := l) (by rw [e1, e2]; exact (p3.mono b).mono b2)
            refine ⟨_, _, rfl, sqT_same hid_le hs, rfl, _, _, rfl, _, _, rfl, _, _, rfl, rfl, k _ ?_ a3 ((b.trans b2).trans b3)⟩
            rw [wipe_set _ (List.mem_cons_of_mem _ (List.mem_cons_of_mem _ (List.mem_cons_self ..))), wipe_set _ (List.mem_cons_of_mem _ (List.mem_cons_self ..)), wipe_set _ (List.mem_cons_self ..)]
  | _ => cases e
end

theorem wipe_idem (vs : List Nat) : ∀ (us : List Nat) (τ : St), (∀ v, v ∈ us → v ∈ vs) → L2.wipe (L2.wipe τ us) vs = L2.wipe τ vs
  | [], τ, _ => rfl
  | u :: us, τ, hu => by
    show L2.wipe ((L2.wipe τ us).set u none) vs = _
    rw [wipe_set vs (hu u (List.mem_cons_self ..)), wipe_idem vs us τ fun v hv => hu v (List.mem_cons_of_mem _ hv)]
/-- the reading of a comprehension, from its mirror -/
theorem lc_read {cm : Str → Addr} {K : PySem.W.Frag} {W : WX} {mi : Sg → Rs (List Dat)} {t : TG} {g : Dat → Sg → Option Sg} {c : MT} {e : ME} {vs : List Nat} {F : Fm} {σ : St} {H : Hp} {Q : VK}
    (tk : TgOk cm K t vs g) (e1 : F.cm = cm) (e2 : F.K = K)
    (h : tG cm K W (rIt cm K) mi σ H fun J H1 => ∃ ds S1, Rel F S1 σ H1 ∧ rIt cm K σ (vis F S1 σ H1) J ds ∧ ∃ acc S2, loopC g c e vs ds [] (wipeS S1 vs) = .ok acc S2 ∧
      ∀ D us H2, H1 D = none → Rel (F.hide D (.lst us)) S2 σ H2 → Same (vis F S1 σ H1) (vis (F.hide D (.lst us)) S2 σ H2) → RpAll cm K (vis (F.hide D (.lst us)) S2 σ H2) us acc → Q (.ref D) H2) :
    tLc (tG cm K W (rIt cm K) mi) t (tT cm K W0 c) (tE cm K W0 e) vs σ H Q := by
  obtain ⟨F', S', a1, a2, R', h⟩ := h
  refine ⟨F', S', a1, a2, R', out_imp h fun J H1 ⟨ds, S1, R1, ⟨j1, j2, j3⟩, acc, S2, hl, hq⟩ D hD => ?_⟩
  have h0D : F.H0 D = none := R1.fresh0 hD
  have hTD := R1.tnew hD
  obtain ⟨Rh, sh⟩ := R1.hide (o := .lst []) hD
  obtain ⟨Rw, sw⟩ := Rel.wipe Rh vs
  refine ⟨fun i m H' => i + m = ds.length ∧ ∃ Sx us ac, Rel (F.hide D (.lst us)) Sx (L2.wipe σ vs) H' ∧ (∀ (v : Nat) (s : Slot), v ∈ vs → Sx[v]? = some s → s = .no) ∧ Same (vis F S1 σ H1) (vis (F.hide D (.lst us)) Sx (L2.wipe σ vs) H') ∧ RpAll cm K (vis (F.hide D (.lst us)) Sx (L2.wipe σ vs) H') us ac ∧ loopC g c e vs (ds.drop i) ac Sx = .ok acc S2,
    ⟨ds.length, by omega, _, [], [], Rw, fun v s hv => wipeS_no vs hv, sh.trans sw, .nil, hl⟩, ?_⟩
  rintro i m H' ⟨em, Sx, us, ac, Rx, nx, sx, rx, lx⟩
  have sH : Same (vis F S1 σ H1) H' := sx.trans hid_le
  by_cases hi : i < ds.length
  · refine .inr ⟨j1 i H' sH hi, fun H2 => ∃ Sx us ac, Rel (F.hide D (.lst us)) Sx (L2.wipe σ vs) H2 ∧ (∀ (v : Nat) (s : Slot), v ∈ vs → Sx[v]? = some s → s = .no) ∧ Same (vis F S1 σ H1) (vis (F.hide D (.lst us)) Sx (L2.wipe σ vs) H2) ∧ RpAll cm K (vis (F.hide D (.lst us)) Sx (L2.wipe σ vs) H2) us ac ∧ loopC g c e vs (ds.drop (i + 1)) ac Sx = .ok acc S2,
      fun H2 q => ⟨m - 1, by omega, by omega, q⟩, fun x H2 hy => ?_⟩
    obtain ⟨sy, d, hd, pd⟩ := j3 i H' x H2 _ sx Rx.live hy hi
    have R2 := Rx.grow sy
    have s2 : Same (vis (F.hide D (.lst us)) Sx (L2.wipe σ vs) H') (vis (F.hide D (.lst us)) Sx (L2.wipe σ vs) H2) := vis_grow sy
    have e3 : ds.drop i = d :: ds.drop (i + 1) := by
      rw [List.drop_eq_getElem_cons hi]
      rw [List.getElem?_eq_getElem hi] at hd
      rw [Option.some.inj hd]
    rw [e3] at lx
    unfold loopC at lx
    cases hg : g d Sx with
    | none => rw [hg] at lx; cases lx
    | some S3 =>
      rw [hg, Rs.of_some, Rs.bind_ok] at lx
      refine tk (F.hide D (.lst us)) Sx (L2.wipe σ vs) H2 x d S3 _ e1 e2 R2 pd hg fun σ2 ew R3 s3 => ?_
      have ew2 : L2.wipe σ2 vs = L2.wipe σ vs := by
        rw [ew]
        exact wipe_idem vs vs σ fun v hv => hv
      refine ⟨ew2, F.hide D (.lst us), S3, e1, e2, R3, ?_⟩
      have st3 : Same (vis (F.hide D (.lst us)) Sx (L2.wipe σ vs) H') (vis (F.hide D (.lst us)) S3 σ2 H2) := s2.trans s3
      cases hc : c S3 with
      | bad => rw [hc] at lx; cases lx
      | exc _ _ _ => rw [hc] at lx; cases lx
      | ok tt S4 =>
        rw [hc, Rs.calm_ok, Rs.bind_ok] at lx
        intro bv H4 R4 s4 eb
        have eb' : bv = tt := eb
        subst eb'
        have st4 := st3.trans s4
        cases bv with
        | false =>
          rw [if_neg Bool.false_ne_true] at lx ⊢
          obtain ⟨R5, s5⟩ := Rel.wipe R4 vs
          rw [ew2] at R5 s5
          exact ⟨_, us, ac, R5, fun v s hv => wipeS_no vs hv, (sx.trans st4).trans s5, (rx.mono st4).mono s5, lx⟩
        | true =>
          rw [if_pos rfl] at lx ⊢
          refine ⟨F.hide D (.lst us), S4, e1, e2, R4, ?_⟩
          cases he : e S4 with
          | bad => rw [he] at lx; cases lx
          | exc _ _ _ => rw [he] at lx; cases lx
          | ok y S5 =>
            rw [he, Rs.calm_ok, Rs.bind_ok] at lx
            intro yv H5 R5 s5 py
            have st5 := st4.trans s5
            by_cases hz : ac.length < lim
            · rw [if_pos hz] at lx
              have hD5 : H5 D = some (.lst us) := (R5.tmp (D, .lst us) (List.mem_cons_self ..)).1
              refine ⟨us, hD5, by rw [rx.length]; exact lim_lt hz, ?_⟩
              obtain ⟨R6, s6⟩ := Rel.wipe R5 vs
              rw [ew2] at R6 s6
              obtain ⟨R7, eG⟩ := R6.hidden (o' := .lst (us ++ [yv])) h0D hTD
              refine ⟨_, us ++ [yv], ac ++ [y], R7, fun v s hv => wipeS_no vs hv, ?_, ?_, lx⟩
              · rw [eG]; exact (sx.trans st5).trans s6
              · rw [eG]
                have py' : Rp cm K (vis (F.hide D (.lst us)) S5 σ2 H5) yv y := py
                exact ((rx.mono st5).mono s6).append (.cons (py'.mono s6) .nil)
            · rw [if_neg hz] at lx; cases lx
  · have ei : i = ds.length := by omega
    rw [List.drop_of_length_le (by omega)] at lx
    cases lx
    refine .inl ⟨by rw [ei]; exact j2 H' sH, ?_⟩
    have lw : σ.length = (L2.wipe σ vs).length := (L2.wipe_length σ vs).symm
    obtain ⟨R8, eV⟩ := Rx.other (σ := σ) lw fun v s hs => by
      by_cases hv : v ∈ vs
      · exact .inr (nx v s hv hs)
      · exact .inl (wipe_get vs hv).symm
    exact hq D us H' hD R8 (by rw [eV]; exact sx) (by rw [eV]; exact rx)
section
variable {X : Cx} {cm : Str → Addr} {W : WX} {elt tg iter : Expr} {ifs : List Expr} {scope : Scope} {own : List (Str × Nat)} {pos : Pos} {mi : Sg → Rs (List Dat)} {t : TG} {g : Dat → Sg → Option Sg} {c : MT} {e : ME}
theorem lc_end {F : Fm} {S1 S2 : Sg} {σ : St} {H1 H2 : Hp} {D : Addr} {us : List V} {acc : List Dat} {K : PySem.W.Frag} (R1 : Rel F S1 σ H1) (R : Rel (F.hide D (.lst us)) S2 σ H2) (r : RpAll cm K (vis (F.hide D (.lst us)) S2 σ H2) us acc) :
    Rel F S2 σ H2 ∧ Same (vis (F.hide D (.lst us)) S2 σ H2) (vis F S2 σ H2) ∧ (H1 D = none → Rp cm K (vis F S2 σ H2) (.ref D) (.lst acc)) := by
  obtain ⟨R3, s3⟩ := Rel.unhide R1 R
  refine ⟨R3, s3, fun hD => .lst ?_ (r.mono s3)⟩
  have e := (R.tmp (D, .lst us) (List.mem_cons_self ..)).1
  unfold vis
  rw [hid_out]
  · exact e
  · intro z
    rcases List.mem_append.mp z with z | z
    · exact R1.liv D z hD
    · exact R.lom D z (List.mem_cons_self ..)
theorem pts_of {X : Cx} {cm : Str → Addr} {K : PySem.W.Frag} (hK : X.K = K) : PTs X [] (tT cm K W0 cYes) := ⟨fun pins s σ H Q I ⟨F, S, e1, e2, R, h⟩ => (pts_nil (X := X)).run pins s σ H Q I (h true H R (Same.refl _) rfl)⟩
theorem ge_lc (hc : X.calm = true) (hN : X.N.Nodup) (hi : PI X tg iter (tG cm X.K W (rIt cm X.K) mi)) (ok : BlkOk X.N X.env.scope scope own) (tk : TgOk cm X.K t (own.map (·.2)) g)
    (hg : ∀ (s : Shared) (H : Hp) (C : Addr) (cl : List (Str × Addr)) (fp : List Addr), PG (X.blk s H scope (compEnvC scope cl C X.env) fp) tg t)
    (ht : ∀ (s : Shared) (H : Hp) (C : Addr) (cl : List (Str × Addr)) (fp : List Addr), PTs (X.blk s H scope (compEnvC scope cl C X.env) fp) ifs (tT cm X.K W0 c))
    (he : ∀ (s : Shared) (H : Hp) (C : Addr) (cl : List (Str × Addr)) (fp : List Addr), PE (X.blk s H scope (compEnvC scope cl C X.env) fp) elt (tE cm X.K W0 e)) (hs : ∀ x, foldedSetIterable iter X.env x = pure x := by intro _; rfl) :
    PE X (.ListComp elt [⟨tg, iter, ifs, 0⟩] scope pos) (tE cm X.K W (mLc mi g c e (own.map (·.2)))) :=
  PE.weak (pe_lc hc hN hi ok hg ht he hs) fun σ H Q ⟨F, S, e1, e2, R, h⟩ => lc_read tk e1 e2 (tG_bind' e1 e2 R h fun J H1 ds S1 hm R1 s1 p1 h1 => ⟨ds, S1, R1, p1, by
    cases hl : loopC g c e (own.map (·.2)) ds [] (wipeS S1 (own.map (·.2))) with
    | bad => rw [hl] at h1; exact False.elim h1
    | exc _ _ _ =>
      exfalso
      have no : ∀ (ds ac : List Dat) (S : Sg) c0 fs S', loopC g c e (own.map (·.2)) ds ac S ≠ .exc c0 fs S' := by
        intro ds
        induction ds with
        | nil => intro ac S c0 fs S' z; cases z
        | cons d ds ih =>
          intro ac S c0 fs S' z
          unfold loopC at z
          cases h1 : g d S with
          | none => rw [h1] at z; cases z
          | some S1 =>
            rw [h1, Rs.of_some, Rs.bind_ok] at z
            cases h2 : c S1 with
            | bad => rw [h2] at z; cases z
            | exc _ _ _ => rw [h2] at z; cases z
            | ok t S2 =>
              rw [h2, Rs.calm_ok, Rs.bind_ok] at z
              cases t with
              | false => exact ih _ _ _ _ _ z
              | true =>
                rw [if_pos rfl] at z
                cases h3 : e S2 with
                | bad => rw [h3] at z; cases z
                | exc _ _ _ => rw [h3] at z; cases z
                | ok y S3 =>
                  rw [h3, Rs.calm_ok, Rs.bind_ok] at z
                  by_cases hz : ac.length < lim
                  · rw [if_pos hz] at z; exact ih _ _ _ _ _ z
                  · rw [if_neg hz] at z; cases z
      exact no _ _ _ _ _ _ hl
    | ok acc S2 =>
      rw [hl, Rs.bind_ok] at h1
      refine ⟨acc, S2, rfl, fun D us H2 hD R2 s2 r2 => ?_⟩
      obtain ⟨R3, s3, r3⟩ := lc_end (cm := cm) R1 R2 r2
      exact h1 _ H2 R3 (s2.trans s3) (r3 hD)⟩)
end
end Mir

/-! MirH: defs as functions on trees; their calls -/
namespace Mir
open PySem PySem.Spec PyProof.Rows L2

/-- what a def is given: a value, or a thing that is lent to it -/
inductive FA where
  | dat (d : Dat)
  | own (o : Own)
inductive RF where
  | ok (d : Dat) (outs : List Own)
  | exc (c : Str) (fs : List (Str × Dat)) (outs : List Own)
  | bad
inductive ArgsOk (cm : Str → Addr) (K : PySem.W.Frag) (G H : Hp) : List V → List FA → List Addr → Prop
  | nil : ArgsOk cm K G H [] [] []
  | dat {v : V} {d : Dat} {vs : List V} {as : List FA} {ls : List Addr} : Rp cm K G v d → ArgsOk cm K G H vs as ls → ArgsOk cm K G H (v :: vs) (.dat d :: as) ls
  | own {l : Addr} {o : Own} {vs : List V} {as : List FA} {ls : List Addr} : OwnOk cm K G H l o → ArgsOk cm K G H vs as ls → ArgsOk cm K G H (.ref l :: vs) (.own o :: as) (l :: ls)
inductive OutsOk (cm : Str → Addr) (K : PySem.W.Frag) (G H : Hp) : List Addr → List Own → Prop
  | nil : OutsOk cm K G H [] []
  | cons {l : Addr} {o : Own} {ls : List Addr} {os : List Own} : OwnOk cm K G H l o → OutsOk cm K G H ls os → OutsOk cm K G H (l :: ls) (o :: os)
theorem OutsOk.get {cm : Str → Addr} {K : PySem.W.Frag} {G H : Hp} : ∀ {ls : List Addr} {os : List Own}, OutsOk cm K G H ls os → ∀ {t : Nat} {l : Addr}, ls[t]? = some l → ∃ o, os[t]? = some o ∧ OwnOk cm K G H l o
  | _, _, .nil, t, l, e => by simp at e
  | _, _, .cons a b, 0, l, e => by simp at e; subst e; exact ⟨_, rfl, a⟩
  | _, _, .cons a b, t + 1, l, e => OutsOk.get b (t := t) (by simpa using e)
theorem OutsOk.length {cm : Str → Addr} {K : PySem.W.Frag} {G H : Hp} : ∀ {ls : List Addr} {os : List Own}, OutsOk cm K G H ls os → ls.length = os.length
  | _, _, .nil => rfl
  | _, _, .cons _ b => congrArg Nat.succ (OutsOk.length b)
def outF (cm : Str → Addr) (K : PySem.W.Frag) (M : List Addr) (ls : List Addr) (H : Hp) (Q : VK) (E : XK) : RF → Prop
  | .ok d outs => ∀ v H', (∀ a o, H a = some o → a ∉ ls → H' a = some o) → OutsOk cm K (hid M H') H' ls outs → Rp cm K (hid M H') v d → Q v H'
  | .exc c fs outs => ∀ da gs H', (∀ a o, H a = some o → a ∉ ls → H' a = some o) → OutsOk cm K (hid M H') H' ls outs → H' da = some (.xd gs) → RpF cm K (hid M H') gs fs → E (.ref (cm c)) (some da) H'
  | .bad => False
/-- a def's promise, by its function on trees -/
def spF (cm : Str → Addr) (K : PySem.W.Frag) (Fn : List FA → RF) : Sp := fun vs H Q E => ∃ M as ls, live M H ∧ (∀ l, l ∈ ls → l ∈ M) ∧ ls.Nodup ∧ ArgsOk cm K (hid M H) H vs as ls ∧ outF cm K M ls H Q E (Fn as)

def mkSlots : Nat → List FA → Sg
  | _, [] => []
  | j, .dat d :: r => .dat d :: mkSlots j r
  | j, .own o :: r => .own j o :: mkSlots (j + 1) r
def findOwn (j : Nat) : Sg → Option Own
  | [] => none
  | .own k o :: S => if k = j then some o else findOwn j S
  | _ :: S => findOwn j S
def outsFrom (j : Nat) : Nat → Sg → Option (List Own)
  | 0, _ => some []
  | n + 1, S => match findOwn j S, outsFrom (j + 1) n S with
    | some o, some r => some (o :: r)
    | _, _ => none
def nOwn : List FA → Nat
  | [] => 0
  | .dat _ :: r => nOwn r
  | .own _ :: r => nOwn r + 1
def endF (k : Nat) : Rs Fl → RF
  | .ok (.rt d) S => match outsFrom 0 k S with
    | some outs => .ok d outs
    | none => .bad
  | .ok .nx S => match outsFrom 0 k S with
    | some outs => .ok .non outs
    | none => .bad
  | .exc c fs S => match outsFrom 0 k S with
    | some outs => .exc c fs outs
    | none => .bad
  | _ => .bad
/-- np parameters, n names -/
def runDef (np n : Nat) (m : MS) (as : List FA) : RF := if as.length = np then endF (nOwn as) (m (mkSlots 0 as ++ List.replicate (n - np) .no)) else .bad

section
variable {cm : Str → Addr} {K : PySem.W.Frag} {G H : Hp}
theorem ArgsOk.length : ∀ {vs : List V} {as : List FA} {ls : List Addr}, ArgsOk cm K G H vs as ls → vs.length = as.length
  | _, _, _, .nil => rfl
  | _, _, _, .dat _ b => congrArg Nat.succ (ArgsOk.length b)
  | _, _, _, .own _ b => congrArg Nat.succ (ArgsOk.length b)
theorem ArgsOk.nown : ∀ {vs : List V} {as : List FA} {ls : List Addr}, ArgsOk cm K G H vs as ls → nOwn as = ls.length
  | _, _, _, .nil => rfl
  | _, _, _, .dat (as := as) _ b => by show nOwn as = _; exact ArgsOk.nown b
  | _, _, _, .own _ b => congrArg Nat.succ (ArgsOk.nown b)
theorem mkSlots_len : ∀ (j : Nat) (as : List FA), (mkSlots j as).length = as.length
  | _, [] => rfl
  | j, .dat d :: r => congrArg Nat.succ (mkSlots_len j r)
  | j, .own o :: r => congrArg Nat.succ (mkSlots_len (j + 1) r)
theorem mkSlots_ok {F : Fm} (e1 : F.cm = cm) (e2 : F.K = K) : ∀ {vs : List V} {as : List FA} {ls : List Addr} (j : Nat), ArgsOk cm K G H vs as ls → (∀ t l, ls[t]? = some l → F.A0[j + t]? = some l) → ∀ {i : Nat} {s : Slot} {v : V}, (mkSlots j as)[i]? = some s → vs[i]? = some v → SlotOk F G H s (some v)
  | _, _, _, j, .nil, _, i, s, v, h, _ => by simp [mkSlots] at h
  | _, _, _, j, .dat a b, hl, 0, s, v, h, h' => by
    simp [mkSlots] at h h'; subst h; subst h'
    exact .dat (by rw [e1, e2]; exact a)
  | _, _, _, j, .own a b, hl, 0, s, v, h, h' => by
    simp [mkSlots] at h h'; subst h; subst h'
    exact .own (by have := hl 0 _ rfl; simpa using this) (by rw [e1, e2]; exact a)
  | _, _, _, j, .dat a b, hl, i + 1, s, v, h, h' => mkSlots_ok e1 e2 j b hl (i := i) (by simpa [mkSlots] using h) (by simpa using h')
  | _, _, _, j, .own a b, hl, i + 1, s, v, h, h' => mkSlots_ok e1 e2 (j + 1) b (fun t l e => by have := hl (t + 1) l (by simpa using e); rw [show j + 1 + t = j + (t + 1) by omega]; exact this) (i := i) (by simpa [mkSlots] using h) (by simpa using h')
theorem mkSlots_owns : ∀ (j : Nat) (as : List FA) (k : Nat), k ∈ owns (mkSlots j as) → j ≤ k
  | _, [], k, h => by simp [mkSlots, owns] at h
  | j, .dat d :: r, k, h => mkSlots_owns j r k (by simpa [mkSlots, owns] using h)
  | j, .own o :: r, k, h => by
    rcases List.mem_cons.mp (show k ∈ j :: owns (mkSlots (j + 1) r) from h) with e | e
    · omega
    · have := mkSlots_owns (j + 1) r k e; omega
theorem mkSlots_nd : ∀ (j : Nat) (as : List FA), (owns (mkSlots j as)).Nodup
  | _, [] => by simp [mkSlots, owns]
  | j, .dat d :: r => by have := mkSlots_nd j r; simpa [mkSlots, owns] using this
  | j, .own o :: r => List.nodup_cons.mpr ⟨fun z => by have := mkSlots_owns (j + 1) r j z; omega, mkSlots_nd (j + 1) r⟩
theorem owns_append : ∀ (S T : Sg), owns (S ++ T) = owns S ++ owns T
  | [], T => rfl
  | s :: S, T => by
    have ih := owns_append S T
    cases s <;> simp [owns, ih]
theorem owns_no : ∀ n : Nat, owns (List.replicate n Slot.no) = []
  | 0 => rfl
  | n + 1 => by rw [List.replicate_succ]; exact owns_no n
theorem locs_none : ∀ {S : Sg}, (∀ s, s ∈ S → s.isLoc = false) → ∀ σ : L2.St, locs S σ = []
  | [], _, σ => by cases σ <;> rfl
  | s :: S, h, [] => by cases s <;> rfl
  | s :: S, h, v :: σ => by
    have hs := h s (List.mem_cons_self ..)
    have ih := locs_none (S := S) (fun t ht => h t (List.mem_cons_of_mem _ ht)) σ
    cases s with
    | loc ds => cases hs
    | _ => simpa [locs] using ih
theorem mkSlots_loc : ∀ (j : Nat) (as : List FA) s, s ∈ mkSlots j as → s.isLoc = false
  | _, [], s, h => by simp [mkSlots] at h
  | j, .dat d :: r, s, h => by
    rcases List.mem_cons.mp (show s ∈ Slot.dat d :: mkSlots j r from h) with e | e
    · rw [e]; rfl
    · exact mkSlots_loc j r s e
  | j, .own o :: r, s, h => by
    rcases List.mem_cons.mp (show s ∈ Slot.own j o :: mkSlots (j + 1) r from h) with e | e
    · rw [e]; rfl
    · exact mkSlots_loc (j + 1) r s e
theorem findOwn_mem : ∀ {S : Sg} {j : Nat} {o : Own}, findOwn j S = some o → ∃ i : Nat, S[i]? = some (.own j o)
  | [], j, o, h => by cases h
  | s :: S, j, o, h => by
    cases s with
    | own k u =>
      unfold findOwn at h
      by_cases e : k = j
      · rw [if_pos e] at h; cases h; subst e; exact ⟨0, rfl⟩
      · rw [if_neg e] at h
        obtain ⟨i, hi⟩ := findOwn_mem h
        exact ⟨i + 1, by simpa using hi⟩
    | _ =>
      obtain ⟨i, hi⟩ := findOwn_mem (S := S) (j := j) (o := o) (by simpa [findOwn] using h)
      exact ⟨i + 1, by simpa using hi⟩
theorem Rel.outs {F : Fm} {S : Sg} {σ : L2.St} {H : Hp} (R : Rel F S σ H) : ∀ (ls : List Addr) (j : Nat) (outs : List Own), (∀ t l, ls[t]? = some l → F.A0[j + t]? = some l) → outsFrom j ls.length S = some outs → OutsOk F.cm F.K (hid F.M H) H ls outs
  | [], j, outs, _, h => by cases h; exact .nil
  | l :: ls, j, outs, hl, h => by
    have h' : (match findOwn j S, outsFrom (j + 1) ls.length S with | some o, some r => some (o :: r) | _, _ => none) = some outs := h
    cases h1 : findOwn j S with
    | none => rw [h1] at h'; cases h'
    | some o =>
      cases h2 : outsFrom (j + 1) ls.length S with
      | none => rw [h1, h2] at h'; cases h'
      | some r =>
        rw [h1, h2] at h'; cases h'
        obtain ⟨i, hi⟩ := findOwn_mem h1
        have hlt : i < σ.length := by rw [← R.len]; exact (List.getElem?_eq_some_iff.mp hi).1
        have hv : σ[i]? = some σ[i] := List.getElem?_eq_getElem hlt
        have q := R.sl i _ _ hi hv
        have hj : F.A0[j]? = some l := by have := hl 0 l rfl; simpa using this
        refine .cons ?_ (Rel.outs R ls (j + 1) r (fun t x e => by have := hl (t + 1) x (by simpa using e); rw [show j + 1 + t = j + (t + 1) by omega]; exact this) h2)
        generalize σ[i] = w at hv q
        cases q with
        | own e0 ok =>
          rw [hj] at e0; cases e0
          exact ok.mono (hid_sub fun a h => List.mem_append_left _ h) fun _ z => z
end

structure FnG (P : Program) (w : World) (K : PySem.W.Frag) (mg : Str → Option Value) (base : Heap) (CX : CXT) (k : Nat) (f : Addr) (fd : FuncData) (ps : List Str) (sp : Sp) : Prop where
  len : ∀ vs H Q E, sp vs H Q E → vs.length = ps.length
  run : ∀ (A : Around) (outer : List Env) (s : Shared) (H : Hp) (args : Args) (us : List Value) (vs : List V) (Q : VK) (E : XK), Room k A → A.guards = some [] → Env0 P w K mg base A outer s H → BindsTo s fd args (ps.zip us) → Vals vs us → sp vs H Q E →
    codeAny (model P w) A (.call (.ref f) args) (CR CX outer P w H s Q E) s
theorem FnG.mono {P : Program} {w : World} {K : PySem.W.Frag} {mg : Str → Option Value} {base : Heap} {CX : CXT} {j k : Nat} {f : Addr} {fd : FuncData} {ps : List Str} {sp : Sp} (F : FnG P w K mg base CX j f fd ps sp) (h : j ≤ k) : FnG P w K mg base CX k f fd ps sp :=
  ⟨F.len, fun A outer s H args us vs Q E hr => F.run A outer s H args us vs Q E (hr.mono h)⟩
theorem guards_deeper {A : Around} {env : Env} (h : A.guards = some []) : (A.deeper env).guards = some [] := h

section
variable {P : Program} {w : World} {K : PySem.W.Frag} {mg : Str → Option Value} {base : Heap} {cm : Str → Addr}
/-- a def by its body's mirror -/
theorem fnG_of {x qual : Str} {params : Arguments} {body : List Stmt} {scope : Scope} {dvs : List V} {kws : List (Str × V)} {f : Addr} {fd : FuncData} {N ps : List Str} {k n np : Nat} {m : MS} (F : FunD K x qual params body scope dvs kws f fd) (S : FnScope N ps scope) (hn : N.length = n) (hp : ps.length = np)
    (hbody : ∀ (cdv : Value) (A : Around) (outer : List Env) (s : Shared) (H : Hp) (E : XK), Room k (A.deeper (envOfC qual scope s.heap.objs.size f cdv)) → (A.deeper (envOfC qual scope s.heap.objs.size f cdv)).guards = some [] →
      PSs (cxOf (L2.CX P w) P w K mg base N qual scope f cdv A outer s H E) body (tS cm K (fun cls d _ H' => E cls d H') m)) : FnG P w K mg base (L2.CX P w) (k + 1) f fd ps (spF cm K (runDef np n m)) := by
  have len : ∀ vs H Q E, spF cm K (runDef np n m) vs H Q E → vs.length = ps.length := fun vs H Q E ⟨M, as, ls, _, _, _, a, o⟩ => by
    unfold runDef at o
    by_cases hl : as.length = np
    · rw [a.length, hl, hp]
    · rw [if_neg hl] at o; exact o.elim
  obtain ⟨oc, od, dV, kV, doc, pm, an, cdv, ct, osl, rfl, lk, hcd, _, _⟩ := F.ex
  refine ⟨len, fun A outer s H args us vs Q E hr hg e0 hb r hsp => ?_⟩
  have hl := len _ _ _ _ hsp
  have KX : K.In s.heap := e0.mod.kin.keeps fun b o e => (e0.bs b o e).1
  have lim0 : s.heap.NoLimit := e0.mod.nolimit.keeps fun b o e => (e0.bs b o e).1
  refine codeAny_call_function hr.depth (KX _ _ lk) rfl S.co S.gen rfl (PySem.W.codeRec_of KX hcd) (hb _ _ _ _ (wpAny_newFunctionEnv_cells S.kind (fun ⟨nm, v⟩ hy => ?_) fun env he s1 y => ?_))
  · rcases S.par nm (List.of_mem_zip hy).1 with q | q
    · exact Or.inl q
    · exact Or.inr ⟨q, PySem.W.cellsFrom_some _ _ _ (Or.inl q)⟩
  · subst he
    refine ⟨lim0.keeps y.toInCall.keep, codeAny_func ?_⟩
    have I : L2.Inv (cxOf (L2.CX P w) P w K mg base N qual scope f cdv A outer s H E) [] (L2.start N vs) H s1 := inv_start S hr.hd e0 hl r y
    have ht := hbody cdv A outer s H E (hr.deeper _) (guards_deeper hg)
    obtain ⟨M, as, ls, lv, lm, ln, ao, of⟩ := hsp
    have hla : as.length = np := by rw [← ao.length, hl, hp]
    unfold runDef at of
    rw [if_pos hla, ao.nown] at of
    -- the frame at the entry
    have F0 : Rel ⟨cm, K, M, H, ls, []⟩ (mkSlots 0 as ++ List.replicate (n - np) .no) (L2.start N vs) H := by
      have lc : ∀ σ : L2.St, locs (mkSlots 0 as ++ List.replicate (n - np) .no) σ = [] := locs_none fun s hs => by
        rcases List.mem_append.mp hs with h | h
        · exact mkSlots_loc 0 as s h
        · rw [(List.mem_replicate.mp h).2]; rfl
      refine ⟨?_, fun i s v a b => ?_, ?_, fun l h => ?_, ?_, ln, lm, lv, fun l h => ?_, fun p h => ?_, fun a o q _ => q⟩
      · unfold L2.start
        rw [List.length_append, List.length_append, List.length_map, mkSlots_len, List.length_replicate, List.length_replicate, hn, ao.length, hla]
      · have eV : vis ⟨cm, K, M, H, ls, []⟩ (mkSlots 0 as ++ List.replicate (n - np) .no) (L2.start N vs) H = hid M H := by
          unfold vis; rw [lc, List.append_nil]
        rw [eV]
        unfold L2.start at b
        by_cases hi : i < as.length
        · have hi' : i < vs.length := by rw [ao.length]; exact hi
          rw [List.getElem?_append_left (by rw [mkSlots_len]; exact hi)] at a
          rw [List.getElem?_append_left (by rw [List.length_map]; exact hi'), List.getElem?_map, List.getElem?_eq_getElem hi'] at b
          cases b
          exact mkSlots_ok (F := ⟨cm, K, M, H, ls, []⟩) rfl rfl 0 ao (fun t l e => by rw [Nat.zero_add]; exact e) a (List.getElem?_eq_getElem hi')
        · rw [List.getElem?_append_right (by rw [mkSlots_len]; omega), List.getElem?_replicate] at a
          split at a
          · cases a; exact .no
          · cases a
      · rw [lc]; exact List.nodup_nil
      · rw [lc] at h; cases h
      · rw [owns_append, owns_no, List.append_nil]; exact mkSlots_nd 0 as
      · rw [lc] at h; cases h
      · cases h
    have la : ∀ (t : Nat) (l : Addr), ls[t]? = some l → (⟨cm, K, M, H, ls, []⟩ : Fm).A0[0 + t]? = some l := fun t l e => by rw [Nat.zero_add]; exact e
    have hq : tS cm K (fun cls d _ H' => E cls d H') m { nx := fun _ H' => Q .non H', rt := Q } (L2.start N vs) H := by
      refine ⟨⟨cm, K, M, H, ls, []⟩, _, rfl, rfl, F0, ?_⟩
      cases hm : m (mkSlots 0 as ++ List.replicate (n - np) .no) with
      | bad => rw [hm] at of; exact of
      | exc c fs S' =>
        rw [hm] at of
        intro σ' da gs H' R' _ hda hgs
        unfold endF at of
        dsimp only at of
        cases ho : outsFrom 0 ls.length S' with
        | none => rw [ho] at of; exact of.elim
        | some outs =>
          rw [ho] at of
          exact of da gs H' (fun a o e n => R'.keep a o e n) (Rel.outs R' ls 0 outs la ho) hda (hgs.mono (hid_sub fun a h => List.mem_append_left _ h))
      | ok fl S' =>
        rw [hm] at of
        cases fl with
        | nx =>
          intro σ' H' R' _
          unfold endF at of
          dsimp only at of
          cases ho : outsFrom 0 ls.length S' with
          | none => rw [ho] at of; exact of.elim
          | some outs =>
            rw [ho] at of
            exact of .non H' (fun a o e n => R'.keep a o e n) (Rel.outs R' ls 0 outs la ho) .non
        | rt d =>
          intro v σ' H' R' _ rv
          unfold endF at of
          dsimp only at of
          cases ho : outsFrom 0 ls.length S' with
          | none => rw [ho] at of; exact of.elim
          | some outs =>
            rw [ho] at of
            exact of v H' (fun a o e n => R'.keep a o e n) (Rel.outs R' ls 0 outs la ho) (rv.mono (hid_sub fun a h => List.mem_append_left _ h))
        | bk => exact of.elim
        | ct => exact of.elim
    refine wpAny_mono (ht.run [] s1 (L2.start N vs) H _ I hq) (fun fl s' hs => ?_) fun e s' hs => hs
    cases fl with
    | ret u => obtain ⟨v, σ', H', J, rv, q⟩ := hs; exact ⟨v, H', J.os, J.bare, J.base, J.hok, rv, q⟩
    | next => obtain ⟨σ', H', J, q⟩ := hs; exact ⟨V.non, H', J.os, J.bare, J.base, J.hok, (rfl : Value.none = Value.none), q⟩
    | brk => obtain ⟨_, _, _, q⟩ := hs; exact q.elim
    | cont => obtain ⟨_, _, _, q⟩ := hs; exact q.elim
end
end Mir

/-! MirI: calls of defs -/
namespace Mir
open PySem PySem.Spec L2

/-- an argument: a value, or what a slot holds, lent -/
inductive AV where
  | dat (d : Dat)
  | slot (i : Nat)
abbrev MAv := Sg → Rs (List AV)
inductive AvsOk (cm : Str → Addr) (K : PySem.W.Frag) (σ : L2.St) (G : Hp) : List V → List AV → Prop
  | nil : AvsOk cm K σ G [] []
  | dat {v : V} {d : Dat} {vs : List V} {as : List AV} : Rp cm K G v d → AvsOk cm K σ G vs as → AvsOk cm K σ G (v :: vs) (.dat d :: as)
  | slot {v : V} {i : Nat} {vs : List V} {as : List AV} : σ[i]? = some (some v) → AvsOk cm K σ G vs as → AvsOk cm K σ G (v :: vs) (.slot i :: as)
theorem AvsOk.mono {cm : Str → Addr} {K : PySem.W.Frag} {σ : L2.St} {G G' : Hp} (e : Same G G') : ∀ {vs : List V} {as : List AV}, AvsOk cm K σ G vs as → AvsOk cm K σ G' vs as
  | _, _, .nil => .nil
  | _, _, .dat a b => .dat (a.mono e) (AvsOk.mono e b)
  | _, _, .slot a b => .slot a (AvsOk.mono e b)
theorem AvsOk.length {cm : Str → Addr} {K : PySem.W.Frag} {σ : L2.St} {G : Hp} : ∀ {vs : List V} {as : List AV}, AvsOk cm K σ G vs as → vs.length = as.length
  | _, _, .nil => rfl
  | _, _, .dat _ b => congrArg Nat.succ (AvsOk.length b)
  | _, _, .slot _ b => congrArg Nat.succ (AvsOk.length b)
abbrev rAv (cm : Str → Addr) (K : PySem.W.Frag) : Rep (List V) (List AV) := fun σ G vs as => AvsOk cm K σ G vs as
abbrev tAv (cm : Str → Addr) (K : PySem.W.Frag) (W : WX) (m : MAv) : TA := tG cm K W (rAv cm K) m

def isLent (i : Nat) (S : Sg) : Bool := match S[i]? with
  | some (.loc _) => true
  | some (.own _ _) => true
  | _ => false
def vNil : MAv := fun S => .ok [] S
def vDat (ma : ME) (mr : MAv) : MAv := fun S => (ma S).bind fun d S1 => (mr S1).bind fun r S2 => .ok (.dat d :: r) S2
def vSlot (i : Nat) (mr : MAv) : MAv := fun S => if isLent i S then (mr S).bind fun r S2 => .ok (.slot i :: r) S2 else .bad
def fetch (S : Sg) : List AV → Option (List FA × List Nat)
  | [] => some ([], [])
  | .dat d :: r => match fetch S r with
    | some (fs, is) => some (.dat d :: fs, is)
    | none => none
  | .slot i :: r => match S[i]?, fetch S r with
    | some (.own _ o), some (fs, is) => some (.own o :: fs, i :: is)
    | some (.loc ds), some (fs, is) => some (.own (.lst ds) :: fs, i :: is)
    | _, _ => none
def putS (s : Slot) (o : Own) : Option Slot := match s with
  | .own j _ => some (.own j o)
  | .loc _ => match o with
    | .lst ds => some (.loc ds)
    | _ => none
  | _ => none
def wb : Sg → List Nat → List Own → Option Sg
  | S, [], [] => some S
  | S, i :: is, o :: os => match S[i]? with
    | some s => match putS s o with
      | some s' => wb (S.set i s') is os
      | none => none
    | none => none
  | _, _, _ => none
def nodupB : List Nat → Bool
  | [] => true
  | i :: is => !is.contains i && nodupB is
theorem nodupB_ok : ∀ {is : List Nat}, nodupB is = true → is.Nodup
  | [], _ => List.nodup_nil
  | i :: is, h => by
    unfold nodupB at h
    rw [Bool.and_eq_true] at h
    refine List.nodup_cons.mpr ⟨fun z => ?_, nodupB_ok h.2⟩
    have := h.1
    simp [z] at this
def applyF (Fn : List FA → RF) (as : List AV) (S : Sg) : Rs Dat := match fetch S as with
  | none => .bad
  | some (fs, is) => if nodupB is then (match Fn fs with
    | .ok d outs => (match wb S is outs with
      | some S' => .ok d S'
      | none => .bad)
    | .exc c es outs => (match wb S is outs with
      | some S' => .exc c es S'
      | none => .bad)
    | .bad => .bad) else .bad

theorem nd_of_get {α : Type} : ∀ {xs : List α}, (∀ (t u : Nat) (l : α), xs[t]? = some l → xs[u]? = some l → t = u) → xs.Nodup
  | [], _ => List.nodup_nil
  | x :: xs, h => List.nodup_cons.mpr ⟨fun z => by
      obtain ⟨t, ht, e⟩ := List.getElem_of_mem z
      have := h 0 (t + 1) x rfl (by rw [List.getElem?_cons_succ, List.getElem?_eq_getElem ht, e])
      omega, nd_of_get fun t u l a b => by
      have := h (t + 1) (u + 1) l (by rw [List.getElem?_cons_succ]; exact a) (by rw [List.getElem?_cons_succ]; exact b)
      omega⟩
def LentAt (F : Fm) (S : Sg) (σ : L2.St) (i : Nat) (l : Addr) : Prop := σ[i]? = some (some (.ref l)) ∧ ((∃ ds, S[i]? = some (.loc ds)) ∨ ∃ j o, S[i]? = some (.own j o) ∧ F.A0[j]? = some l)
section
variable {F : Fm} {S S' : Sg} {σ : L2.St} {H H' : Hp}
theorem Rel.lentAt (R : Rel F S σ H) {i : Nat} (h : isLent i S = true) : ∃ l, LentAt F S σ i l := by
  unfold isLent at h
  cases hs : S[i]? with
  | none => rw [hs] at h; cases h
  | some s =>
    have hl : i < σ.length := by rw [← R.len]; exact (List.getElem?_eq_some_iff.mp hs).1
    have hv : σ[i]? = some σ[i] := List.getElem?_eq_getElem hl
    have q := R.sl i s _ hs hv
    generalize σ[i] = w at hv q
    cases q with
    | no => rw [hs] at h; cases h
    | dat _ => rw [hs] at h; cases h
    | loc _ _ => exact ⟨_, hv, .inl ⟨_, hs⟩⟩
    | own e0 _ => exact ⟨_, hv, .inr ⟨_, _, hs, e0⟩⟩
theorem Rel.lent1 (R : Rel F S σ H) {i k : Nat} {l : Addr} (a : LentAt F S σ i l) (b : LentAt F S σ k l) : i = k := by
  obtain ⟨a0, a1⟩ := a
  obtain ⟨b0, b1⟩ := b
  rcases a1 with ⟨ds, a1⟩ | ⟨j, o, a1, a2⟩
  · rcases b1 with ⟨es, b1⟩ | ⟨j', o', b1, b2⟩
    · exact locs_one R.nd a1 a0 b1 b0
    · exact absurd (R.ain l (List.mem_of_getElem? b2)) (R.lom l (mem_locs.mpr ⟨i, ds, a1, a0⟩))
  · rcases b1 with ⟨es, b1⟩ | ⟨j', o', b1, b2⟩
    · exact absurd (R.ain l (List.mem_of_getElem? a2)) (R.lom l (mem_locs.mpr ⟨k, es, b1, b0⟩))
    · have ej : j = j' := nd_ix R.and_ a2 b2
      subst ej
      exact owns_one R.ond a1 b1
theorem Rel.lentIn (R : Rel F S σ H) {i : Nat} {l : Addr} (a : LentAt F S σ i l) : l ∈ F.M ++ locs S σ := by
  obtain ⟨a0, a1⟩ := a
  rcases a1 with ⟨ds, a1⟩ | ⟨j, o, a1, a2⟩
  · exact List.mem_append_right _ (mem_locs.mpr ⟨i, ds, a1, a0⟩)
  · exact List.mem_append_left _ (R.ain l (List.mem_of_getElem? a2))
theorem locs_set_own {i j : Nat} {o u : Own} (h : S[i]? = some (.own j o)) : locs (S.set i (.own j u)) σ = locs S σ := by
  have key : ∀ (S : Sg) (σ : L2.St) (i : Nat), S[i]? = some (.own j o) → locs (S.set i (.own j u)) σ = locs S σ := by
    intro S
    induction S with
    | nil => intro σ i h; simp at h
    | cons s S ih =>
      intro σ i h
      cases σ with
      | nil =>
        have : ∀ T : Sg, locs T [] = [] := fun T => by cases T with
          | nil => rfl
          | cons x r => cases x <;> rfl
        simp [this]
      | cons v σ =>
        cases i with
        | zero => simp at h; subst h; rfl
        | succ i =>
          have := ih σ i (by simpa using h)
          show locs (s :: S.set i _) (v :: σ) = locs (s :: S) (v :: σ)
          cases s with
          | loc ds =>
            cases v with
            | none => exact this
            | some v =>
              cases v with
              | ref l => simp [locs, this]
              | _ => exact this
          | _ => simpa [locs] using this
  exact key S σ i h
theorem wb_spec : ∀ {is : List Nat} {os : List Own} {S S' : Sg}, is.Nodup → wb S is os = some S' → S'.length = S.length ∧ locs S' σ = locs S σ ∧ owns S' = owns S ∧ (∀ k : Nat, k ∉ is → S'[k]? = S[k]?) ∧
    ∀ (t k : Nat), is[t]? = some k → ∃ s o s', S[k]? = some s ∧ os[t]? = some o ∧ putS s o = some s' ∧ S'[k]? = some s'
  | [], [], S, S', _, h => by cases h; exact ⟨rfl, rfl, rfl, fun _ _ => rfl, fun t k e => by simp at e⟩
  | [], _ :: _, S, S', _, h => by cases h
  | _ :: _, [], S, S', _, h => by cases h
  | i :: is, o :: os, S, S', nd, h => by
    obtain ⟨n1, n2⟩ := List.nodup_cons.mp nd
    unfold wb at h
    cases hs : S[i]? with
    | none => rw [hs] at h; cases h
    | some s =>
      rw [hs] at h
      dsimp only at h
      cases hp : putS s o with
      | none => rw [hp] at h; cases h
      | some s1 =>
        rw [hp] at h
        obtain ⟨a1, a2, a3, a4, a5⟩ := wb_spec n2 h
        have hi : i < S.length := (List.getElem?_eq_some_iff.mp hs).1
        have el : locs (S.set i s1) σ = locs S σ ∧ owns (S.set i s1) = owns S := by
          unfold putS at hp
          cases s with
          | no => cases hp
          | dat d => cases hp
          | loc ds =>
            cases o with
            | lst es =>
              cases hp
              refine ⟨locs_set_same hs, ?_⟩
              have key : ∀ (S : Sg) (i : Nat), S[i]? = some (.loc ds) → owns (S.set i (.loc es)) = owns S := by
                intro S
                induction S with
                | nil => intro i h; simp at h
                | cons s S ih =>
                  intro i h
                  cases i with
                  | zero => simp at h; subst h; rfl
                  | succ i =>
                    have := ih i (by simpa using h)
                    show owns (s :: S.set i _) = owns (s :: S)
                    cases s with
                    | own j o => simp [owns, this]
                    | _ => simpa [owns] using this
              exact key S i hs
            | obj _ _ => cases hp
          | own j u => cases hp; exact ⟨locs_set_own hs, owns_set_same hs⟩
        refine ⟨by rw [a1, List.length_set], by rw [a2, el.1], by rw [a3, el.2], fun k hk => ?_, fun t k e => ?_⟩
        · rw [a4 k fun z => hk (List.mem_cons_of_mem _ z), List.getElem?_set_ne fun z => hk (by rw [z]; exact List.mem_cons_self ..)]
        · cases t with
          | zero =>
            simp at e; subst e
            refine ⟨s, o, s1, hs, rfl, hp, ?_⟩
            rw [a4 i n1, List.getElem?_set, if_pos rfl, if_pos hi]
          | succ t =>
            have e' : is[t]? = some k := by simpa using e
            obtain ⟨s2, o2, s3, b1, b2, b3, b4⟩ := a5 t k e'
            have hne : i ≠ k := fun z => n1 (by rw [z]; exact List.mem_of_getElem? e')
            rw [List.getElem?_set_ne hne] at b1
            exact ⟨s2, o2, s3, b1, by simpa using b2, b3, b4⟩
/-- behind a call to which some slots' things were lent -/
theorem Rel.lent (R : Rel F S σ H) {is : List Nat} {ls : List Addr} {outs : List Own} (nd : is.Nodup) (ha : ∀ (t i : Nat), is[t]? = some i → ∃ l, ls[t]? = some l ∧ LentAt F S σ i l) (hb : ∀ (t : Nat) (l : Addr), ls[t]? = some l → ∃ i : Nat, is[t]? = some i)
    (keep : ∀ a o, H a = some o → a ∉ ls → H' a = some o) (oo : OutsOk F.cm F.K (hid (F.M ++ locs S σ) H') H' ls outs) (hw : wb S is outs = some S') : Rel F S' σ H' ∧ Same (vis F S σ H) (vis F S' σ H') := by
  obtain ⟨a1, a2, a3, a4, a5⟩ := wb_spec (σ := σ) nd hw
  have eV : vis F S' σ H' = hid (F.M ++ locs S σ) H' := by unfold vis; rw [a2]
  have mem : ∀ l, l ∈ ls → ∃ i, i ∈ is ∧ LentAt F S σ i l := fun l hl => by
    obtain ⟨t, ht, e⟩ := List.getElem_of_mem hl
    have et : ls[t]? = some l := by rw [List.getElem?_eq_getElem ht, e]
    obtain ⟨i, hi⟩ := hb t l et
    obtain ⟨l', e2, q⟩ := ha t i hi
    rw [et] at e2; cases e2
    exact ⟨i, List.mem_of_getElem? hi, q⟩
  have g : Same (vis F S σ H) (vis F S' σ H') := by
    rw [eV]
    exact hid_same fun a o na q => keep a o q fun z => by
      obtain ⟨i, _, q⟩ := mem a z
      exact na (R.lentIn q)
  have outl : ∀ l, l ∈ ls → H' l ≠ none := fun l hl => by
    obtain ⟨t, ht, e⟩ := List.getElem_of_mem hl
    obtain ⟨o, _, ok⟩ := oo.get (show ls[t]? = some l by rw [List.getElem?_eq_getElem ht, e])
    cases ok with
    | lst h _ => rw [h]; simp
    | obj h _ => rw [h]; simp
  refine ⟨⟨by rw [a1, R.len], fun k s v hs hv => ?_, by rw [a2]; exact R.nd, fun l h => R.new l (by rw [← a2]; exact h), by rw [a3]; exact R.ond, R.and_, R.ain, fun a h => ?_, fun l h => R.lom l (by rw [← a2]; exact h), fun p h => ?_, fun a o q n => ?_⟩, g⟩
  · rw [eV]
    by_cases hk : k ∈ is
    · obtain ⟨t, ht, e⟩ := List.getElem_of_mem hk
      have et : is[t]? = some k := by rw [List.getElem?_eq_getElem ht, e]
      obtain ⟨s0, o, s1, b1, b2, b3, b4⟩ := a5 t k et
      rw [hs] at b4; cases b4
      obtain ⟨l, el, lv, lk⟩ := ha t k et
      rw [hv] at lv; cases lv
      obtain ⟨o', eo, ok⟩ := oo.get el
      rw [b2] at eo; cases eo
      rcases lk with ⟨ds, lk⟩ | ⟨j, u, lk, lj⟩
      · rw [b1] at lk; cases lk
        cases o with
        | lst es =>
          cases b3
          cases ok with
          | lst h r => exact .loc h r
        | obj _ _ => cases b3
      · rw [b1] at lk; cases lk
        cases b3
        exact .own lj ok
    · rw [a4 k hk] at hs
      have y := R.sl k s v hs hv
      rw [← eV]
      refine y.mono g fun l x ev n1 n2 q => keep l x q fun z => ?_
      obtain ⟨i, hi, qi⟩ := mem l z
      have lk : LentAt F S σ k l := by
        rw [ev] at hv y
        cases y with
        | no => exact absurd rfl n1
        | dat _ => exact absurd rfl (n2 _)
        | loc _ _ => exact ⟨hv, .inl ⟨_, hs⟩⟩
        | own e0 _ => exact ⟨hv, .inr ⟨_, _, hs, e0⟩⟩
      exact hk (by rw [← R.lent1 qi lk]; exact hi)
  · by_cases hl : a ∈ ls
    · exact outl a hl
    · cases q : H a with
      | none => exact absurd q (R.liv a h)
      | some o => rw [keep a o q hl]; simp
  · obtain ⟨t1, t2, t3⟩ := R.tmp p h
    refine ⟨keep _ _ t1 fun z => ?_, t2, t3⟩
    obtain ⟨i, _, l0, lk⟩ := mem p.1 z
    rcases lk with ⟨ds, lk⟩ | ⟨j, u, lk, lj⟩
    · exact R.lom p.1 (mem_locs.mpr ⟨i, ds, lk, l0⟩) t2
    · exact t3 (List.mem_of_getElem? lj)
  · refine keep a o (R.keep a o q n) fun z => ?_
    obtain ⟨i, _, l0, lk⟩ := mem a z
    rcases lk with ⟨ds, lk⟩ | ⟨j, u, lk, lj⟩
    · rw [R.new a (mem_locs.mpr ⟨i, ds, lk, l0⟩)] at q; cases q
    · exact n (List.mem_of_getElem? lj)
theorem fetch_ok {cm : Str → Addr} {K : PySem.W.Frag} (e1 : F.cm = cm) (e2 : F.K = K) (R : Rel F S σ H) : ∀ {vs : List V} {as : List AV} {fs : List FA} {is : List Nat}, AvsOk cm K σ (vis F S σ H) vs as → fetch S as = some (fs, is) →
    ∃ ls, ArgsOk cm K (vis F S σ H) H vs fs ls ∧ (∀ (t i : Nat), is[t]? = some i → ∃ l, ls[t]? = some l ∧ LentAt F S σ i l) ∧ ∀ (t : Nat) (l : Addr), ls[t]? = some l → ∃ i : Nat, is[t]? = some i
  | _, _, fs, is, .nil, h => by cases h; exact ⟨[], .nil, fun t i e => by simp at e, fun t l e => by simp at e⟩
  | _, _, fs, is, .dat (as := as) a b, h => by
    unfold fetch at h
    cases hf : fetch S as with
    | none => rw [hf] at h; cases h
    | some q =>
      obtain ⟨q1, q2⟩ := q
      rw [hf] at h; cases h
      obtain ⟨ls, c1, c2, c3⟩ := fetch_ok e1 e2 R b hf
      exact ⟨ls, .dat a c1, c2, c3⟩
  | _, _, fs, is, .slot (i := i) (as := as) a b, h => by
    unfold fetch at h
    cases hs : S[i]? with
    | none => rw [hs] at h; cases h
    | some s =>
      have y := R.sl i s _ hs a
      cases hf : fetch S as with
      | none => rw [hs, hf] at h; cases s <;> cases h
      | some q =>
        obtain ⟨q1, q2⟩ := q
        rw [hs, hf] at h
        obtain ⟨ls, c1, c2, c3⟩ := fetch_ok e1 e2 R b hf
        have fin : ∀ {l : Addr} {o : Own}, LentAt F S σ i l → OwnOk cm K (vis F S σ H) H l o → (FA.own o :: q1, i :: q2) = (fs, is) → ∃ ls, ArgsOk cm K (vis F S σ H) H (V.ref l :: _) fs ls ∧ (∀ (t i : Nat), is[t]? = some i → ∃ l, ls[t]? = some l ∧ LentAt F S σ i l) ∧ ∀ (t : Nat) (l : Addr), ls[t]? = some l → ∃ i : Nat, is[t]? = some i := fun {l o} la ok e => by
          cases e
          refine ⟨l :: ls, .own ok c1, fun t k e => ?_, fun t x e => ?_⟩
          · cases t with
            | zero => simp at e; subst e; exact ⟨l, rfl, la⟩
            | succ t => obtain ⟨x, d1, d2⟩ := c2 t k (by simpa using e); exact ⟨x, by simpa using d1, d2⟩
          · cases t with
            | zero => exact ⟨i, rfl⟩
            | succ t => obtain ⟨k, d⟩ := c3 t x (by simpa using e); exact ⟨k, by simpa using d⟩
        cases y with
        | no => cases h
        | dat _ => cases h
        | loc eh r => exact fin ⟨a, .inl ⟨_, hs⟩⟩ (.lst eh (by rw [← e1, ← e2]; exact r)) (Option.some.inj h)
        | own e0 ok => exact fin ⟨a, .inr ⟨_, _, hs, e0⟩⟩ (by rw [← e1, ← e2]; exact ok) (Option.some.inj h)
theorem apply_ok {cm : Str → Addr} {K : PySem.W.Frag} {W : WX} {Fn : List FA → RF} {vs : List V} {as : List AV} {Q : VK} (e1 : F.cm = cm) (e2 : F.K = K) (R : Rel F S σ H) (av : AvsOk cm K σ (vis F S σ H) vs as) (h : out F W σ (vis F S σ H) (rE cm K) Q (applyF Fn as S)) :
    spF cm K Fn vs H Q (WE W σ) := by
  unfold applyF at h
  cases hf : fetch S as with
  | none => rw [hf] at h; exact h.elim
  | some q =>
    obtain ⟨fs, is⟩ := q
    rw [hf] at h
    dsimp only at h
    by_cases hn : nodupB is = true
    · rw [if_pos hn] at h
      have nd := nodupB_ok hn
      obtain ⟨ls, c1, c2, c3⟩ := fetch_ok e1 e2 R av hf
      have lin : ∀ l, l ∈ ls → l ∈ F.M ++ locs S σ := fun l hl => by
        obtain ⟨t, ht, e⟩ := List.getElem_of_mem hl
        have et : ls[t]? = some l := by rw [List.getElem?_eq_getElem ht, e]
        obtain ⟨i, hi⟩ := c3 t l et
        obtain ⟨l', e3, q⟩ := c2 t i hi
        rw [et] at e3; cases e3
        exact R.lentIn q
      have lnd : ls.Nodup := nd_of_get fun t u l ht hl => by
        obtain ⟨i, hi⟩ := c3 u l hl
        obtain ⟨k, hk⟩ := c3 t l ht
        obtain ⟨l1, d1, d2⟩ := c2 u i hi
        obtain ⟨l2, d3, d4⟩ := c2 t k hk
        rw [hl] at d1; cases d1
        rw [ht] at d3; cases d3
        have ik := R.lent1 d2 d4
        subst ik
        exact nd_ix nd hk hi
      refine ⟨F.M ++ locs S σ, fs, ls, R.live, lin, lnd, c1, ?_⟩
      cases hF : Fn fs with
      | bad => rw [hF] at h; exact h
      | ok d outs =>
        rw [hF] at h
        intro v H' kp oo rv
        dsimp only at h
        cases hw : wb S is outs with
        | none => rw [hw] at h; exact h.elim
        | some S' =>
          rw [hw] at h
          obtain ⟨R', s'⟩ := R.lent nd c2 c3 kp (by rw [e1, e2]; exact oo) hw
          refine h v H' R' s' ?_
          have eV : vis F S' σ H' = hid (F.M ++ locs S σ) H' := by unfold vis; rw [(wb_spec (σ := σ) nd hw).2.1]
          rw [eV]
          exact rv
      | exc c es outs =>
        rw [hF] at h
        intro da gs H' kp oo hda rg
        dsimp only at h
        cases hw : wb S is outs with
        | none => rw [hw] at h; exact h.elim
        | some S' =>
          rw [hw] at h
          obtain ⟨R', s'⟩ := R.lent nd c2 c3 kp (by rw [e1, e2]; exact oo) hw
          have eV : vis F S' σ H' = hid (F.M ++ locs S σ) H' := by unfold vis; rw [(wb_spec (σ := σ) nd hw).2.1]
          have z := h da gs H' R' s' hda (by rw [eV, e1, e2]; exact rg)
          rw [e1] at z
          exact z
    · rw [if_neg hn] at h; exact h.elim
end
end Mir

/-! MirJ: the forms of calls -/
namespace Mir
open PySem PySem.Spec L2

inductive AvOk (cm : Str → Addr) (K : PySem.W.Frag) (σ : L2.St) (G : Hp) : V → AV → Prop
  | dat {v : V} {d : Dat} : Rp cm K G v d → AvOk cm K σ G v (.dat d)
  | slot {v : V} {i : Nat} : σ[i]? = some (some v) → AvOk cm K σ G v (.slot i)
section
variable {cm : Str → Addr} {K : PySem.W.Frag} {σ : L2.St} {G : Hp}
theorem AvsOk.cons {v : V} {a : AV} {vs : List V} {as : List AV} (h : AvOk cm K σ G v a) (r : AvsOk cm K σ G vs as) : AvsOk cm K σ G (v :: vs) (a :: as) := by
  cases h with
  | dat p => exact .dat p r
  | slot p => exact .slot p r
theorem AvsOk.at : ∀ {vs : List V} {as : List AV}, AvsOk cm K σ G vs as → ∀ i : Nat, AvOk cm K σ G (vs.getD i .non) (as.getD i (.dat .non))
  | _, _, .nil, i => by simpa using AvOk.dat Rp.non
  | _, _, .dat a b, 0 => .dat a
  | _, _, .slot a b, 0 => .slot a
  | _, _, .dat a b, i + 1 => by have := AvsOk.at b i; simpa using this
  | _, _, .slot a b, i + 1 => by have := AvsOk.at b i; simpa using this
end
theorem Vals.at : ∀ {vs : List V} {us : List Value}, Vals vs us → ∀ i : Nat, RelV (vs.getD i .non) (us.getD i .none)
  | _, _, .nil, i => by simp [RelV]
  | _, _, .cons a b, 0 => a
  | _, _, .cons a b, i + 1 => by have := Vals.at b i; simpa using this
/-- how a call's arguments come to the parameters, by values and by trees -/
structure Arr (n m : Nat) (gV : List V → List V → List V) (arr : List AV → List AV → List AV) : Prop where
  ok : ∀ {cm : Str → Addr} {K : PySem.W.Frag} {σ : L2.St} {G : Hp} {vs zs : List V} {as bs : List AV}, vs.length = n → zs.length = m → AvsOk cm K σ G vs as → AvsOk cm K σ G zs bs → AvsOk cm K σ G (gV vs zs) (arr as bs)

def mCallF (Fn : List FA → RF) (n m : Nat) (arr : List AV → List AV → List AV) (ma mk : MAv) : ME := fun S => (ma S).bind fun as S1 => (mk S1).bind fun bs S2 => if as.length = n ∧ bs.length = m then applyF Fn (arr as bs) S2 else .bad

/-! ### binding -/
section
variable {K : PySem.W.Frag} {x qual : Str} {params : Arguments} {body : List Stmt} {scope : Scope} {dvs : List V} {kws : List (Str × V)} {f : Addr} {fd : FuncData} {ps : List Str}
theorem kb_plain (F : FunD K x qual params body scope [] kws f fd) (n : Nat) (ks : List Str) (g : List Value → List Value → List Value) (gV : List V → List V → List V)
    (hrel : ∀ {vs : List V} {us : List Value} {zs : List V} {ws : List Value}, Vals vs us → Vals zs ws → Vals (gV vs zs) (g us ws))
    (h : ∀ (kV doc pm : Value) (an : Option Addr) (cdv ct : Value) (us ws : List Value), us.length = n → ws.length = ks.length → bindArgs (PySem.W.fnOf x qual params body scope .none kV doc pm an cdv ct) ⟨us, ks.zip ws⟩ = pure (ps.zip (g us ws))) : ∃ g, KBn K fd ps n ks g gV := by
  obtain ⟨oc, od, dV, kV, doc, pm, an, cdv, ct, osl, rfl, lk, hcd, hD, hK⟩ := F.ex
  rcases hD with ⟨_, rfl⟩ | ⟨e, _⟩
  · exact ⟨g, ⟨fun s us ws _ l1 l2 => .of_eq (h kV doc pm an cdv ct us ws l1 l2), hrel⟩⟩
  · exact absurd rfl e
theorem kb_dfl (F : FunD K x qual params body scope dvs kws f fd) (n : Nat) (ks : List Str) (g : {α : Type} → List α → List α → List α → List α) (hd : dvs ≠ [])
    (hrel : ∀ {vs ds zs : List V} {us its ws : List Value}, Vals vs us → Vals ds its → Vals zs ws → Vals (g vs ds zs) (g us its ws))
    (h : ∀ (T : Addr) (kV doc pm : Value) (an : Option Addr) (cdv ct : Value) (us its ws : List Value), us.length = n → its.length = dvs.length → ws.length = ks.length →
      ∃ k, bindArgs (PySem.W.fnOf x qual params body scope (.ref T) kV doc pm an cdv ct) ⟨us, ks.zip ws⟩ = seqItems? (.ref T) >>= k ∧ k (some its.toArray) = pure (ps.zip (g us its ws))) : ∃ g', KBn K fd ps n ks g' (fun vs zs => g vs dvs zs) := by
  obtain ⟨its, q⟩ := F.kbindsD n ks g hd hrel h
  exact ⟨_, q⟩
theorem kb_kw (F : FunD K x qual params body scope [] kws f fd) (n : Nat) (ks : List Str) (ms : List (Str × V)) (g : {α : Type} → List α → List α → List α → List α) (hk : kws ≠ []) (hms : ∀ q ∈ ms, q ∈ kws)
    (hrel : ∀ {vs mz zs : List V} {us mv ws : List Value}, Vals vs us → Vals mz mv → Vals zs ws → Vals (g vs mz zs) (g us mv ws))
    (h : ∀ (D : Addr) (doc pm : Value) (an : Option Addr) (cdv ct : Value) (us mv ws : List Value), us.length = n → mv.length = ms.length → ws.length = ks.length →
      KwChain D ((ms.map (·.1)).zip mv) (bindArgs (PySem.W.fnOf x qual params body scope .none (.ref D) doc pm an cdv ct) ⟨us, ks.zip ws⟩) (ps.zip (g us mv ws))) : ∃ g', KBn K fd ps n ks g' (fun vs zs => g vs (ms.map (·.2)) zs) := by
  obtain ⟨mv, q⟩ := F.kbinds0 n ks ms g hk hms hrel h
  exact ⟨_, q⟩
end

/-! ### arguments -/
section
variable {X : Cx} {cm : Str → Addr} {W : WX} {e o : Expr} {es : List Expr} {ma : ME} {mr mk : MAv} {pos p : Pos} {kwl : List Keyword}
theorem gv_nil : PA X [] (tAv cm X.K W vNil) := PA.weak pa_nil fun σ H Q ⟨F, S, e1, e2, R, h⟩ => h [] H R (Same.refl _) .nil
theorem gv_dat (ha : PE X e (tE cm X.K W ma)) (hr : PA X es (tAv cm X.K W mr)) (hs : starEach (e :: es) X.env = (false, eval e X.env) :: starEach es X.env := by rfl) : PA X (e :: es) (tAv cm X.K W (vDat ma mr)) :=
  PA.weak (pa_cons ha hr hs) fun σ H Q ⟨F, S, e1, e2, R, h⟩ => tG_bind e1 e2 R h fun x H1 da S1 R1 s1 p1 h1 => tG_bind e1 e2 R1 h1 fun y H2 db S2 R2 s2 p2 h2 => h2 _ H2 R2 (Same.refl _) (.dat (Rp.mono s2 p1) p2)
theorem gv_slot {i : Nat} (ho : PE X e (tVar i)) (hr : PA X es (tAv cm X.K W mr)) (hs : starEach (e :: es) X.env = (false, eval e X.env) :: starEach es X.env := by rfl) : PA X (e :: es) (tAv cm X.K W (vSlot i mr)) :=
  PA.weak (pa_cons ho hr hs) fun σ H Q ⟨F, S, e1, e2, R, h⟩ => by
    unfold vSlot at h
    by_cases hz : isLent i S = true
    · rw [if_pos hz] at h
      obtain ⟨l, hl, _⟩ := R.lentAt hz
      exact ⟨_, hl, tG_bind e1 e2 R h fun y H2 db S2 R2 s2 p2 h2 => h2 _ H2 R2 (Same.refl _) (.slot hl p2)⟩
    · rw [if_neg hz] at h; exact h.elim
theorem PK.weak {kws : List Keyword} {t t' : TA} (h : PK X kws t) (i : ∀ σ H Q, t' σ H Q → t σ H Q) : PK X kws t' := ⟨fun pos pins s σ H Q I q => h.run pos pins s σ H Q I (i σ H Q q)⟩
theorem gk_nil : PK X [] (tAv cm X.K W vNil) := PK.weak pk_nil fun σ H Q ⟨F, S, e1, e2, R, h⟩ => h [] H R (Same.refl _) .nil
theorem gk_dat {kpos : Pos} {nm : Option Str} (ha : PE X e (tE cm X.K W ma)) (hr : PK X kwl (tAv cm X.K W mr)) : PK X (⟨nm, e, kpos⟩ :: kwl) (tAv cm X.K W (vDat ma mr)) :=
  PK.weak (pk_cons ha hr) fun σ H Q ⟨F, S, e1, e2, R, h⟩ => tG_bind e1 e2 R h fun x H1 da S1 R1 s1 p1 h1 => tG_bind e1 e2 R1 h1 fun y H2 db S2 R2 s2 p2 h2 => h2 _ H2 R2 (Same.refl _) (.dat (Rp.mono s2 p1) p2)

/-! ### calls -/
variable {k n m : Nat} {f : Addr} {fd : FuncData} {ps ks : List Str} {Fn : List FA → RF} {x : Str} {gV : List V → List V → List V} {arr : List AV → List AV → List AV}
theorem run_g {sp : Sp} {pins : List (Addr × Obj)} {σ : L2.St} {H : Hp} {s : Shared} {Q : VK} {us : List Value} {kw : List (Str × Value)} {ys : List Value} {xs : List V} (Fk : FnG X.prog X.w X.K X.mg X.base (L2.CX X.prog X.w) k f fd ps sp) (hr : Room k X.A) (hgd : X.A.guards = some []) (tk : Takes X W)
    (I : L2.Inv X pins σ H s) (hb : BindsTo s fd ⟨us, kw⟩ (ps.zip ys)) (r : Vals xs ys) (h : sp xs H Q (WE W σ)) : wpAny (model X.prog X.w) X.A (call (.ref f) us kw) (EP X pins σ Q) X.xe s := by
  refine wpAny_call (codeAny_mono (Fk.run X.A X.stack s H ⟨us, kw⟩ ys xs Q (WE W σ) hr hgd I.env0 hb r h) fun res s' hq => ?_)
  rcases res with e | fl
  · exact passAt tk σ pins H s e s' I hq
  · rcases fl with _ | _ | _ | u
    · exact False.elim hq
    · exact False.elim hq
    · exact False.elim hq
    · exact I.after hq
/-- f(e, ..) -/
theorem ge_callF (Fk : FnG X.prog X.w X.K X.mg X.base (L2.CX X.prog X.w) k f fd ps (spF cm X.K Fn)) (hr : Room k X.A) (hgd : X.A.guards = some []) (tk : Takes X W) (hg : Gl X x) (hm : X.mg x = some (.ref f)) (hk : PySem.W.keepIn X.K (.ref f) = true) (hb : ∃ g, KBn X.K fd ps n [] g gV) (hA : Arr n 0 gV arr)
    (ha : PA X (e :: es) (tAv cm X.K W mr)) (hdb : (x == ("__debug__" : Str)) = false := by decide) (he : starEach (e :: es) X.env = (false, eval e X.env) :: starEach es X.env := by rfl) (hpl : (backTo pos (starEach es X.env)).any (·.1) = false := by rfl) :
    PE X (.Call (.Name x p) (e :: es) [] pos) (tE cm X.K W (mCallF Fn n 0 arr mr vNil)) := by
  obtain ⟨g, hb⟩ := hb
  refine ⟨fun pins s σ H Q I ⟨F, S, e1, e2, R, h⟩ => wpAny_Call_Name_kw (ld_glob I hg hm (PySem.W.callWith_K (h₀ := X.base) I.ok.mod.kin hk (thn (ha.run pos pins s σ H (fun vs H1 => ∃ as S1, Rel F S1 σ H1 ∧ AvsOk cm X.K σ (vis F S1 σ H1) vs as ∧ as.length = n ∧ out F W σ (vis F S1 σ H1) (rE cm X.K) Q (applyF Fn (arr as []) S1)) I
      (tG_bind e1 e2 R h fun vs H1 as S1 R1 s1 p1 h1 => ?_)) fun us s1 ⟨vs, H1, I1, r, as, S1, R1, p1, hl, h1⟩ => ⟨I1.kIn, ?_⟩) he hpl) hdb)⟩
  · have h1' : out F W σ (vis F S1 σ H1) (rE cm X.K) Q (if as.length = n ∧ ([] : List AV).length = 0 then applyF Fn (arr as []) S1 else .bad) := h1
    by_cases hz : as.length = n
    · rw [if_pos ⟨hz, rfl⟩] at h1'
      exact ⟨as, S1, R1, p1, hz, h1'⟩
    · rw [if_neg fun z => hz z.1] at h1'; exact h1'.elim
  · have lv : vs.length = n := by rw [AvsOk.length p1]; exact hl
    exact run_g (us := us) (kw := []) Fk hr hgd tk I1 (hb.to s1 us [] I1.kIn (by rw [← r.length]; exact lv) rfl) (hb.rel r .nil) (apply_ok e1 e2 R1 (hA.ok lv rfl p1 .nil) h1)
/-- f(e, .., k = v, ..) -/
theorem ge_callFK (Fk : FnG X.prog X.w X.K X.mg X.base (L2.CX X.prog X.w) k f fd ps (spF cm X.K Fn)) (hr : Room k X.A) (hgd : X.A.guards = some []) (tk : Takes X W) (hg : Gl X x) (hm : X.mg x = some (.ref f)) (hk : PySem.W.keepIn X.K (.ref f) = true) (hb : ∃ g, KBn X.K fd ps n ks g gV) (hA : Arr n ks.length gV arr)
    (ha : PA X (e :: es) (tAv cm X.K W mr)) (hkw : PK X kwl (tAv cm X.K W mk)) (hall : (backToKw pos (keywordEach kwl X.env)).all (·.1.isSome) = true := by rfl) (hks : (backToKw pos (keywordEach kwl X.env)).filterMap (·.1) = ks := by rfl)
    (hdb : (x == ("__debug__" : Str)) = false := by decide) (he : starEach (e :: es) X.env = (false, eval e X.env) :: starEach es X.env := by rfl)
    (hpl : ((backTo pos (starEach (e :: es) X.env)).any (·.1) || (backToKw pos (keywordEach kwl X.env)).any (·.1.isNone)) = false := by rfl) :
    PE X (.Call (.Name x p) (e :: es) kwl pos) (tE cm X.K W (mCallF Fn n ks.length arr mr mk)) := by
  obtain ⟨g, hb⟩ := hb
  refine ⟨fun pins s σ H Q I ⟨F, S, e1, e2, R, h⟩ => wpAny_Call_Name_kw (ld_glob I hg hm (PySem.W.callWith_KW (h₀ := X.base) I.ok.mod.kin hk hall (thn (ha.run pos pins s σ H (fun vs H1 => ∃ as S1, Rel F S1 σ H1 ∧ AvsOk cm X.K σ (vis F S1 σ H1) vs as ∧ out F W σ (vis F S1 σ H1) (rE cm X.K) Q ((mk S1).bind fun bs S2 => if as.length = n ∧ bs.length = ks.length then applyF Fn (arr as bs) S2 else .bad)) I
      (tG_bind e1 e2 R h fun vs H1 as S1 R1 s1 p1 h1 => ⟨as, S1, R1, p1, h1⟩)) fun us s1 ⟨vs, H1, I1, r, as, S1, R1, p1, h1⟩ =>
        thn (hkw.run pos pins s1 σ H1 (fun zs H2 => ∃ bs S2, Rel F S2 σ H2 ∧ AvsOk cm X.K σ (vis F S2 σ H2) vs as ∧ AvsOk cm X.K σ (vis F S2 σ H2) zs bs ∧ (as.length = n ∧ bs.length = ks.length) ∧ out F W σ (vis F S2 σ H2) (rE cm X.K) Q (applyF Fn (arr as bs) S2)) I1 (tG_bind e1 e2 R1 h1 fun zs H2 bs S2 R2 s2 p2 h2 => ?_)) fun ws s2 ⟨zs, H2, I2, rz, bs, S2, R2, q1, q2, hl, h2⟩ => ⟨I2.kIn, ?_⟩) hpl he) hdb)⟩
  · by_cases hz : as.length = n ∧ bs.length = ks.length
    · rw [if_pos hz] at h2
      exact ⟨bs, S2, R2, AvsOk.mono s2 p1, p2, hz, h2⟩
    · rw [if_neg hz] at h2; exact h2.elim
  · rw [hks]
    have lv : vs.length = n := by rw [AvsOk.length q1]; exact hl.1
    have lz : zs.length = ks.length := by rw [AvsOk.length q2]; exact hl.2
    exact run_g Fk hr hgd tk I2 (hb.to s2 us ws I2.kIn (by rw [← r.length]; exact lv) (by rw [← rz.length]; exact lz)) (hb.rel r rz) (apply_ok e1 e2 R2 (hA.ok lv lz q1 q2) h2)

/-! ### new objects -/
/-- C(..): __init__ gets a new instance of the class -/
def makeF (c : Str) (Fn : List FA → RF) (fs : List FA) (S : Sg) : Rs Dat := match Fn (.own (.obj c []) :: fs) with
  | .ok .non [.obj c' gs] => if c' = c then .ok (.ins c gs) S else .bad
  | .exc c' es [_] => .exc c' es S
  | _ => .bad
def datsOf : List AV → Option (List FA)
  | [] => some []
  | .dat d :: r => match datsOf r with
    | some fs => some (.dat d :: fs)
    | none => none
  | _ => none
def mMake (c : Str) (Fn : List FA → RF) (n m : Nat) (arr : List AV → List AV → List AV) (ma mk : MAv) : ME := fun S => (ma S).bind fun as S1 => (mk S1).bind fun bs S2 => if as.length = n ∧ bs.length = m then (match datsOf (arr as bs) with
  | some fs => makeF c Fn fs S2
  | none => .bad) else .bad
theorem dats_ok {K : PySem.W.Frag} {σ : L2.St} {G H : Hp} : ∀ {vs : List V} {as : List AV} {fs : List FA}, AvsOk cm K σ G vs as → datsOf as = some fs → ArgsOk cm K G H vs fs []
  | _, _, _, .nil, h => by cases h; exact .nil
  | _, _, _, .dat (as := as) a b, h => by
    unfold datsOf at h
    cases hf : datsOf as with
    | none => rw [hf] at h; cases h
    | some q => rw [hf] at h; cases h; exact .dat a (dats_ok b hf)
  | _, _, _, .slot a b, h => by cases h
theorem ArgsOk.mono0 {K : PySem.W.Frag} {G H G' H' : Hp} (e : Same G G') : ∀ {vs : List V} {fs : List FA}, ArgsOk cm K G H vs fs [] → ArgsOk cm K G' H' vs fs []
  | _, _, .nil => .nil
  | _, _, .dat a b => .dat (a.mono e) (ArgsOk.mono0 e b)
theorem make_ok {c : Str} {F : Fm} {S : Sg} {σ : L2.St} {H : Hp} {K : PySem.W.Frag} {vs : List V} {fs : List FA} {Q : VK} (e1 : F.cm = cm) (e2 : F.K = K) (R : Rel F S σ H) (av : ArgsOk cm K (vis F S σ H) H vs fs []) (h : out F W σ (vis F S σ H) (rE cm K) Q (makeF c Fn fs S)) (x dx : Addr) (hx : H x = none) (hdx : H dx = none) (hne : dx ≠ x) :
    spF cm K Fn (.ref x :: vs) (upd (upd H dx (.own x)) x (.ins (cm c) dx [])) (fun v H2 => v = .non ∧ Q (.ref x) H2) (WE W σ) := by
  have hx1 : (upd H dx (.own x)) x = none := by rw [upd_ne (Ne.symm hne)]; exact hx
  have s1 : Same H (upd (upd H dx (.own x)) x (.ins (cm c) dx [])) := (same_new hdx).trans (same_new hx1)
  have fr := R.fresh hx
  have gM : Same (vis F S σ H) (hid (x :: (F.M ++ locs S σ)) (upd (upd H dx (.own x)) x (.ins (cm c) dx []))) := fun a o q => by
    unfold vis at q
    by_cases ha : a ∈ F.M ++ locs S σ
    · rw [hid_in ha] at q; cases q
    · rw [hid_out ha] at q
      have hax : a ≠ x := ne_of_none q hx
      rw [hid_out fun z => (List.mem_cons.mp z).elim hax ha]
      exact s1 a o q
  have lv : live (x :: (F.M ++ locs S σ)) (upd (upd H dx (.own x)) x (.ins (cm c) dx [])) := fun m hm => by
    rcases List.mem_cons.mp hm with e | e
    · rw [e, upd_same]; simp
    · exact upd_some (upd_some (R.hlive e))
  refine ⟨x :: (F.M ++ locs S σ), .own (.obj c []) :: fs, [x], lv, fun l hl => by rw [List.mem_singleton.mp hl]; exact List.mem_cons_self .., List.nodup_cons.mpr ⟨by simp, List.nodup_nil⟩, .own (.obj upd_same .nil) (ArgsOk.mono0 gM av), ?_⟩
  have keepH : ∀ {H' : Hp}, (∀ a o, (upd (upd H dx (.own x)) x (.ins (cm c) dx [])) a = some o → a ∉ [x] → H' a = some o) → Same H H' := fun kp a o q => kp a o (s1 a o q) fun z => ne_of_none q hx (List.mem_singleton.mp z)
  unfold makeF at h
  cases hF : Fn (.own (.obj c []) :: fs) with
  | bad => rw [hF] at h; exact h
  | exc c' es outs =>
    rw [hF] at h
    intro da gs H' kp oo hda rg
    cases outs with
    | nil => cases oo
    | cons o1 r =>
      cases r with
      | cons _ _ => cases oo with
        | cons _ b => cases b
      | nil =>
        dsimp only at h
        have sm := keepH kp
        have z := h da gs H' (R.grow sm) (vis_grow sm) hda (by rw [e1, e2]; exact rg.mono (hid_sub fun a ha => List.mem_cons_of_mem _ ha))
        rw [e1] at z
        exact z
  | ok d outs =>
    rw [hF] at h
    cases d with
    | non =>
      intro v H' kp oo rv
      cases rv
      refine ⟨rfl, ?_⟩
      cases outs with
      | nil => cases oo
      | cons o1 r =>
        cases r with
        | cons _ _ => cases oo with
          | cons _ b => cases b
        | nil =>
          cases o1 with
          | lst _ => exact False.elim h
          | obj c' gs =>
            dsimp only at h
            by_cases hz : c' = c
            · rw [if_pos hz] at h
              subst hz
              have sm := keepH kp
              refine h (.ref x) H' (R.grow sm) (vis_grow sm) ?_
              cases oo with
              | cons ok _ =>
                cases ok with
                | obj hh hr => exact .ins (by unfold vis; rw [hid_out fr]; exact hh) (hr.mono (hid_sub fun a ha => List.mem_cons_of_mem _ ha))
            · rw [if_neg hz] at h; exact h.elim
    | _ => exact False.elim h
theorem run_mk {sp : Sp} {C : Addr} {pins : List (Addr × Obj)} {σ : L2.St} {H : Hp} {s : Shared} {Q : VK} {us : List Value} {kw : List (Str × Value)} {xs : Addr → List V} (M : Mk X.K C f) (Fk : FnG X.prog X.w X.K X.mg X.base (L2.CX X.prog X.w) k f fd ps sp) (hr : Room (k + 1) X.A) (hgd : X.A.guards = some []) (tk : Takes X W)
    (I : L2.Inv X pins σ H s) (hb : ∀ (s' : Shared) (a : Addr), X.K.In s'.heap → ∃ ys, BindsTo s' fd ⟨.ref a :: us, kw⟩ (ps.zip ys) ∧ Vals (xs a) ys)
    (h : ∀ x dx, H x = none → H dx = none → dx ≠ x → sp (xs x) (upd (upd H dx (.own x)) x (.ins C dx [])) (fun v H2 => v = .non ∧ Q (.ref x) H2) (WE W σ)) : wpAny (model X.prog X.w) X.A (call (.ref C) us kw) (EP X pins σ Q) X.xe s := by
  have hq := h (s.heap.objs.size + 1) s.heap.objs.size (I.hok.fresh (Nat.le_succ _)) (I.hok.fresh (Nat.le_refl _)) (Nat.ne_of_lt (Nat.lt_succ_self _))
  have I2 := L2.Inv.made (C := C) I
  obtain ⟨ys, hbi, r⟩ := hb _ (s.heap.objs.size + 1) I2.kIn
  have gd : (X.A.under (.builtin "type.__call__" ⟨.ref C :: us, kw⟩)).guards = some [] := by
    simp [Around.under, Code.guards, Code.isGuard, guardIds, hgd, pushGuards]
  refine wpAny_call (make_map (f := f) I.kIn M.makes M.init (beq_iff_eq.mp M.fn) (codeAny_mono (Fk.run _ X.stack _ _ ⟨Value.ref (s.heap.objs.size + 1) :: us, kw⟩ ys _ _ (WE W σ) (hr.make C us kw) gd (I2.env0.make C us kw) hbi r hq) fun res s' hq' => ?_))
  rcases res with e | fl
  · exact passAt tk σ pins _ _ e s' I2 hq'
  · rcases fl with _ | _ | _ | u
    · exact False.elim hq'
    · exact False.elim hq'
    · exact False.elim hq'
    · obtain ⟨v, H', I3, rv, ev, q3⟩ := I2.after hq'
      subst ev
      exact ⟨rv, ⟨V.ref (s.heap.objs.size + 1), H', I3, rfl, q3⟩⟩
end
end Mir

/-! MirK: objects, isinstance, texts -/
namespace Mir
open PySem PySem.Spec L2

/-- what the written part says of a class of the program -/
structure ClsF (K : PySem.W.Frag) (C : Addr) : Prop where
  cl : Cls K C
  kc : PySem.W.findIn K (.ref C) "__class__" = some (some (.builtin "object.__class__"))
  sp : PySem.W.specialIn K (.builtin "object.__class__") "__get__" = some (some (.builtin "getset_descriptor.__get__"))
  tk : PySem.W.takesIn K (.builtin "object.__class__") = some true
  mo : PySem.W.mroIn K C (.type "object") = some true

section
variable {X : Cx} {cm : Str → Addr} {W : WX} {e o : Expr} {es : List Expr} {ma : ME} {mr mk : MAv} {pos p : Pos} {kwl : List Keyword} {k n m : Nat} {f : Addr} {fd : FuncData} {ps ks : List Str} {Fn : List FA → RF} {x c nm : Str} {gV gW : List V → List V → List V} {arr : List AV → List AV → List AV}
theorem outMk {F : Fm} {S1 S2 : Sg} {σ : L2.St} {H2 : Hp} {Q : VK} {as bs : List AV} {K : PySem.W.Frag} (h2 : out F W σ (vis F S2 σ H2) (rE cm K) Q (if as.length = n ∧ bs.length = m then (match datsOf (arr as bs) with | some fs => makeF c Fn fs S2 | none => .bad) else .bad)) :
    (as.length = n ∧ bs.length = m) ∧ ∃ fs, datsOf (arr as bs) = some fs ∧ out F W σ (vis F S2 σ H2) (rE cm K) Q (makeF c Fn fs S2) := by
  by_cases hz : as.length = n ∧ bs.length = m
  · rw [if_pos hz] at h2
    cases hd : datsOf (arr as bs) with
    | none => rw [hd] at h2; exact h2.elim
    | some fs => rw [hd] at h2; exact ⟨hz, fs, rfl, h2⟩
  · rw [if_neg hz] at h2; exact h2.elim
/-- C(e, ..) -/
theorem ge_make (M : Mk X.K (cm c) f) (Fk : FnG X.prog X.w X.K X.mg X.base (L2.CX X.prog X.w) k f fd ps (spF cm X.K Fn)) (hr : Room (k + 1) X.A) (hgd : X.A.guards = some []) (tk : Takes X W) (hg : Gl X x) (hm : X.mg x = some (.ref (cm c))) (hb : ∃ g, KBn X.K fd ps (n + 1) [] g gV) (hS : ∀ a vs zs, gV (.ref a :: vs) zs = .ref a :: gW vs zs) (hA : Arr n 0 gW arr)
    (ha : PA X (e :: es) (tAv cm X.K W mr)) (hdb : (x == ("__debug__" : Str)) = false := by decide) (he : starEach (e :: es) X.env = (false, eval e X.env) :: starEach es X.env := by rfl) (hpl : (backTo pos (starEach es X.env)).any (·.1) = false := by rfl) :
    PE X (.Call (.Name x p) (e :: es) [] pos) (tE cm X.K W (mMake c Fn n 0 arr mr vNil)) := by
  obtain ⟨g, hb⟩ := hb
  refine ⟨fun pins s σ H Q I ⟨F, S, e1, e2, R, h⟩ => wpAny_Call_Name_kw (ld_glob I hg hm (PySem.W.callWith_K (h₀ := X.base) I.ok.mod.kin M.kp (thn (ha.run pos pins s σ H (fun vs H1 => ∃ as S1, Rel F S1 σ H1 ∧ AvsOk cm X.K σ (vis F S1 σ H1) vs as ∧ out F W σ (vis F S1 σ H1) (rE cm X.K) Q (if as.length = n ∧ ([] : List AV).length = 0 then (match datsOf (arr as []) with | some fs => makeF c Fn fs S1 | none => .bad) else .bad)) I
      (tG_bind e1 e2 R h fun vs H1 as S1 R1 s1 p1 h1 => ⟨as, S1, R1, p1, h1⟩)) fun us s1 ⟨vs, H1, I1, r, as, S1, R1, p1, h1⟩ => ⟨I1.kIn, ?_⟩) he hpl) hdb)⟩
  obtain ⟨hz, fs, hd, h1⟩ := outMk (S1 := S1) (bs := []) h1
  have lv : vs.length = n := by rw [AvsOk.length p1]; exact hz.1
  refine run_mk (us := us) (kw := []) (xs := fun a => .ref a :: gW vs []) M Fk hr hgd tk I1 (fun s' a kin => ⟨g (.ref a :: us) [], hb.to s' (.ref a :: us) [] kin (by rw [List.length_cons, ← r.length, lv]) rfl, ?_⟩) (make_ok e1 e2 R1 (dats_ok (hA.ok lv rfl p1 .nil) hd) h1)
  rw [← hS a vs []]
  exact hb.rel (.cons rfl r) .nil
/-- C(e, .., k = v, ..) -/
theorem ge_makeK (M : Mk X.K (cm c) f) (Fk : FnG X.prog X.w X.K X.mg X.base (L2.CX X.prog X.w) k f fd ps (spF cm X.K Fn)) (hr : Room (k + 1) X.A) (hgd : X.A.guards = some []) (tk : Takes X W) (hg : Gl X x) (hm : X.mg x = some (.ref (cm c))) (hb : ∃ g, KBn X.K fd ps (n + 1) ks g gV) (hS : ∀ a vs zs, gV (.ref a :: vs) zs = .ref a :: gW vs zs) (hA : Arr n ks.length gW arr)
    (ha : PA X (e :: es) (tAv cm X.K W mr)) (hkw : PK X kwl (tAv cm X.K W mk)) (hall : (backToKw pos (keywordEach kwl X.env)).all (·.1.isSome) = true := by rfl) (hks : (backToKw pos (keywordEach kwl X.env)).filterMap (·.1) = ks := by rfl)
    (hdb : (x == ("__debug__" : Str)) = false := by decide) (he : starEach (e :: es) X.env = (false, eval e X.env) :: starEach es X.env := by rfl)
    (hpl : ((backTo pos (starEach (e :: es) X.env)).any (·.1) || (backToKw pos (keywordEach kwl X.env)).any (·.1.isNone)) = false := by rfl) :
    PE X (.Call (.Name x p) (e :: es) kwl pos) (tE cm X.K W (mMake c Fn n ks.length arr mr mk)) := by
  obtain ⟨g, hb⟩ := hb
  refine ⟨fun pins s σ H Q I ⟨F, S, e1, e2, R, h⟩ => wpAny_Call_Name_kw (ld_glob I hg hm (PySem.W.callWith_KW (h₀ := X.base) I.ok.mod.kin M.kp hall (thn (ha.run pos pins s σ H (fun vs H1 => ∃ as S1, Rel F S1 σ H1 ∧ AvsOk cm X.K σ (vis F S1 σ H1) vs as ∧ out F W σ (vis F S1 σ H1) (rE cm X.K) Q ((mk S1).bind fun bs S2 => if as.length = n ∧ bs.length = ks.length then (match datsOf (arr as bs) with | some fs => makeF c Fn fs S2 | none => .bad) else .bad)) I
      (tG_bind e1 e2 R h fun vs H1 as S1 R1 s1 p1 h1 => ⟨as, S1, R1, p1, h1⟩)) fun us s1 ⟨vs, H1, I1, r, as, S1, R1, p1, h1⟩ =>
        thn (hkw.run pos pins s1 σ H1 (fun zs H2 => ∃ bs S2, Rel F S2 σ H2 ∧ AvsOk cm X.K σ (vis F S2 σ H2) vs as ∧ AvsOk cm X.K σ (vis F S2 σ H2) zs bs ∧ out F W σ (vis F S2 σ H2) (rE cm X.K) Q (if as.length = n ∧ bs.length = ks.length then (match datsOf (arr as bs) with | some fs => makeF c Fn fs S2 | none => .bad) else .bad)) I1 (tG_bind e1 e2 R1 h1 fun zs H2 bs S2 R2 s2 p2 h2 => ⟨bs, S2, R2, AvsOk.mono s2 p1, p2, h2⟩)) fun ws s2 ⟨zs, H2, I2, rz, bs, S2, R2, q1, q2, h2⟩ => ⟨I2.kIn, ?_⟩) hpl he) hdb)⟩
  rw [hks]
  obtain ⟨hz, fs, hd, h2⟩ := outMk (S1 := S1) h2
  have lv : vs.length = n := by rw [AvsOk.length q1]; exact hz.1
  have lz : zs.length = ks.length := by rw [AvsOk.length q2]; exact hz.2
  refine run_mk (us := us) (xs := fun a => .ref a :: gW vs zs) M Fk hr hgd tk I2 (fun s' a kin => ⟨g (.ref a :: us) ws, hb.to s' (.ref a :: us) ws kin (by rw [List.length_cons, ← r.length, lv]) (by rw [← rz.length]; exact lz), ?_⟩) (make_ok e1 e2 R2 (dats_ok (hA.ok lv lz q1 q2) hd) h2)
  rw [← hS a vs zs]
  exact hb.rel (.cons rfl r) rz
/-- C(k = v, ..) -/
theorem ge_makeK0 (M : Mk X.K (cm c) f) (Fk : FnG X.prog X.w X.K X.mg X.base (L2.CX X.prog X.w) k f fd ps (spF cm X.K Fn)) (hr : Room (k + 1) X.A) (hgd : X.A.guards = some []) (tk : Takes X W) (hg : Gl X x) (hm : X.mg x = some (.ref (cm c))) (hb : ∃ g, KBn X.K fd ps 1 ks g gV) (hS : ∀ a vs zs, gV (.ref a :: vs) zs = .ref a :: gW vs zs) (hA : Arr 0 ks.length gW arr)
    (hkw : PK X kwl (tAv cm X.K W mk)) (hall : (backToKw pos (keywordEach kwl X.env)).all (·.1.isSome) = true := by rfl) (hks : (backToKw pos (keywordEach kwl X.env)).filterMap (·.1) = ks := by rfl)
    (hdb : (x == ("__debug__" : Str)) = false := by decide) (hpl : ((backTo pos (starEach [] X.env)).any (·.1) || (backToKw pos (keywordEach kwl X.env)).any (·.1.isNone)) = false := by rfl) :
    PE X (.Call (.Name x p) [] kwl pos) (tE cm X.K W (mMake c Fn 0 ks.length arr vNil mk)) := by
  obtain ⟨g, hb⟩ := hb
  refine ⟨fun pins s σ H Q I ⟨F, S, e1, e2, R, h⟩ => wpAny_Call_Name_kw (ld_glob I hg hm (PySem.W.callWith_KW0 (h₀ := X.base) I.ok.mod.kin M.kp hall (thn (hkw.run pos pins s σ H (fun zs H2 => ∃ bs S2, Rel F S2 σ H2 ∧ AvsOk cm X.K σ (vis F S2 σ H2) zs bs ∧ out F W σ (vis F S2 σ H2) (rE cm X.K) Q (if ([] : List AV).length = 0 ∧ bs.length = ks.length then (match datsOf (arr [] bs) with | some fs => makeF c Fn fs S2 | none => .bad) else .bad)) I
      (tG_bind e1 e2 R h fun zs H2 bs S2 R2 s2 p2 h2 => ⟨bs, S2, R2, p2, h2⟩)) fun ws s2 ⟨zs, H2, I2, rz, bs, S2, R2, q2, h2⟩ => ⟨I2.kIn, ?_⟩) hpl) hdb)⟩
  rw [hks]
  obtain ⟨hz, fs, hd, h2⟩ := outMk (S1 := S2) (as := []) h2
  have lz : zs.length = ks.length := by rw [AvsOk.length q2]; exact hz.2
  refine run_mk (us := []) (xs := fun a => .ref a :: gW [] zs) M Fk hr hgd tk I2 (fun s' a kin => ⟨g [.ref a] ws, hb.to s' [.ref a] ws kin rfl (by rw [← rz.length]; exact lz), ?_⟩) (make_ok e1 e2 R2 (dats_ok (hA.ok rfl lz .nil q2) hd) h2)
  rw [← hS a [] zs]
  exact hb.rel (.cons rfl .nil) rz

/-! ### attributes -/
def fldD (cs : List Str) (nm : Str) : Dat → Option Dat
  | .ins c fs => if cs.contains c then fs.lookup nm else none
  | _ => none
theorem ge_fld {cs : List Str} (hc : ∀ c, c ∈ cs → Cls X.K (cm c) ∧ NoAttr X.K (cm c) nm) (he : PE X e (tE cm X.K W ma)) (hab : attributeBase e nm X.env (eval e X.env) = eval e X.env := by rfl) : PE X (.Attribute e nm pos) (tE cm X.K W (m1 (fldD cs nm) ma)) :=
  PE.weak (pe_fld he hab) fun σ H Q ⟨F, S, e1, e2, R, h⟩ => tG_bind e1 e2 R h fun x H1 da S1 R1 s1 p1 h1 => by
    obtain ⟨d, hd, hq⟩ := out_of R1 h1
    cases p1 with
    | @ins a dx c gs fs hh hr =>
      unfold fldD at hd
      dsimp only at hd
      by_cases hz : cs.contains c = true
      · rw [if_pos hz] at hd
        obtain ⟨k1, k2⟩ := hc c (by simpa using hz)
        obtain ⟨v, hv, rv⟩ := hr.lookup hd
        exact ⟨a, _, dx, gs, v, rfl, hid_le _ _ hh, k1, k2, hv, hq _ H1 (Same.refl _) rv⟩
      · rw [if_neg hz] at hd; cases hd
    | _ => cases hd
/-- self.f, self lent -/
def mFldO (cs : List Str) (i : Nat) (nm : Str) : ME := fun S => match S[i]? with
  | some (.own _ (.obj c fs)) => if cs.contains c then Rs.of (fs.lookup nm) S else .bad
  | _ => .bad
theorem ge_fldO {cs : List Str} {i : Nat} (hc : ∀ c, c ∈ cs → Cls X.K (cm c) ∧ NoAttr X.K (cm c) nm) (ho : PE X o (tVar i)) (hab : attributeBase o nm X.env (eval o X.env) = eval o X.env := by rfl) : PE X (.Attribute o nm pos) (tE cm X.K W (mFldO cs i nm)) :=
  PE.weak (pe_fld ho hab) fun σ H Q ⟨F, S, e1, e2, R, h⟩ => by
    unfold mFldO at h
    cases hs : S[i]? with
    | none => rw [hs] at h; exact h.elim
    | some s =>
      rw [hs] at h
      have hl : i < σ.length := by rw [← R.len]; exact (List.getElem?_eq_some_iff.mp hs).1
      have hv : σ[i]? = some σ[i] := List.getElem?_eq_getElem hl
      have q := R.sl i s _ hs hv
      generalize σ[i] = w at hv q
      cases q with
      | own e0 ok =>
        cases ok with
        | lst _ _ => exact False.elim h
        | @obj c dx gs fs hh hr =>
          dsimp only at h
          by_cases hz : cs.contains c = true
          · rw [if_pos hz] at h
            obtain ⟨d, hd, h1⟩ := out_of R h
            obtain ⟨k1, k2⟩ := hc c (by simpa using hz)
            obtain ⟨v, hvv, rv⟩ := hr.lookup hd
            exact ⟨_, hv, _, _, dx, gs, v, rfl, by rw [← e1]; exact hh, k1, k2, hvv, h1 _ H (Same.refl _) (by rw [← e1, ← e2]; exact rv)⟩
          · rw [if_neg hz] at h; exact h.elim
      | _ => exact False.elim h
/-- self.f = e, self lent -/
def stF (cs : List Str) (i : Nat) (nm : Str) (d : Dat) (S : Sg) : Rs Unit := match S[i]? with
  | some (.own j (.obj c fs)) => if cs.contains c ∧ fs.length < 1000 then .ok () (S.set i (.own j (.obj c (putD nm d fs)))) else .bad
  | _ => .bad
def mStF (cs : List Str) (i : Nat) (nm : Str) (m : ME) : MS := fun S => (m S).bind fun d S1 => (stF cs i nm d S1).bind fun _ S2 => .ok .nx S2
theorem st_ok {cs : List Str} {i : Nat} (hc : ∀ c, c ∈ cs → Cls X.K (cm c) ∧ NoAttr X.K (cm c) nm) {F : Fm} {S : Sg} {σ : L2.St} {H : Hp} {v : V} {d : Dat} {r : Rs Unit} (e1 : F.cm = cm) (e2 : F.K = X.K) (R : Rel F S σ H) (rv : Rp cm X.K (vis F S σ H) v d) (hr : stF cs i nm d S = r) (hb : r ≠ .bad) :
    ∃ a C dx fs S', r = .ok () S' ∧ σ[i]? = some (some (.ref a)) ∧ H a = some (.ins C dx fs) ∧ Cls X.K C ∧ NoAttr X.K C nm ∧ fs.length < 1000 ∧ Rel F S' σ (upd H a (.ins C dx (putF nm v fs))) ∧ Same (vis F S σ H) (vis F S' σ (upd H a (.ins C dx (putF nm v fs)))) := by
  unfold stF at hr
  cases hs : S[i]? with
  | none => rw [hs] at hr; exact absurd hr.symm hb
  | some s =>
    rw [hs] at hr
    have hl : i < σ.length := by rw [← R.len]; exact (List.getElem?_eq_some_iff.mp hs).1
    have hv : σ[i]? = some σ[i] := List.getElem?_eq_getElem hl
    have q := R.sl i s _ hs hv
    generalize σ[i] = w at hv q
    cases q with
    | no => exact absurd hr.symm hb
    | dat _ => exact absurd hr.symm hb
    | loc _ _ => exact absurd hr.symm hb
    | own e0 ok =>
      cases ok with
      | lst _ _ => exact absurd hr.symm hb
      | @obj c dx gs fs hh hrf =>
        dsimp only at hr
        by_cases hz : cs.contains c = true ∧ fs.length < 1000
        · rw [if_pos hz] at hr
          obtain ⟨k1, k2⟩ := hc c (by simpa using hz.1)
          obtain ⟨R', s'⟩ := R.setOwn (u := .obj c (putD nm d fs)) (ho := .ins (cm c) dx (putF nm v gs)) hs hv e0 (.obj (by rw [upd_same, e1]) (hrf.put (by rw [e1, e2]; exact rv)))
          exact ⟨_, _, dx, gs, _, hr.symm, hv, by rw [← e1]; exact hh, k1, k2, by rw [hrf.length]; exact hz.2, R', s'⟩
        · rw [if_neg hz] at hr; exact absurd hr.symm hb
theorem gs_fld {cs : List Str} {i : Nat} {pos' : Pos} (hc : ∀ c, c ∈ cs → Cls X.K (cm c) ∧ NoAttr X.K (cm c) nm) (ho : PE X o (tVar i)) (he : PE X e (tE cm X.K W ma)) (hs : swapsWith e (some (.Attribute o nm pos')) pos.line X.env = pure false := by rfl) :
    PS X (.Assign [.Attribute o nm pos'] e pos) (tS cm X.K W (mStF cs i nm ma)) :=
  PS.weak (ps_fld ho he hs) fun D σ H ⟨F, S, e1, e2, R, h⟩ => tG_bindS e1 e2 R h fun x H1 da S1 R1 s1 p1 h1 => by
    cases hr : stF cs i nm da S1 with
    | bad => rw [hr] at h1; exact h1.elim
    | exc c fs S2 =>
      exfalso
      obtain ⟨_, _, _, _, _, z, _⟩ := st_ok hc e1 e2 R1 p1 hr (fun z => by cases z)
      cases z
    | ok u S2 =>
      obtain ⟨a, C, dx, fs, S', z, b1, b2, b3, b4, b5, b6, b7⟩ := st_ok hc e1 e2 R1 p1 hr (fun z => by cases z)
      cases z
      rw [hr] at h1
      exact ⟨_, b1, a, C, dx, fs, rfl, b2, b3, b4, b5, h1 σ _ b6 b7⟩
/-! ### properties and methods -/
def mProp (cs : List Str) (Fn : List FA → RF) (m : ME) : ME := fun S => (m S).bind fun d S1 => match d with
  | .ins c fs => if cs.contains c then (applyF Fn [.dat (.ins c fs)] S1).calm else .bad
  | _ => .bad
theorem ge_prop {cs : List Str} {g : Addr} (hc : ∀ c, c ∈ cs → Cls X.K (cm c) ∧ ∃ p, PropOf X.K (cm c) nm p g) (Fk : FnG X.prog X.w X.K X.mg X.base (L2.CX X.prog X.w) k g fd ["self"] (spF cm X.K Fn)) (hr : Room (k + 1) X.A) (hgd : X.A.guards = some []) (hb : ∃ g', KBn X.K fd ["self"] 1 [] g' (fun vs _ => vs))
    (he : PE X e (tE cm X.K W ma)) (hab : attributeBase e nm X.env (eval e X.env) = eval e X.env := by rfl) : PE X (.Attribute e nm pos) (tE cm X.K W (mProp cs Fn ma)) := by
  obtain ⟨g', hb⟩ := hb
  refine ⟨fun pins s σ H Q I ⟨F, S, e1, e2, R, h⟩ => attr_of hab (thn (he.run pins s σ H (fun x H1 => ∃ a c dx gs fs S1, x = .ref a ∧ c ∈ cs ∧ H1 a = some (.ins (cm c) dx gs) ∧ Rel F S1 σ H1 ∧ Rp cm X.K (vis F S1 σ H1) (.ref a) (.ins c fs) ∧ out F W σ (vis F S1 σ H1) (rE cm X.K) Q (applyF Fn [.dat (.ins c fs)] S1).calm) I (tG_bind e1 e2 R h fun x H1 da S1 R1 s1 p1 h1 => ?_)) fun u s1 ⟨y, H1, I1, rx, a, c, dx, gs, fs, S1, ex, hcs, ea, R1, p1, h1⟩ => ?_)⟩
  · cases p1 with
    | @ins a dx c gs fs hh hr =>
      dsimp only at h1
      by_cases hz : cs.contains c = true
      · rw [if_pos hz] at h1
        exact ⟨a, c, dx, gs, fs, S1, rfl, by simpa using hz, hid_le _ _ hh, R1, .ins hh hr, h1⟩
      · rw [if_neg hz] at h1; exact h1.elim
    | _ => exact False.elim h1
  · subst ex
    obtain rfl : u = Value.ref a := rx
    obtain ⟨cl, p, hp⟩ := hc c hcs
    obtain ⟨mA, O, _, _, _, _⟩ := ins_get I1.hok ea
    obtain ⟨od, J, _⟩ := O.look
    obtain ⟨rest, hrec⟩ := hp.rec_
    have I2 := I1.tok (s1.toks + 1)
    have hcl : (PySem.W.clsIn X.K (cm c)).isSome = true := by
      obtain ⟨cd, hcd, _⟩ := PySem.W.any_some cl.hd
      rw [hcd]
      rfl
    have h2 : out F W0 σ (vis F S1 σ H1) (rE cm X.K) Q (applyF Fn [.dat (.ins c fs)] S1) := by
      cases hA : applyF Fn [.dat (.ins c fs)] S1 with
      | bad => rw [hA] at h1; exact h1
      | exc _ _ _ => rw [hA] at h1; exact h1.elim
      | ok d S2 => rw [hA] at h1; exact h1
    have hsp := apply_ok (W := W0) e1 e2 R1 (.dat p1 .nil) h2
    refine PySem.W.get_bind I1.kIn J (PySem.W.plainGet_of (cl.get nm)).1 (PySem.W.findObj_data hcl hp.at_ hp.get hp.tak) (PySem.W.plainGet_of (cl.get nm)).2 (wpAny_call (PySem.W.prop_get (s := { s1 with toks := s1.toks + 1 }) I1.kIn hrec ?_))
    refine codeAny_mono (Fk.run X.A.in1 X.stack { s1 with toks := s1.toks + 1 } H1 ⟨[.ref a], []⟩ (g' [.ref a] []) [.ref a] Q (WE W0 σ) hr.in1 hgd I2.env0.in1 (hb.to _ [.ref a] [] I2.kIn rfl rfl) (hb.rel (vs := [.ref a]) (us := [.ref a]) (.cons rfl .nil) .nil) hsp) fun res s' hq => ?_
    rcases res with er | fl
    · obtain ⟨_, _, _, _, _, _, _, _, _, _, _, _, z⟩ := hq
      exact z.elim
    · rcases fl with _ | _ | _ | u
      · exact False.elim hq
      · exact False.elim hq
      · exact False.elim hq
      · obtain ⟨v, H', I3, rv, q3⟩ := I2.after hq
        show wpAny _ _ (handedOut u) _ _ _
        rw [PySem.W.handedOut_of (handed_of rv)]
        exact wpAny_pure ⟨v, H', I3, rv, q3⟩
end
end Mir

/-! MirL: isinstance, texts, methods -/
namespace Mir
open PySem PySem.Spec L2

/-- isinstance by tables: built-in types, own classes -/
def isiT (tab : List (String × Bool)) (ct : List (Str × Bool)) : Dat → Option Dat
  | .non => (tab.lookup "NoneType").map Dat.bl
  | .bl _ => (tab.lookup "bool").map Dat.bl
  | .int _ => (tab.lookup "int").map Dat.bl
  | .str _ => (tab.lookup "str").map Dat.bl
  | .lst _ => (tab.lookup "list").map Dat.bl
  | .tup _ => (tab.lookup "tuple").map Dat.bl
  | .dic _ => (tab.lookup "dict").map Dat.bl
  | .ins c _ => (ct.lookup c).map Dat.bl
  | .ro _ => none
def joinD : Dat → Dat → Option Dat
  | .str a, .lst ds => match strsOf ds with
    | some ys => if (ys.map (·.length)).sum + ys.length * a.length ≤ 16777216 then some (.str (Txt.join a ys)) else none
    | none => none
  | _, _ => none
def mJn (ma mb : ME) : ME := fun S => (ma S).bind fun a S1 => match a with
  | .str x => (mb S1).bind fun b S2 => Rs.of (joinD (.str x) b) S2
  | _ => .bad
/-- {x}, {x!r} -/
def fmtS : Dat → Option Str
  | .int i => if showI i then some (toString i) else none
  | .str x => if x.length ≤ sizeLine then some x else none
  | .non => some "None"
  | .bl b => some (if b then "True" else "False")
  | _ => none
def fmtC (d : Dat) : Option Dat := (fmtS d).map Dat.str
def fmtR (d : Dat) : Option Dat := (reprS d).map Dat.str
/-- the parts of an f-string -/
def joinM : List ME → Str → Sg → Rs Str
  | [], acc, S => .ok acc S
  | m :: ms, acc, S => (m S).bind fun d S1 => match d with
    | .str y => if (acc ++ y).length ≤ sizeLine then joinM ms (acc ++ y) S1 else .bad
    | _ => .bad
def mFStr (ms : List ME) : ME := fun S => (joinM ms Str.empty S).bind fun x S1 => .ok (.str x) S1
theorem mem_lookup {α β : Type} [BEq α] [LawfulBEq α] : ∀ {l : List (α × β)} {a : α} {b : β}, l.lookup a = some b → (a, b) ∈ l
  | [], a, b, h => by cases h
  | (x, y) :: l, a, b, h => by
    simp only [List.lookup] at h
    cases e : (a == x) with
    | true => rw [e] at h; cases h; rw [eq_of_beq e]; exact List.mem_cons_self ..
    | false => rw [e] at h; exact List.mem_cons_of_mem _ (mem_lookup h)
section
variable {X : Cx} {cm : Str → Addr} {W : WX} {a b e o : Expr} {es : List Expr} {ma mb : ME} {mr mk : MAv} {pos p : Pos} {kwl : List Keyword} {k n m : Nat} {f : Addr} {fd : FuncData} {ps ks : List Str} {Fn : List FA → RF} {x c nm : Str} {gV gW : List V → List V → List V} {arr : List AV → List AV → List AV}
theorem isi_ty {tab : List (String × Bool)} {ct : List (Str × Bool)} {u : Value} {G : Hp} {y : V} {d : Dat} {t : Bool} (ht : ∀ q, q ∈ tab → PySem.W.kitOne X.K (.type q.1) u = some q.2) (hc : ∀ q, q ∈ ct → ClsF X.K (cm q.1) ∧ PySem.W.kitOne X.K (.ref (cm q.1)) u = some q.2)
    (r : Rp cm X.K G y d) (h : isiT tab ct d = some (.bl t)) : ∃ ty, TyX X.K G y ty ∧ PySem.W.kitOne X.K ty u = some t := by
  have key : ∀ {T : String}, (tab.lookup T).map Dat.bl = some (.bl t) → PySem.W.kitOne X.K (.type T) u = some t := fun {T} h => by
    cases hl : tab.lookup T with
    | none => rw [hl] at h; cases h
    | some q =>
      rw [hl] at h
      have e : q = t := by injection h with h; injection h
      subst e
      exact ht (T, q) (mem_lookup hl)
  cases r with
  | non => exact ⟨_, .base .non, key h⟩
  | bl b => exact ⟨_, .base (.bl b), key h⟩
  | int i => exact ⟨_, .base (.int i), key h⟩
  | str z => exact ⟨_, .base (.str z), key h⟩
  | lst hh _ => exact ⟨_, .base (.lst hh), key h⟩
  | ro _ _ => cases h
  | tup hh _ =>
    refine ⟨.type "tuple", ?_, key h⟩
    rcases hh with (hh | ⟨ob, hh⟩) | ⟨ob, its, n, h1, h2, _⟩
    · exact .base (.tup hh)
    · exact .fTuple hh
    · exact .kTuple h1 h2
  | dic hh _ => exact ⟨_, .base (.dK hh), key h⟩
  | @ins a dx c gs fs hh _ =>
    have h' : (ct.lookup c).map Dat.bl = some (.bl t) := h
    cases hl : ct.lookup c with
    | none => rw [hl] at h'; cases h'
    | some q =>
      rw [hl] at h'
      have e : q = t := by injection h' with h'; injection h'
      subst e
      obtain ⟨c1, c2⟩ := hc (c, q) (mem_lookup hl)
      exact ⟨_, .base (.ins hh c1.cl c1.kc c1.sp c1.tk c1.mo), c2⟩
theorem tyX_mono {K : PySem.W.Frag} {G H : Hp} {y : V} {t : Value} (s : Same G H) (h : TyX K G y t) : TyX K H y t := by
  cases h with
  | base b =>
    refine .base ?_
    cases b with
    | non => exact .non
    | bl x => exact .bl x
    | int x => exact .int x
    | str x => exact .str x
    | flt x => exact .flt x
    | lst h => exact .lst (s _ _ h)
    | frz h => exact .frz (s _ _ h)
    | tup h => exact .tup (s _ _ h)
    | dK h => exact .dK (s _ _ h)
    | dT h => exact .dT (s _ _ h)
    | ins h a b c d e => exact .ins (s _ _ h) a b c d e
  | byt b => exact .byt b
  | set h => exact .set (s _ _ h)
  | kList a b => exact .kList a b
  | kTuple a b => exact .kTuple a b
  | kDict a b => exact .kDict a b
  | fTuple h => exact .fTuple (s _ _ h)
  | fDict h => exact .fDict (s _ _ h)
theorem isi_bl {tab : List (String × Bool)} {ct : List (Str × Bool)} {d r : Dat} (h : isiT tab ct d = some r) : ∃ t, r = .bl t := by
  have key : ∀ {o : Option Bool}, o.map Dat.bl = some r → ∃ t, r = .bl t := fun {o} h => by
    cases o with
    | none => cases h
    | some t => cases h; exact ⟨t, rfl⟩
  cases d <;> first | exact key h | cases h
/-- isinstance(e, T), T a name -/
theorem ge_isi {tab : List (String × Bool)} {ct : List (Str × Bool)} {cv : V} {u : Value} (hm : X.mg "isinstance" = none) (hg : Gl X "isinstance") (he : PE X e (tE cm X.K W ma)) (hT : PE X b (tC cv)) (hu : ClsV cv u) (ht : ∀ q, q ∈ tab → PySem.W.kitOne X.K (.type q.1) u = some q.2)
    (hc : ∀ q, q ∈ ct → ClsF X.K (cm q.1) ∧ PySem.W.kitOne X.K (.ref (cm q.1)) u = some q.2) (hv : bootBuiltins ("isinstance" : Str) = some (.builtin "isinstance") := by decide +kernel)
    (h1 : starEach [e, b] X.env = (false, eval e X.env) :: starEach [b] X.env := by rfl) (h2 : starEach [b] X.env = (false, eval b X.env) :: starEach [] X.env := by rfl) (hpl : (backTo pos (starEach [b] X.env)).any (·.1) = false := by rfl) :
    PE X (.Call (.Name "isinstance" p) [e, b] [] pos) (tE cm X.K W (m1 (isiT tab ct) ma)) :=
  PE.weak (pe_callB call_isi hg hm hv (pa_cons he (pa_cons hT pa_nil h2) h1) (by decide) (by decide) h1 hpl) fun σ H Q ⟨F, S, e1, e2, R, h⟩ => tG_bind e1 e2 R h fun x H1 da S1 R1 s1 p1 h1 => by
    obtain ⟨d, hd, hq⟩ := out_of R1 h1
    obtain ⟨t, rfl⟩ := isi_bl hd
    obtain ⟨ty, t1, t2⟩ := isi_ty ht hc p1 hd
    exact ⟨x, cv, ty, u, t, rfl, hu, tyX_mono hid_le t1, t2, hq _ H1 (Same.refl _) (.bl t)⟩
/-- sep.join(xs) -/
theorem ge_join {apos : Pos} (ho : PE X a (tE cm X.K W ma)) (he : PE X b (tE cm X.K W mb)) (hs : starEach [b] X.env = [(false, eval b X.env)] := by rfl) (hab : attributeBase a "join" X.env (eval a X.env) = eval a X.env := by rfl) (hl : (apos.endLine == pos.line) = true := by rfl) :
    PE X (.Call (.Attribute a "join" apos) [b] [] pos) (tE cm X.K W (mJn ma mb)) :=
  PE.weak (pe_join ho he hs hab hl) fun σ H Q ⟨F, S, e1, e2, R, h⟩ => tG_bind e1 e2 R h fun x H1 da S1 R1 s1 p1 h1 => by
    cases p1 with
    | str z =>
      refine ⟨⟨z, rfl⟩, tG_bind e1 e2 R1 h1 fun y H2 db S2 R2 s2 p2 h2 => ?_⟩
      obtain ⟨d, hd, hq⟩ := out_of R2 h2
      cases p2 with
      | @lst l vs ds hh hr =>
        unfold joinD at hd
        dsimp only at hd
        cases hy : strsOf ds with
        | none => rw [hy] at hd; cases hd
        | some ys =>
          rw [hy] at hd
          dsimp only at hd
          by_cases hz : (ys.map (·.length)).sum + ys.length * z.length ≤ 16777216
          · rw [if_pos hz] at hd; cases hd
            have ev := strs_rp hr hy
            subst ev
            exact ⟨z, l, ys, rfl, rfl, .inl (SqL.of (hid_le _ _ hh)), hz, hq _ H2 (Same.refl _) (.str _)⟩
          · rw [if_neg hz] at hd; cases hd
      | _ => cases hd
    | _ => exact False.elim h1
/-- {e} -/
theorem ge_fmt (he : PE X e (tE cm X.K W ma)) : PE X (.FormattedValue e (-1) none pos) (tE cm X.K W (m1 fmtC ma)) := by
  refine ⟨fun pins s σ H Q I ⟨F, S, e1, e2, R, h⟩ => wpAny_FormattedValue_plain (thn (he.run pins s σ H (fun x H1 => ∃ d z, Rp cm X.K (hid (F.M ++ locs S σ) H1) x d ∧ True ∧ fmtS d = some z ∧ Q (.str z) H1) I (tG_bind e1 e2 R h fun x H1 da S1 R1 s1 p1 h1 => ?_)) fun u s1 ⟨x, H1, I1, rx, d, z, p1, _, hz, q⟩ => ?_)⟩
  · obtain ⟨d, hd, hq⟩ := out_of R1 h1
    unfold fmtC at hd
    cases hf : fmtS da with
    | none => rw [hf] at hd; cases hd
    | some z =>
      rw [hf] at hd; cases hd
      have hq' := hq (.str z) H1 (Same.refl _) (.str z)
      -- a scalar is what it is in every heap
      have sc : Rp cm X.K (hid (F.M ++ locs S σ) H1) x da := by
        cases p1 with
        | non => exact .non
        | bl b => exact .bl b
        | int i => exact .int i
        | str i => exact .str i
        | _ => cases hf
      exact ⟨da, z, sc, trivial, hf, hq'⟩
  · cases p1 with
    | int i =>
      obtain ⟨t, rfl⟩ := rx
      unfold fmtS at hz
      dsimp only at hz
      by_cases hs : showI i = true
      · rw [if_pos hs] at hz; cases hz
        exact wpAny_formatField_int (of_decide_eq_true hs) ⟨.str (toString i), H1, I1.tok _, ⟨_, rfl⟩, q⟩
      · rw [if_neg hs] at hz; cases hz
    | str i =>
      obtain ⟨t, rfl⟩ := rx
      unfold fmtS at hz
      dsimp only at hz
      by_cases hs : i.length ≤ sizeLine
      · rw [if_pos hs] at hz; cases hz
        exact wpAny_formatField_str ⟨.str _, H1, I1, ⟨t, rfl⟩, q⟩ ⟨.str _, H1, I1.tok _, ⟨_, rfl⟩, q⟩ hs
      · rw [if_neg hs] at hz; cases hz
    | non =>
      obtain rfl : u = Value.none := rx
      cases hz
      exact wpAny_formatField_none ⟨.str _, H1, I1.tok _, ⟨_, rfl⟩, q⟩
    | bl b =>
      obtain rfl : u = Value.bool b := rx
      cases hz
      exact wpAny_formatField_bool ⟨.str _, H1, I1.tok _, ⟨_, rfl⟩, q⟩
    | _ => cases hz
/-- {e!r} -/
theorem ge_fmtR (hg : X.A.guards = some []) (hu : X.A.units + 64 < cLine) (he : PE X e (tE cm X.K W ma)) : PE X (.FormattedValue e 114 none pos) (tE cm X.K W (m1 fmtR ma)) := by
  refine ⟨fun pins s σ H Q I ⟨F, S, e1, e2, R, h⟩ => wpAny_FormattedValue_repr (thn (he.run pins s σ H (fun x H1 => ∃ d z M, Rp cm X.K (hid M H1) x d ∧ reprS d = some z ∧ Q (.str z) H1) I (tG_bind e1 e2 R h fun x H1 da S1 R1 s1 p1 h1 => ?_)) fun u s1 ⟨x, H1, I1, rx, d, z, M, p1, hz, q⟩ => ?_)⟩
  · obtain ⟨d, hd, hq⟩ := out_of R1 h1
    unfold fmtR at hd
    cases hf : reprS da with
    | none => rw [hf] at hd; cases hd
    | some z =>
      rw [hf] at hd; cases hd
      exact ⟨da, z, _, p1, hf, hq (.str z) H1 (Same.refl _) (.str z)⟩
  · unfold reprS at hz
    cases hp : toPy d with
    | none => rw [hp] at hz; cases hz
    | some py =>
      rw [hp] at hz
      obtain ⟨k1, k2, k3, k4, rfl⟩ := showP_ok hz
      have dp := dp_of (p1.mono hid_le) hp
      obtain ⟨as, rd⟩ := Dp.reads I1 py x u dp rx
      have fin : ∀ {s2 : Shared} {t : Tok}, L2.Inv X pins σ H1 s2 → wpAny (model X.prog X.w) X.A (formatField (.str py.shown t) Str.empty) (EP X pins σ Q) X.xe s2 := fun {s2 t} I2 =>
        wpAny_formatField_str ⟨.str py.shown, H1, I2, ⟨t, rfl⟩, q⟩ ⟨.str py.shown, H1, I2.tok _, ⟨_, rfl⟩, q⟩ k4
      have ref : ∀ a, u = .ref a → wpAny (model X.prog X.w) X.A (pyReprObj u) (fun r s₂ => wpAny (model X.prog X.w) X.A (formatField r Str.empty) (EP X pins σ Q) X.xe s₂) X.xe s1 := fun a ea => by
        subst ea
        exact pyReprObj_of_reads rd k1 (PyData.noDict_hsm k2) hg (by omega) (fun _ _ z => z) (fun h' t tk kk => fin (I1.kept kk)) k4
      cases dp with
      | non =>
        obtain rfl : u = Value.none := rx
        exact pyReprObj_none (fin (I1.tok _))
      | bl b =>
        obtain rfl : u = Value.bool b := rx
        have eb : PyData.shown (.bool b) = if b = true then Str.ofString "True" else Str.ofString "False" := by cases b <;> rfl
        have f2 := @fin
        rw [eb] at f2
        exact pyReprObj_bool (f2 (I1.tok _))
      | int i =>
        obtain ⟨t, rfl⟩ := rx
        exact pyReprObj_int (of_decide_eq_true (by simpa [PyData.showable] using k1)) (fin (I1.tok _))
      | str i =>
        obtain ⟨t, rfl⟩ := rx
        exact pyReprObj_str (fin (I1.tok _)) k4
      | lst hs _ =>
        obtain rfl : u = Value.ref _ := rx
        exact ref _ rfl
      | tup hs _ =>
        obtain rfl : u = Value.ref _ := rx
        exact ref _ rfl
theorem js_read {F : Fm} {σ : L2.St} {Q : Str → Hp → Prop} (e1 : F.cm = cm) (e2 : F.K = X.K) : ∀ (ms : List ME) (acc : Str) (S : Sg) (H : Hp), Rel F S σ H → out F W σ (vis F S σ H) (fun _ _ (y : Str) z => y = z) Q (joinM ms acc S) → tJs (ms.map fun m => tE cm X.K W m) acc σ H Q
  | [], acc, S, H, R, h => h acc H R (Same.refl _) rfl
  | m :: ms, acc, S, H, R, h => tG_bind e1 e2 R h fun x H1 da S1 R1 s1 p1 h1 => by
    cases p1 with
    | str y =>
      dsimp only at h1
      by_cases hz : (acc ++ y).length ≤ sizeLine
      · rw [if_pos hz] at h1
        exact ⟨y, rfl, hz, js_read e1 e2 ms (acc ++ y) S1 H1 R1 h1⟩
      · rw [if_neg hz] at h1; exact h1.elim
    | _ => exact False.elim h1
theorem pj_nil : PJ X [] (([] : List ME).map fun m => tE cm X.K W m) := .nil
theorem pj_cons {m : ME} {ms : List ME} (h : PE X e (tE cm X.K W m)) (r : PJ X es (ms.map fun m => tE cm X.K W m)) : PJ X (e :: es) ((m :: ms).map fun m => tE cm X.K W m) := .cons h r
/-- f'..' of two parts or more -/
theorem ge_fstr {v1 v2 : Expr} {ms : List ME} (h : PJ X (v1 :: v2 :: es) (ms.map fun m => tE cm X.K W m)) : PE X (.JoinedStr (v1 :: v2 :: es) pos) (tE cm X.K W (mFStr ms)) :=
  PE.weak (pe_joined h) fun σ H Q ⟨F, S, e1, e2, R, h⟩ => js_read e1 e2 ms Str.empty S H R (by
    have h' : out F W σ (vis F S σ H) (rE cm X.K) Q ((joinM ms Str.empty S).bind fun x S1 => .ok (.str x) S1) := h
    cases hj : joinM ms Str.empty S with
    | bad => rw [hj] at h'; exact h'
    | exc c fs S1 => rw [hj] at h'; exact h'
    | ok z S1 =>
      rw [hj, Rs.bind_ok] at h'
      intro y H1 R1 s1 ey
      have ey' : y = z := ey
      subst ey'
      exact h' _ H1 R1 s1 (.str y))
theorem ge_fstr1 (h : PE X e (tE cm X.K W ma)) : PE X (.JoinedStr [e] pos) (tE cm X.K W ma) := pe_joined1 h
/-! ### methods -/
def mMeth (cs : List Str) (nm : Str) (Fn : List FA → RF) (n : Nat) (arr : List AV → List AV → List AV) (mo : ME) (mr : MAv) : ME := fun S => (mo S).bind fun d S1 => match d with
  | .ins c fs => if cs.contains c && (fs.lookup nm).isNone then (mr S1).bind fun as S2 => if as.length = n then applyF Fn (arr (.dat (.ins c fs) :: as) []) S2 else .bad else .bad
  | _ => .bad
/-- o.m(e, ..), o a value -/
theorem ge_meth {cs : List Str} {apos : Pos} {mo : ME} {pl : Sem Bool} (hc : ∀ c, c ∈ cs → Cls X.K (cm c) ∧ Meth X.K (cm c) nm f) (Fk : FnG X.prog X.w X.K X.mg X.base (L2.CX X.prog X.w) k f fd ps (spF cm X.K Fn)) (hr : Room k X.A) (hgd : X.A.guards = some []) (tk : Takes X W) (hb : ∃ g, KBn X.K fd ps (n + 1) [] g gV) (hA : Arr (n + 1) 0 gV arr)
    (ho : PE X o (tE cm X.K W mo)) (ha : PA X (e :: es) (tAv cm X.K W mr)) (hst : starEach (e :: es) X.env = (false, eval e X.env) :: starEach es X.env := by rfl) (hpl : (backTo pos (starEach es X.env)).any (·.1) = false := by rfl)
    (ht : eval (.Call (.Attribute o nm apos) (e :: es) [] pos) X.env = (do
      let ov ← eval o X.env
      standAt apos.atName
      let (f, first) ← holding [ov] (getMethod ov nm pl)
      callWith pos f first (backTo pos (starEach (e :: es) X.env)) (backToKw pos (keywordEach [] X.env))) := by rfl) :
    PE X (.Call (.Attribute o nm apos) (e :: es) [] pos) (tE cm X.K W (mMeth cs nm Fn n arr mo mr)) := by
  obtain ⟨g, hb⟩ := hb
  refine ⟨fun pins s σ H Q I ⟨F, S, e1, e2, R, h⟩ => PySem.W.methodCall_KW (pl := pl) (thn (ho.run pins s σ H (fun x H1 => ∃ a c dx gs fs S1, x = .ref a ∧ c ∈ cs ∧ gs.lookup nm = none ∧ H1 a = some (.ins (cm c) dx gs) ∧ Rel F S1 σ H1 ∧ Rp cm X.K (vis F S1 σ H1) (.ref a) (.ins c fs) ∧ out F W σ (vis F S1 σ H1) (rE cm X.K) Q ((mr S1).bind fun as S2 => if as.length = n then applyF Fn (arr (.dat (.ins c fs) :: as) []) S2 else .bad)) I (tG_bind e1 e2 R h fun x H1 da S1 R1 s1 p1 h1 => ?_)) fun u s1 ⟨y, H1, I1, rx, a, c, dx, gs, fs, S1, ex, hcs, hnl, ea, R1, p1, h1⟩ => ?_) ht⟩
  · cases p1 with
    | @ins a dx c gs fs hh hr =>
      dsimp only at h1
      by_cases hz : (cs.contains c && (fs.lookup nm).isNone) = true
      · rw [if_pos hz] at h1
        rw [Bool.and_eq_true] at hz
        exact ⟨a, c, dx, gs, fs, S1, rfl, by simpa using hz.1, hr.lookup_none (Option.isNone_iff_eq_none.mp hz.2), hid_le _ _ hh, R1, .ins hh hr, h1⟩
      · rw [if_neg hz] at h1; exact h1.elim
    | _ => exact False.elim h1
  · subst ex
    obtain rfl : u = Value.ref a := rx
    obtain ⟨cl, hme⟩ := hc c hcs
    refine getmeth_ok I1 ea cl hme hnl (PySem.W.callWith_K (first := [.ref a]) (h₀ := X.base) I.ok.mod.kin hme.kp (thn (ha.run pos pins s1 σ H1 (fun vs H2 => ∃ as S2, Rel F S2 σ H2 ∧ Rp cm X.K (vis F S2 σ H2) (.ref a) (.ins c fs) ∧ AvsOk cm X.K σ (vis F S2 σ H2) vs as ∧ as.length = n ∧ out F W σ (vis F S2 σ H2) (rE cm X.K) Q (applyF Fn (arr (.dat (.ins c fs) :: as) []) S2)) I1 (tG_bind e1 e2 R1 h1 fun vs H2 as S2 R2 s2 p2 h2 => ?_)) fun us s2 ⟨vs, H2, I2, r, as, S2, R2, q1, q2, hl, h2⟩ => ⟨I2.kIn, ?_⟩) hst hpl)
    · by_cases hz : as.length = n
      · rw [if_pos hz] at h2
        exact ⟨as, S2, R2, Rp.mono s2 p1, p2, hz, h2⟩
      · rw [if_neg hz] at h2; exact h2.elim
    · have lv : vs.length = n := by rw [AvsOk.length q2]; exact hl
      have r2 : Vals (V.ref a :: vs) (Value.ref a :: us) := .cons rfl r
      exact run_g (us := .ref a :: us) (kw := []) Fk hr hgd tk I2 (hb.to s2 (.ref a :: us) [] I2.kIn (by rw [List.length_cons, ← r.length, lv]) rfl) (hb.rel r2 .nil) (apply_ok e1 e2 R2 (hA.ok (by rw [List.length_cons, lv]) rfl (.dat q1 q2) .nil) h2)
/-- o.m() -/
theorem ge_meth0 {cs : List Str} {apos : Pos} {mo : ME} {pl : Sem Bool} (hc : ∀ c, c ∈ cs → Cls X.K (cm c) ∧ Meth X.K (cm c) nm f) (Fk : FnG X.prog X.w X.K X.mg X.base (L2.CX X.prog X.w) k f fd ps (spF cm X.K Fn)) (hr : Room k X.A) (hgd : X.A.guards = some []) (tk : Takes X W) (hb : ∃ g, KBn X.K fd ps 1 [] g gV) (hA : Arr 1 0 gV arr)
    (ho : PE X o (tE cm X.K W mo))
    (ht : eval (.Call (.Attribute o nm apos) [] [] pos) X.env = (do
      let ov ← eval o X.env
      standAt apos.atName
      let (f, first) ← holding [ov] (getMethod ov nm pl)
      callWith pos f first (backTo pos (starEach [] X.env)) (backToKw pos (keywordEach [] X.env))) := by rfl) :
    PE X (.Call (.Attribute o nm apos) [] [] pos) (tE cm X.K W (mMeth cs nm Fn 0 arr mo vNil)) := by
  obtain ⟨g, hb⟩ := hb
  refine ⟨fun pins s σ H Q I ⟨F, S, e1, e2, R, h⟩ => PySem.W.methodCall_KW (pl := pl) (thn (ho.run pins s σ H (fun x H1 => ∃ a c dx gs fs S1, x = .ref a ∧ c ∈ cs ∧ gs.lookup nm = none ∧ H1 a = some (.ins (cm c) dx gs) ∧ Rel F S1 σ H1 ∧ Rp cm X.K (vis F S1 σ H1) (.ref a) (.ins c fs) ∧ out F W σ (vis F S1 σ H1) (rE cm X.K) Q (applyF Fn (arr [.dat (.ins c fs)] []) S1)) I (tG_bind e1 e2 R h fun x H1 da S1 R1 s1 p1 h1 => ?_)) fun u s1 ⟨y, H1, I1, rx, a, c, dx, gs, fs, S1, ex, hcs, hnl, ea, R1, p1, h1⟩ => ?_) ht⟩
  · cases p1 with
    | @ins a dx c gs fs hh hr =>
      dsimp only at h1
      by_cases hz : (cs.contains c && (fs.lookup nm).isNone) = true
      · rw [if_pos hz] at h1
        rw [Bool.and_eq_true] at hz
        exact ⟨a, c, dx, gs, fs, S1, rfl, by simpa using hz.1, hr.lookup_none (Option.isNone_iff_eq_none.mp hz.2), hid_le _ _ hh, R1, .ins hh hr, h1⟩
      · rw [if_neg hz] at h1; exact h1.elim
    | _ => exact False.elim h1
  · subst ex
    obtain rfl : u = Value.ref a := rx
    obtain ⟨cl, hme⟩ := hc c hcs
    refine getmeth_ok I1 ea cl hme hnl (PySem.W.callWith_K0 (first := [.ref a]) I1.kIn hme.kp ?_)
    exact run_g (us := [.ref a]) (kw := []) Fk hr hgd tk I1 (hb.to s1 [.ref a] [] I1.kIn rfl rfl) (hb.rel (vs := [V.ref a]) (.cons rfl .nil) .nil) (apply_ok e1 e2 R1 (hA.ok rfl rfl (.dat p1 .nil) .nil) h1)
end
end Mir

/-! MirM: own == and repr; fresh lists; the law's end -/
namespace Mir
open PySem PySem.Spec PyProof.Rows L2

/-! ### a def as a function of values alone -/
def callD (Fn : List FA → RF) (ds : List Dat) : Option Dat := match Fn (ds.map .dat) with
  | .ok d [] => some d
  | _ => none
theorem args_dats {cm : Str → Addr} {K : PySem.W.Frag} {G H : Hp} : ∀ {vs : List V} {ds : List Dat}, RpAll cm K G vs ds → ArgsOk cm K G H vs (ds.map .dat) []
  | _, _, .nil => .nil
  | _, _, .cons a b => .dat a (args_dats b)
section
variable {X : Cx} {cm : Str → Addr} {W : WX} {k : Nat} {f : Addr} {fd : FuncData} {ps : List Str} {Fn : List FA → RF} {gV : List V → List V → List V} {pins : List (Addr × Obj)} {σ : L2.St} {H : Hp} {s : Shared}
theorem run_d {A : Around} {n : Nat} {M : List Addr} {vs : List V} {us : List Value} {ds : List Dat} {d : Dat} (sb : Sub X k A) (hgd : A.guards = some []) (Fk : FnG X.prog X.w X.K X.mg X.base (L2.CX X.prog X.w) k f fd ps (spF cm X.K Fn)) (hb : ∃ g, KBn X.K fd ps n [] g (fun vs _ => vs))
    (I : L2.Inv X pins σ H s) (lv : live M H) (r : Vals vs us) (hl : vs.length = n) (pa : RpAll cm X.K (hid M H) vs ds) (e : callD Fn ds = some d) :
    wpAny (model X.prog X.w) A (call (.ref f) us) (EP X pins σ fun v H' => Same H H' ∧ Rp cm X.K (hid M H') v d) X.xe s := by
  obtain ⟨g, hb⟩ := hb
  have e0 : Env0 X.prog X.w X.K X.mg X.base A X.stack s H := by
    have z := I.env0
    exact ⟨sb.fr.trans z.frames, z.mod, z.bs, z.bsz, z.funs, z.frf, z.hok, z.bare⟩
  have hs : spF cm X.K Fn vs H (fun v H' => Same H H' ∧ Rp cm X.K (hid M H') v d) (fun _ _ _ => False) := by
    refine ⟨M, ds.map .dat, [], lv, by simp, List.nodup_nil, args_dats pa, ?_⟩
    unfold callD at e
    cases hF : Fn (ds.map .dat) with
    | bad => rw [hF] at e; cases e
    | exc c fs o => rw [hF] at e; cases e
    | ok d' o =>
      rw [hF] at e
      cases o with
      | cons _ _ => cases e
      | nil =>
        cases e
        exact fun v H' kp _ rv => ⟨fun a o q => kp a o q (by simp), rv⟩
  refine wpAny_call (codeAny_mono (Fk.run A X.stack s H ⟨us, []⟩ (g us []) vs _ _ sb.room hgd e0 (hb.to s us [] I.kIn (by rw [← r.length]; exact hl) rfl) (hb.rel r .nil) hs) fun res s' hq => ?_)
  rcases res with er | fl
  · obtain ⟨_, _, _, _, _, _, _, _, _, _, _, _, z⟩ := hq
    exact z.elim
  · rcases fl with _ | _ | _ | u
    · exact False.elim hq
    · exact False.elim hq
    · exact False.elim hq
    · exact I.after hq

/-! ### own == and != -/
def tyN : Dat → Option String
  | .non => some "NoneType"
  | .bl _ => some "bool"
  | .int _ => some "int"
  | .str _ => some "str"
  | .lst _ => some "list"
  | .tup _ => some "tuple"
  | .dic _ => some "dict"
  | _ => none
/-- what the right side may be -/
def rightOk (cs : List Str) : Dat → Bool
  | .ins c _ => cs.contains c
  | d => (tyN d).isSome
def eqO (c : Str) (cs : List Str) (Fn : List FA → RF) (a b : Dat) : Option Dat := match a with
  | .ins c' fs => if c' = c ∧ rightOk cs b = true then (match callD Fn [.ins c' fs, b] with
    | some (.bl t) => some (.bl t)
    | _ => none) else none
  | a => eqD a b
def neO (c : Str) (cs : List Str) (Fn : List FA → RF) (a b : Dat) : Option Dat := match a with
  | .ins c' fs => if c' = c ∧ rightOk cs b = true then (match callD Fn [.ins c' fs, b] with
    | some (.bl t) => some (.bl (!t))
    | _ => none) else none
  | a => neD a b
theorem sub_builtin {K : PySem.W.Frag} {C : Addr} {T : String} {m : List String} (e : fastBuiltinMro T = some (m.map Value.type)) : PySem.W.subIn K (.type T) (.ref C) = some false := by
  show (fastBuiltinMro T).map (·.contains (.ref C)) = some false
  rw [e, Option.map_some]
  congr 1
  rw [List.contains_eq_any_beq]
  rw [List.any_eq_false]
  intro x hx
  obtain ⟨y, _, rfl⟩ := List.mem_map.mp hx
  simp
theorem ty_of {cs : List Str} {C : Addr} {y : V} {u : Value} {d : Dat} {M : List Addr} (hcs : ∀ c, c ∈ cs → ClsF X.K (cm c) ∧ PySem.W.notFirst X.K C (.ref (cm c)) = true) (I : L2.Inv X pins σ H s) (r : Rp cm X.K (hid M H) y d) (ry : RelV y u) (h : rightOk cs d = true) :
    ∃ t, PySem.W.Looks (model X.prog X.w) s.heap (typeOf u) t ∧ PySem.W.notFirst X.K C t = true := by
  have fin : ∀ {t : Value}, TyX X.K (hid M H) y t → PySem.W.notFirst X.K C t = true → ∃ t, PySem.W.Looks (model X.prog X.w) s.heap (typeOf u) t ∧ PySem.W.notFirst X.K C t = true := fun {t} ty hn => by
    obtain ⟨P, k1, k2, _⟩ := kit_of I ry (tyX_mono hid_le ty)
    exact ⟨t, k1.ty _ _ I.kIn k2, hn⟩
  have nf : ∀ {T : String} {m : List String}, fastBuiltinMro T = some (m.map Value.type) → PySem.W.notFirst X.K C (.type T) = true := fun e => by
    unfold PySem.W.notFirst
    rw [sub_builtin e]
    simp
  cases r with
  | non => exact fin (.base .non) (nf (T := "NoneType") (m := ["NoneType", "object"]) (by decide +kernel))
  | bl b => exact fin (.base (.bl b)) (nf (T := "bool") (m := ["bool", "int", "object"]) (by decide +kernel))
  | int i => exact fin (.base (.int i)) (nf (T := "int") (m := ["int", "object"]) (by decide +kernel))
  | str z => exact fin (.base (.str z)) (nf (T := "str") (m := ["str", "object"]) (by decide +kernel))
  | lst hh _ => exact fin (.base (.lst hh)) (nf (T := "list") (m := ["list", "object"]) (by decide +kernel))
  | ro _ _ => cases h
  | tup hh _ =>
    have n2 : PySem.W.notFirst X.K C (.type "tuple") = true := nf (m := ["tuple", "object"]) (by decide +kernel)
    rcases hh with (hh | ⟨ob, hh⟩) | ⟨ob, its, n, h1, h2, _⟩
    · exact fin (.base (.tup hh)) n2
    · exact fin (.fTuple hh) n2
    · exact fin (.kTuple h1 h2) n2
  | dic hh _ => exact fin (.base (.dK hh)) (nf (T := "dict") (m := ["dict", "object"]) (by decide +kernel))
  | @ins a dx c gs fs hh _ =>
    obtain ⟨q, n2⟩ := hcs c (by simpa using (show cs.contains c = true from h))
    exact fin (.base (.ins hh q.cl q.kc q.sp q.tk q.mo)) n2
/-- what the text says of a class with an own == -/
structure EqF (K : PySem.W.Frag) (C f : Addr) : Prop where
  eq : PySem.W.findIn K (.ref C) "__eq__" = some (some (.ref f))
  fn : PySem.W.isFn K (.ref f) = true
  ne : PySem.W.findIn K (.ref C) "__ne__" = some (some (.builtin "object.__ne__"))
  mo : PySem.W.mroIn K C (.type "object") = some true
theorem o_eqO {c : Str} {cs : List Str} (hE : EqF X.K (cm c) f) (hcs : ∀ c', c' ∈ cs → ClsF X.K (cm c') ∧ PySem.W.notFirst X.K (cm c) (.ref (cm c')) = true) (Fk : FnG X.prog X.w X.K X.mg X.base (L2.CX X.prog X.w) k f fd ps (spF cm X.K Fn)) (hb : ∃ g, KBn X.K fd ps 2 [] g (fun vs _ => vs))
    (hr : Room k X.A) (hgd : X.A.guards = some []) : OpR X (compareOp .Eq) (rD cm X.K (eqO c cs Fn)) := by
  intro pins s σ H x y v u Q I rx ry hq
  obtain ⟨M, da, db, d, lv, pa, pb, e, q⟩ := hq
  cases pa with
  | @ins a dx c' gs fs hh hrf =>
    unfold eqO at e
    dsimp only at e
    by_cases hz : c' = c ∧ rightOk cs db = true
    · rw [if_pos hz] at e
      obtain ⟨rfl, hz⟩ := hz
      cases hc : callD Fn [.ins c' fs, db] with
      | none => rw [hc] at e; cases e
      | some z =>
        rw [hc] at e
        cases z <;> try (cases e; done)
        rename_i t
        cases e
        obtain rfl : v = Value.ref a := rx
        have eh : H a = some (.ins (cm c') dx gs) := hid_le _ _ hh
        obtain ⟨mA, J, _⟩ := ins_get I.hok eh
        obtain ⟨od, J, _⟩ := J.look
        obtain ⟨m, hF⟩ := I.fr
        obtain ⟨tb, lk, nf⟩ := ty_of (cm := cm) hcs I pb ry hz
        refine PySem.W.cmp_K (op := .Eq) (tb := tb) hr.units0 hF I.ok.mod.kin J lk nf hE.eq hE.fn ?_
        refine wpAny_mono (run_d (A := X.A) (n := 2) ⟨hr, rfl⟩ hgd Fk hb I lv (vs := [.ref a, y]) (us := [.ref a, u]) (.cons rfl (.cons ry .nil)) rfl (.cons (.ins hh hrf) (.cons pb .nil)) hc) (fun w s' ⟨z, H', I', rz, sm, pz⟩ => ?_) fun _ _ z => z
        cases pz
        obtain rfl : w = Value.bool t := rz
        exact ⟨.bl t, H', I', rfl, q _ H' sm (.bl t)⟩
    · rw [if_neg hz] at e; cases e
  | _ => exact o_eq hr.units pins s σ H _ y v u Q I rx ry ⟨M, _, db, d, lv, by first | exact .non | exact .bl _ | exact .int _ | exact .str _ | (constructor <;> assumption), pb, e, q⟩
theorem ifBound_objNe {Md : Model} {A : Around} {E : Value → Shared → Prop} {K : PySem.W.Frag} {x C : Addr} {ox : Obj} {od : Option Obj} {args : List Value} {Q : Option Value → Shared → Prop} (X : K.In s.heap) (I : PySem.W.InstAt s.heap x ox C od) (hs : PySem.W.findIn K (.ref C) "__ne__" = some (some (.builtin "object.__ne__")))
    (h : wpAny Md A (call (.builtin "object.__ne__") (.ref x :: args)) (fun v => Q (some v)) E s) : wpAny Md A (callSpecialIfBound? (.ref x) "__ne__" args) Q E s := by
  simp only [callSpecialIfBound?, bindSpecialIfBound?]
  refine wpAny_holding (wpAny_bind (wpAny_bind (wpAny_bind (I.type.here ((PySem.W.looks_findIn X hs).here ?_)))))
  refine wpAny_bind (wpAny_askSetting (wpAny_ite ?_))
  have k : wpAny Md A (call (.builtin "object.__ne__") ([.ref x] ++ args) >>= fun v => pure (some v)) Q E s := wpAny_bind (wpAny_mono h (fun v s' z => wpAny_pure z) fun _ _ z => z)
  split
  · exact wpAny_bind (wpAny_of_eq (F.cmp_object.ne.bind _) (wpAny_pure (by exact k)))
  · exact wpAny_tryCatch (wpAny_bind (wpAny_of_eq (F.cmp_object.ne.bind _) (wpAny_pure (by exact k))))
open Builtin in
theorem ne_entry {prog : Program} {w : World} {A : Around} {E : Value → Shared → Prop} {K : PySem.W.Frag} {x C : Addr} {ox : Obj} {od : Option Obj} {b : Value} {Q : Fin → Shared → Prop} (hu : A.units < cLine) (X : K.In s.heap) (I : PySem.W.InstAt s.heap x ox C od) (hE : EqF K C f)
    (h : wpAny (model prog w) A (call (.ref f) [.ref x, b]) (fun v s' => ∃ t, v = .bool t ∧ Q (.done (.ret (.bool (!t)))) s') E s) : wpAny (model prog w) A (Builtin.«object.__ne__» ⟨[.ref x, b], []⟩) Q E s := by
  unfold Builtin.«object.__ne__»
  repeat (first
    | with_reducible refine wpAny_cRoomFor hu ?_
    | (refine wpAny_bind (m := callSpecialIfBound? (.ref x) (Str.ofString "__eq__") [b])
        (PySem.W.ifBound_K X I hE.eq hE.fn (wpAny_mono h (fun r s' hr => by
          obtain ⟨t, rfl, hq⟩ := hr
          repeat (first | exact hq | exact wpAny_pure hq | exact wpAny_truthy_bool hq | (refine wpAny_bind (m := truthy (.bool _)) (wpAny_truthy_bool ?_)) | wp_step)) fun _ _ z => z)))
    | wp_step)
theorem ne_run {prog : Program} {w : World} {A : Around} {E : Value → Shared → Prop} {K : PySem.W.Frag} {x C : Addr} {ox : Obj} {od : Option Obj} {b tb : Value} {Q : Value → Shared → Prop} (hu : A.units + 1 < cLine) (X : K.In s.heap) (I : PySem.W.InstAt s.heap x ox C od) (lk : PySem.W.Looks (model prog w) s.heap (typeOf b) tb) (nf : PySem.W.notFirst K C tb = true) (hE : EqF K C f)
    (h : wpAny (model prog w) A.in1 (call (.ref f) [.ref x, b]) (fun v s' => ∃ t, v = .bool t ∧ Q (.bool (!t)) s') E s) : wpAny (model prog w) A (richCompare .NotEq (.ref x) b) Q E s := by
  have one : wpAny (model prog w) A (tryCompare (.ref x) "__ne__" b) (fun r s' => ∃ v, r = some v ∧ Q v s') E s := by
    unfold tryCompare
    refine wpAny_bind (ifBound_objNe X I hE.ne (wpAny_call (codeAny_call_builtin F.cmp_object.ne.plain F.cmpEntry_ne (PySem.W.check_slot F.cmpKind_ne F.cmpSplit_ne (I.type.andThen (PySem.W.looks_mroIn X hE.mo)) (F.cmpArgs_ne _ _) (ne_entry (A := A.in1) hu X I hE (wpAny_mono h (fun v s' z => ?_) fun _ _ z => z))))))
    obtain ⟨t, rfl, q⟩ := z
    first
      | exact ⟨t, rfl, wpAny_pure ⟨_, rfl, q⟩⟩
      | exact ⟨t, rfl, wpAny_pure (wpAny_pure ⟨_, rfl, q⟩)⟩
      | exact ⟨t, rfl, ⟨_, rfl, q⟩⟩
  unfold richCompare
  simp only [oneThing_ref]
  refine wpAny_holding (wpAny_bind (wpAny_cRoomFor (Nat.lt_of_succ_lt hu) ?_))
  rw [cmpInfo_NotEq]
  dsimp only
  refine wpAny_bind (I.type.here (wpAny_bind (lk.here ?_)))
  split
  · rename_i z
    have z2 : PySem.W.subIn K tb (.ref C) = some false := by
      rcases Bool.or_eq_true_iff.mp nf with y | y
      · rw [beq_iff_eq.mp y] at z; simp at z
      · exact beq_iff_eq.mp y
    refine wpAny_bind ((PySem.W.looks_subIn X z2).here ?_)
    simp only [Bool.false_eq_true, if_false]
    refine wpAny_bind (wpAny_mono one (fun r s' y => ?_) fun _ _ y => y)
    obtain ⟨v, rfl, y⟩ := y
    exact wpAny_pure y
  · refine wpAny_bind (wpAny_pure ?_)
    simp only [Bool.false_eq_true, if_false]
    refine wpAny_bind (wpAny_mono one (fun r s' y => ?_) fun _ _ y => y)
    obtain ⟨v, rfl, y⟩ := y
    exact wpAny_pure y
theorem o_neO {c : Str} {cs : List Str} (hE : EqF X.K (cm c) f) (hcs : ∀ c', c' ∈ cs → ClsF X.K (cm c') ∧ PySem.W.notFirst X.K (cm c) (.ref (cm c')) = true) (Fk : FnG X.prog X.w X.K X.mg X.base (L2.CX X.prog X.w) k f fd ps (spF cm X.K Fn)) (hb : ∃ g, KBn X.K fd ps 2 [] g (fun vs _ => vs))
    (hr : Room (k + 1) X.A) (hgd : X.A.guards = some []) : OpR X (compareOp .NotEq) (rD cm X.K (neO c cs Fn)) := by
  intro pins s σ H x y v u Q I rx ry hq
  obtain ⟨M, da, db, d, lv, pa, pb, e, q⟩ := hq
  cases pa with
  | @ins a dx c' gs fs hh hrf =>
    unfold neO at e
    dsimp only at e
    by_cases hz : c' = c ∧ rightOk cs db = true
    · rw [if_pos hz] at e
      obtain ⟨rfl, hz⟩ := hz
      cases hc : callD Fn [.ins c' fs, db] with
      | none => rw [hc] at e; cases e
      | some z =>
        rw [hc] at e
        cases z <;> try (cases e; done)
        rename_i t
        cases e
        obtain rfl : v = Value.ref a := rx
        have eh : H a = some (.ins (cm c') dx gs) := hid_le _ _ hh
        obtain ⟨mA, J, _⟩ := ins_get I.hok eh
        obtain ⟨od, J, _⟩ := J.look
        obtain ⟨tb, lk, nf⟩ := ty_of (cm := cm) hcs I pb ry hz
        refine ne_run (by have := hr.units; omega) I.kIn J lk nf hE ?_
        refine wpAny_mono (run_d (A := X.A.in1) (n := 2) (Sub.in1 ⟨hr, rfl⟩) hgd Fk hb I lv (vs := [.ref a, y]) (us := [.ref a, u]) (.cons rfl (.cons ry .nil)) rfl (.cons (.ins hh hrf) (.cons pb .nil)) hc) (fun w s' ⟨z, H', I', rz, sm, pz⟩ => ?_) fun _ _ z => z
        cases pz
        obtain rfl : w = Value.bool t := rz
        exact ⟨t, rfl, .bl (!t), H', I', rfl, q _ H' sm (.bl (!t))⟩
    · rw [if_neg hz] at e; cases e
  | _ => exact o_ne hr.units pins s σ H _ y v u Q I rx ry ⟨M, _, db, d, lv, by first | exact .non | exact .bl _ | exact .int _ | exact .str _ | (constructor <;> assumption), pb, e, q⟩
/-! ### repr by an own __repr__ -/
def reprO (c : Str) (Fn : List FA → RF) (ds : List Dat) : Option Dat := match ds with
  | [.ins c' fs] => if c' = c then (match callD Fn [.ins c' fs] with
    | some (.str t) => some (.str t)
    | _ => none) else none
  | ds => reprC ds
theorem c_reprO {c : Str} (hs : PySem.W.findIn X.K (.ref (cm c)) "__repr__" = some (some (.ref f))) (hf : PySem.W.isFn X.K (.ref f) = true) (Fk : FnG X.prog X.w X.K X.mg X.base (L2.CX X.prog X.w) k f fd ps (spF cm X.K Fn)) (hb : ∃ g, KBn X.K fd ps 1 [] g (fun vs _ => vs))
    (hr : Room (k + 1) X.A) (hgd : X.A.guards = some []) : CallR X (.builtin "repr") (rDs cm X.K (reprO c Fn)) := by
  rintro pins s σ H xs us Q I r ⟨M, ds, d, lv, pa, e, q⟩
  have old : reprC ds = some d → wpAny (model X.prog X.w) X.A (call (.builtin "repr") us) (EP X pins σ Q) X.xe s := fun e => c_repr hgd hr.units pins s σ H xs us Q I r ⟨M, ds, d, lv, pa, e, q⟩
  cases pa with
  | nil => exact old e
  | @cons v d1 vs ds p1 p2 =>
    cases p2 with
    | cons _ _ => exact old (by cases d1 <;> exact e)
    | nil =>
      cases p1 with
      | @ins a dx c' gs fs hh hrf =>
        have e' : (if c' = c then (match callD Fn [.ins c' fs] with | some (.str t) => some (Dat.str t) | _ => none) else none) = some d := e
        by_cases hz : c' = c
        · rw [if_pos hz] at e'
          subst hz
          cases hc : callD Fn [.ins c' fs] with
          | none => rw [hc] at e'; cases e'
          | some z =>
            rw [hc] at e'
            cases z <;> try (cases e'; done)
            rename_i t
            cases e'
            obtain ⟨u, rfl, rx⟩ := vals1 r
            obtain rfl : u = Value.ref a := rx
            have eh : H a = some (.ins (cm c') dx gs) := hid_le _ _ hh
            obtain ⟨mA, J, _⟩ := ins_get I.hok eh
            obtain ⟨od, J, _⟩ := J.look
            obtain ⟨m, hF⟩ := I.fr
            refine PySem.W.repr_K (by have := hr.units; show X.A.units + 1 < cLine; omega) hF I.ok.mod.kin J hs hf ?_
            refine wpAny_mono (run_d (A := X.A.in1) (n := 1) (Sub.in1 ⟨hr, rfl⟩) hgd Fk hb I lv (vs := [.ref a]) (us := [.ref a]) (.cons rfl .nil) rfl (.cons (.ins hh hrf) .nil) hc) (fun w s' ⟨z, H', I', rz, sm, pz⟩ => ?_) fun _ _ z => z
            cases pz
            obtain ⟨tk, rfl⟩ := rz
            exact ⟨.str t, H', I', ⟨tk, rfl⟩, q _ H' sm (.str t)⟩
        · rw [if_neg hz] at e'; cases e'
      | _ => exact old e
end
end Mir

/-! MirN: a look into an own list; fresh lists; the law's end -/
namespace Mir
open PySem PySem.Spec PyProof.Rows L2

def listAt (i : Nat) (S : Sg) : Option (List Dat) := match S[i]? with
  | some (.loc ds) => some ds
  | some (.own _ (.lst ds)) => some ds
  | _ => none
def scal : Dat → Bool
  | .non => true
  | .bl _ => true
  | .int _ => true
  | .str _ => true
  | _ => false
theorem scal_rp {cm : Str → Addr} {K : PySem.W.Frag} {G G' : Hp} {v : V} {d : Dat} (h : scal d = true) (r : Rp cm K G v d) : Rp cm K G' v d := by
  cases r with
  | non => exact .non
  | bl b => exact .bl b
  | int i => exact .int i
  | str x => exact .str x
  | _ => cases h
theorem Rel.peek {F : Fm} {S : Sg} {σ : L2.St} {H : Hp} {i : Nat} (R : Rel F S σ H) (h : isMut i S = true) : ∃ l ds vs M, σ[i]? = some (some (.ref l)) ∧ listAt i S = some ds ∧ H l = some (.lst vs) ∧ RpAll F.cm F.K (vis F S σ H) vs ds ∧ Mir.live M H ∧ Same (vis F S σ H) (hid M H) ∧ Rp F.cm F.K (hid M H) (.ref l) (.lst ds) := by
  obtain ⟨l, vs, ds, hl, eh, r, hs⟩ := slot_mut R h
  have la : listAt i S = some ds := by
    unfold listAt
    rcases hs with hs | ⟨j, hs, _⟩ <;> rw [hs]
  have sm : Same (vis F S σ H) (hid ((F.M ++ locs S σ).filter (fun a => decide (a ≠ l))) H) := hid_sub fun a ha => (List.mem_filter.mp ha).1
  refine ⟨l, ds, vs, (F.M ++ locs S σ).filter (fun a => decide (a ≠ l)), hl, la, eh, r, fun m hm => R.live m (List.mem_filter.mp hm).1, sm, .lst ?_ (RpAll.mono sm r)⟩
  rw [hid_out fun z => ?_]
  · exact eh
  · have := (List.mem_filter.mp z).2
    simp at this

section
variable {X : Cx} {cm : Str → Addr} {W : WX} {a b e o : Expr} {es : List Expr} {ma mb : ME} {mr mk : MAv} {mrA : MA} {pos p : Pos} {kwl : List Keyword} {k n m : Nat} {f : Addr} {fd : FuncData} {ps ks : List Str} {Fn : List FA → RF} {x c nm : Str} {gV gW : List V → List V → List V} {arr : List AV → List AV → List AV}
def mIxS (i : Nat) (mi : ME) : ME := fun S => if isMut i S = true then (mi S).bind fun k S1 => (match listAt i S1 with
  | some ds => Rs.of (ixD (.lst ds) k) S1
  | none => .bad) else m2 ixD (mVar i) mi S
theorem var_read {F : Fm} {S : Sg} {σ : L2.St} {H : Hp} {β : Type} {R' : Rep β Dat} {i : Nat} {k : Dat → Sg → Rs Dat} {Q : β → Hp → Prop} (e1 : F.cm = cm) (e2 : F.K = X.K) (R : Rel F S σ H) (h : out F W σ (vis F S σ H) R' Q ((mVar i S).bind k)) {Q' : VK} (q : ∀ x H1 d S1, Rel F S1 σ H1 → Same (vis F S σ H) (vis F S1 σ H1) → Rp cm X.K (vis F S1 σ H1) x d → out F W σ (vis F S1 σ H1) R' Q (k d S1) → Q' x H1) : tVar i σ H Q' := by
  have key := tG_bind (m := mVar i) (R := rE cm X.K) e1 e2 R h q
  obtain ⟨F', S', a1, a2, a3, a4⟩ := key
  unfold mVar at a4
  cases hs : S'[i]? with
  | none => rw [hs] at a4; exact a4.elim
  | some s =>
    rw [hs] at a4
    have hl : i < σ.length := by rw [← a3.len]; exact (List.getElem?_eq_some_iff.mp hs).1
    have hv : σ[i]? = some σ[i] := List.getElem?_eq_getElem hl
    have sl := a3.sl i s _ hs hv
    generalize σ[i] = w at hv sl
    cases s with
    | no => exact a4.elim
    | own j u => exact a4.elim
    | dat d =>
      cases sl with
      | dat r => exact ⟨_, hv, a4 _ H a3 (Same.refl _) (by rw [← a1, ← a2]; exact r)⟩
    | loc ds =>
      obtain ⟨v, hv', q1, q2, q3⟩ : ∃ v, σ[i]? = some (some v) ∧ Rel F' (S'.set i (.dat (.lst ds))) σ H ∧ Same (vis F' S' σ H) (vis F' (S'.set i (.dat (.lst ds))) σ H) ∧ Rp F'.cm F'.K (vis F' (S'.set i (.dat (.lst ds))) σ H) v (.lst ds) := by
        cases sl with
        | loc eh r =>
          obtain ⟨z1, z2, z3⟩ := a3.freeze hs hv
          exact ⟨_, hv, z1, z2, z3⟩
      exact ⟨v, hv', a4 _ H q1 q2 (by rw [← a1, ← a2]; exact q3)⟩
theorem ge_ixS {i : Nat} (ho : PE X o (tVar i)) (hi : PE X e (tE cm X.K W ma)) (hm : PlainIx e) : PE X (.Subscript o e pos) (tE cm X.K W (mIxS i ma)) :=
  PE.weak (pe_ix (ix_list.or i_ix) ho hi hm) fun σ H Q ⟨F, S, e1, e2, R, h⟩ => by
    unfold mIxS at h
    by_cases hz : isMut i S = true
    · rw [if_pos hz] at h
      obtain ⟨l, ds, vs, M, hl, la, eh, r, _⟩ := R.peek hz
      refine ⟨_, hl, tG_bind e1 e2 R h fun y H1 k S1 R1 s1 p1 h1 => ?_⟩
      cases hd : listAt i S1 with
      | none => rw [hd] at h1; exact h1.elim
      | some ds1 =>
        rw [hd] at h1
        have hz1 : isMut i S1 = true := by
          unfold listAt at hd
          unfold isMut
          cases hs : S1[i]? with
          | none => rw [hs] at hd; cases hd
          | some s =>
            rw [hs] at hd
            cases s with
            | loc _ => rfl
            | own j u => cases u with
              | lst _ => rfl
              | obj _ _ => cases hd
            | _ => cases hd
        obtain ⟨l', ds', vs', M', hl', la', eh', r', _⟩ := R1.peek hz1
        rw [hl] at hl'; cases hl'
        rw [hd] at la'; cases la'
        obtain ⟨d, hx, hq⟩ := out_of R1 h1
        cases k with
        | int j =>
          cases p1
          obtain ⟨v, w1, w2⟩ := at_rp r' (show atI ds1 j = some d from hx)
          exact .inl ⟨l, vs', j, v, rfl, rfl, SqL.of eh', w1, hq v H1 (Same.refl _) (by rw [← e1, ← e2]; exact w2)⟩
        | _ => cases hx
    · rw [if_neg hz] at h
      exact var_read e1 e2 R h fun x H1 d S1 R1 s1 p1 h1 => tG_bind e1 e2 R1 h1 fun y H2 db S2 R2 s2 p2 h2 => by
        obtain ⟨c, e, q⟩ := out_of R2 h2
        exact .inr ⟨_, d, db, c, R2.live, p1.mono s2, p2, e, q⟩
/-- f(x), x an own list, the result a plain value -/
def mCallP (g : List Dat → Option Dat) (i : Nat) : ME := fun S => if isMut i S = true then (match listAt i S with
  | some ds => (match g [.lst ds] with
    | some d => if scal d = true then .ok d S else .bad
    | none => .bad)
  | none => .bad) else mCall g (mCons (mVar i) mNil) S
theorem peek_call {i : Nat} {g : List Dat → Option Dat} {σ : L2.St} {H : Hp} {Q : VK} (h : tE cm X.K W (mCallP g i) σ H Q) : tCons (tVar i) tNil σ H fun vs H1 => rDs cm X.K g vs H1 Q := by
  obtain ⟨F, S, e1, e2, R, h⟩ := h
  unfold mCallP at h
  by_cases hz : isMut i S = true
  · rw [if_pos hz] at h
    obtain ⟨l, ds, vs, M, hl, la, eh, r, lv, sm, pr⟩ := R.peek hz
    rw [la] at h
    dsimp only at h
    cases hg : g [.lst ds] with
    | none => rw [hg] at h; exact h.elim
    | some d =>
      rw [hg] at h
      dsimp only at h
      by_cases hs : scal d = true
      · rw [if_pos hs] at h
        exact ⟨_, hl, M, [.lst ds], d, lv, .cons (by rw [← e1, ← e2]; exact pr) .nil, hg, fun v H' s' rv => h v H' (R.grow s') (vis_grow s') (scal_rp hs rv)⟩
      · rw [if_neg hs] at h; exact h.elim
  · rw [if_neg hz] at h
    have h' : out F W σ (vis F S σ H) (rE cm X.K) Q ((mVar i S).bind fun d S1 => Rs.of (g [d]) S1) := by
      have z : mCall g (mCons (mVar i) mNil) S = (mVar i S).bind fun d S1 => Rs.of (g [d]) S1 := by
        unfold mCall mCons mNil
        cases mVar i S <;> rfl
      rw [z] at h; exact h
    exact var_read e1 e2 R h' fun x H1 d S1 R1 s1 p1 h1 => by
      obtain ⟨c, e, q⟩ := out_of R1 h1
      exact ⟨_, [d], c, R1.live, .cons p1 .nil, e, q⟩
theorem ge_callBP {i : Nat} {id : String} {g : List Dat → Option Dat} (hc : CallR X (.builtin id) (rDs cm X.K g)) (hg : Gl X x) (hm : X.mg x = none) (hv : bootBuiltins x = some (.builtin id)) (ho : PE X e (tVar i))
    (hn : x ≠ "__name__" := by decide) (hdb : (x == ("__debug__" : Str)) = false := by decide) (he : starEach [e] X.env = (false, eval e X.env) :: starEach [] X.env := by rfl) (hpl : (backTo pos (starEach [] X.env)).any (·.1) = false := by rfl) :
    PE X (.Call (.Name x p) [e] [] pos) (tE cm X.K W (mCallP g i)) :=
  PE.weak (pe_callB hc hg hm hv (pa_cons ho pa_nil he) hn hdb he hpl) fun σ H Q h => peek_call h
/-- x == e, x an own list -/
def mOpP (g : Dat → Dat → Option Dat) (i : Nat) (mb : ME) : ME := fun S => if isMut i S = true then (mb S).bind fun b S1 => (match listAt i S1 with
  | some ds => (match g (.lst ds) b with
    | some d => if scal d = true then .ok d S1 else .bad
    | none => .bad)
  | none => .bad) else m2 g (mVar i) mb S
theorem isMut_of {i : Nat} {S : Sg} {ds : List Dat} (hd : listAt i S = some ds) : isMut i S = true := by
  unfold listAt at hd
  unfold isMut
  cases hs : S[i]? with
  | none => rw [hs] at hd; cases hd
  | some s =>
    rw [hs] at hd
    cases s with
    | loc _ => rfl
    | own j u => cases u with
      | lst _ => rfl
      | obj _ _ => cases hd
    | _ => cases hd
theorem ge_cmpP {op} {i : Nat} {g : Dat → Dat → Option Dat} (oq : OpR X (compareOp op) (rD cm X.K g)) (ho : PE X o (tVar i)) (hb : PE X b (tE cm X.K W mb)) (hm : behindInMarks op b = false) : PE X (.Compare o [op] [b] pos) (tE cm X.K W (mOpP g i mb)) :=
  PE.weak (pe_cmpR oq ho hb hm) fun σ H Q ⟨F, S, e1, e2, R, h⟩ => by
    unfold mOpP at h
    by_cases hz : isMut i S = true
    · rw [if_pos hz] at h
      obtain ⟨l, ds, vs, M, hl, la, eh, r, _⟩ := R.peek hz
      refine ⟨_, hl, tG_bind e1 e2 R h fun y H1 db S1 R1 s1 p1 h1 => ?_⟩
      cases hd : listAt i S1 with
      | none => rw [hd] at h1; exact h1.elim
      | some ds1 =>
        rw [hd] at h1
        obtain ⟨l', ds', vs', M', hl', la', eh', r', lv, sm, pr⟩ := R1.peek (isMut_of hd)
        rw [hl] at hl'; cases hl'
        rw [hd] at la'; cases la'
        dsimp only at h1
        cases hg : g (.lst ds1) db with
        | none => rw [hg] at h1; exact h1.elim
        | some d =>
          rw [hg] at h1
          dsimp only at h1
          by_cases hs : scal d = true
          · rw [if_pos hs] at h1
            exact ⟨M', _, db, d, lv, by rw [← e1, ← e2]; exact pr, p1.mono (by rw [← e1, ← e2] at *; exact sm), hg, fun v H' s' rv => h1 v H' (R1.grow s') (vis_grow s') (scal_rp hs rv)⟩
          · rw [if_neg hs] at h1; exact h1.elim
    · rw [if_neg hz] at h
      exact var_read e1 e2 R h fun x H1 d S1 R1 s1 p1 h1 => tG_bind e1 e2 R1 h1 fun y H2 db S2 R2 s2 p2 h2 => by
        obtain ⟨c, e, q⟩ := out_of R2 h2
        exact ⟨_, d, db, c, R2.live, p1.mono s2, p2, e, q⟩
end
end Mir

/-! MirO: fresh lists; the law's end -/
namespace Mir
open PySem PySem.Spec PyProof.Rows L2

/-- a value that is a new list -/
def outL (F : Fm) (W : WX) (σ : L2.St) (G : Hp) (Q : VK) : Rs (List Dat) → Prop
  | .ok ds S => ∀ l xs H, Rel F S σ H → Same G (vis F S σ H) → H l = none → RpAll F.cm F.K (vis F S σ H) xs ds → Q (.ref l) (upd H l (.lst xs))
  | .exc c fs S => outX F W σ G c fs S
  | .bad => False
def tL (cm : Str → Addr) (K : PySem.W.Frag) (W : WX) (m : Sg → Rs (List Dat)) : TE := fun σ H Q => ∃ F S, F.cm = cm ∧ F.K = K ∧ Rel F S σ H ∧ outL F W σ (vis F S σ H) Q (m S)
theorem outL_same {F : Fm} {W : WX} {σ : L2.St} {G G' : Hp} {Q : VK} {r : Rs (List Dat)} (e : Same G G') (h : outL F W σ G Q r) : outL F W σ G' Q r := by
  cases r with
  | ok a S => exact fun l xs H a b c d => h l xs H a (e.trans b) c d
  | exc c fs S => exact fun da gs H a b c d => h da gs H a (e.trans b) c d
  | bad => exact h
theorem tG_bindL {β α : Type} {cm : Str → Addr} {K : PySem.W.Frag} {W : WX} {R : Rep β α} {m : Sg → Rs α} {k : α → Sg → Rs (List Dat)} {σ : L2.St} {H : Hp} {Q : VK} {Q' : β → Hp → Prop} {F : Fm} {S : Sg}
    (e1 : F.cm = cm) (e2 : F.K = K) (r : Rel F S σ H) (h : outL F W σ (vis F S σ H) Q ((m S).bind k))
    (q : ∀ x H1 a S1, Rel F S1 σ H1 → Same (vis F S σ H) (vis F S1 σ H1) → R σ (vis F S1 σ H1) x a → outL F W σ (vis F S1 σ H1) Q (k a S1) → Q' x H1) : tG cm K W R m σ H Q' := by
  refine ⟨F, S, e1, e2, r, ?_⟩
  cases hm : m S with
  | ok a S1 => rw [hm] at h; exact fun v H1 a1 a2 a3 => q v H1 a S1 a1 a2 a3 (outL_same a2 h)
  | exc c fs S1 => rw [hm] at h; exact h
  | bad => rw [hm] at h; exact h
section
variable {X : Cx} {cm : Str → Addr} {W : WX} {a b e o : Expr} {es : List Expr} {ma mb : ME} {mr mk : MAv} {mrA : MA} {mL : Sg → Rs (List Dat)} {pos p : Pos} {k n m : Nat} {f : Addr} {fd : FuncData} {ps ks : List Str} {Fn : List FA → RF} {x c nm : Str} {gV gW : List V → List V → List V} {arr : List AV → List AV → List AV}
/-- [e, ..] -/
def lLst (m : MA) : Sg → Rs (List Dat) := fun S => (m S).bind fun ds S1 => if ds.length ≤ lim then .ok ds S1 else .bad
theorem gl_lst (ha : PA X es (tA cm X.K W mrA)) : PE X (.List es pos) (tL cm X.K W (lLst mrA)) :=
  PE.weak (pe_lst ha) fun σ H Q ⟨F, S, e1, e2, R, h⟩ => tG_bindL e1 e2 R h fun xs H1 ds S1 R1 s1 p1 h1 => by
    by_cases hl : ds.length ≤ lim
    · rw [if_pos hl] at h1
      exact ⟨by rw [RpAll.length p1]; exact lim_line hl, fun q hq => h1 q xs H1 R1 (Same.refl _) hq (by rw [e1, e2]; exact p1)⟩
    · rw [if_neg hl] at h1; exact h1.elim
/-- list(e) -/
def lList (m : ME) : Sg → Rs (List Dat) := fun S => (m S).bind fun d S1 => match d with
  | .lst ds => .ok ds S1
  | .tup ds => .ok ds S1
  | .ro ds => .ok ds S1
  | _ => .bad
theorem gl_list (hg : Gl X "list") (hm : X.mg "list" = none) (he : PE X e (tE cm X.K W ma)) (na : starEach [e] X.env = (false, eval e X.env) :: starEach [] X.env := by rfl) (hpl : (backTo pos (starEach [] X.env)).any (·.1) = false := by rfl) (hv : bootBuiltins ("list" : Str) = some (.type "list") := by decide +kernel) :
    PE X (.Call (.Name "list" p) [e] [] pos) (tL cm X.K W (lList ma)) :=
  PE.weak (pe_callTy call_list_of hg hm hv (pa_cons he pa_nil na) (by decide) (by decide) na hpl) fun σ H Q ⟨F, S, e1, e2, R, h⟩ => tG_bindL e1 e2 R h fun x H1 d S1 R1 s1 p1 h1 => by
    cases p1 with
    | lst ha ra => exact ⟨_, _, rfl, .inl (SqL.of (hid_le _ _ ha)), fun l hl => h1 l _ H1 R1 (Same.refl _) hl (by rw [e1, e2]; exact ra)⟩
    | ro ha ra => exact ⟨_, _, rfl, .inl (Same.seq hid_le ha), fun l hl => h1 l _ H1 R1 (Same.refl _) hl (by rw [e1, e2]; exact ra)⟩
    | tup ha ra => exact ⟨_, _, rfl, .inr (sqT_same hid_le ha), fun l hl => h1 l _ H1 R1 (Same.refl _) hl (by rw [e1, e2]; exact ra)⟩
    | _ => exact False.elim h1
/-- x = a new list: the def's own -/
def mSetF (i : Nat) (mL : Sg → Rs (List Dat)) : MS := fun S => (mL S).bind fun ds S1 => .ok .nx (S1.set i (.loc ds))
theorem gs_setF {i : Nat} {pos' : Pos} (hN : X.N.Nodup) (hi : X.N[i]? = some x) (hx : L2.Loc X.env.scope x) (he : PE X e (tL cm X.K W mL)) (hs : swapsWith e (some (.Name x pos')) pos.line X.env = pure false := by rfl)
    (hf : X.fn x = true ∨ X.env.scope.names.lookup x = some .local := by first | exact .inl rfl | exact .inr rfl | assumption) : PS X (.Assign [.Name x pos'] e pos) (tS cm X.K W (mSetF i mL)) :=
  PS.weak (ps_set hN hi hx he hs hf) fun D σ H ⟨F, S, e1, e2, R, h⟩ => by
    refine ⟨F, S, e1, e2, R, ?_⟩
    unfold mSetF at h
    cases hm : mL S with
    | bad => rw [hm] at h; exact h
    | exc c fs S1 => rw [hm] at h; exact h σ
    | ok ds S1 =>
      rw [hm] at h
      intro l xs H1 R1 s1 hl rx
      obtain ⟨R', s'⟩ := R1.newLoc (i := i) (ds := ds) hl rx
      exact h _ _ R' (s1.trans s')

/-! ### a def that gives a new list -/
def outSL (F : Fm) (W : WX) (G : Hp) (D : Ends) : Rs (List Dat) → Prop
  | .ok ds S => ∀ l xs σ H, Rel F S σ H → Same G (vis F S σ H) → H l = none → RpAll F.cm F.K (vis F S σ H) xs ds → D.rt (.ref l) (upd H l (.lst xs))
  | _ => False
def tSL (cm : Str → Addr) (K : PySem.W.Frag) (W : WX) (m : Sg → Rs (List Dat)) : TS := fun D σ H => ∃ F S, F.cm = cm ∧ F.K = K ∧ Rel F S σ H ∧ outSL F W (vis F S σ H) D (m S)
theorem gs_retL (he : PE X e (tL cm X.K W mL)) : PS X (.Return (some e) pos) (tSL cm X.K W mL) :=
  PS.weak (ps_ret he) fun D σ H ⟨F, S, e1, e2, R, h⟩ => by
    refine ⟨F, S, e1, e2, R, ?_⟩
    cases hm : mL S with
    | bad => rw [hm] at h; exact h
    | exc c fs S1 => rw [hm] at h; exact False.elim h
    | ok ds S1 =>
      rw [hm] at h
      exact fun l xs H1 R1 s1 hl rx => h l xs σ H1 R1 s1 hl rx
def mSeqL (s : MS) (m : Sg → Rs (List Dat)) : Sg → Rs (List Dat) := fun S => match s S with
  | .ok .nx S1 => m S1
  | _ => .bad
theorem gs_oneL {st : Stmt} (h : PS X st (tSL cm X.K W mL)) : PSs X [st] (tSL cm X.K W mL) := pss_one h
theorem gs_consL {st : Stmt} {sts : List Stmt} {s1 : MS} (h1 : PS X st (tS cm X.K W s1)) (h2 : PSs X sts (tSL cm X.K W mL)) : PSs X (st :: sts) (tSL cm X.K W (mSeqL s1 mL)) :=
  PSs.weak (pss_cons h1 h2) fun D σ H ⟨F, S, e1, e2, R, h⟩ => ⟨F, S, e1, e2, R, by
    unfold mSeqL at h
    cases hm : s1 S with
    | bad => rw [hm] at h; exact h.elim
    | exc c fs S1 => rw [hm] at h; exact h.elim
    | ok f S1 =>
      rw [hm] at h
      cases f with
      | nx => exact fun σ' H' R' s' => ⟨F, S1, e1, e2, R', by
          have h : outSL F W (vis F S σ H) D (mL S1) := h
          cases hm2 : mL S1 with
          | bad => rw [hm2] at h; exact h.elim
          | exc c fs S2 => rw [hm2] at h; exact h.elim
          | ok ds S2 => rw [hm2] at h; exact fun l xs σ2 H2 R2 s2 => h l xs σ2 H2 R2 (s'.trans s2)⟩
      | _ => exact h.elim⟩
/-- the promise: a new list -/
def spL (cm : Str → Addr) (K : PySem.W.Frag) (L : List Dat → Option (List Dat)) : Sp := fun vs H Q E => ∃ M as ds, live M H ∧ RpAll cm K (hid M H) vs as ∧ L as = some ds ∧ ∀ l xs H1, Same H H1 → H1 l = none → RpAll cm K (hid M H1) xs ds → Q (.ref l) (upd H1 l (.lst xs))
def runL (np n : Nat) (m : Sg → Rs (List Dat)) (as : List Dat) : Option (List Dat) := if as.length = np then (match m (as.map Slot.dat ++ List.replicate (n - np) .no) with
  | .ok ds _ => some ds
  | _ => none) else none
end
theorem slots_dats : ∀ (j : Nat) (as : List Dat), mkSlots j (as.map FA.dat) = as.map Slot.dat
  | _, [] => rfl
  | j, d :: r => congrArg (Slot.dat d :: ·) (slots_dats j r)
section
variable {P : Program} {w : World} {K : PySem.W.Frag} {mg : Str → Option Value} {base : Heap} {cm : Str → Addr}
theorem rel_start {M : List Addr} {as : List Dat} {vs : List V} {H : Hp} {N : List Str} {n np : Nat} (hn : N.length = n) (hla : as.length = np) (lv : live M H) (ao : RpAll cm K (hid M H) vs as) : Rel ⟨cm, K, M, H, [], []⟩ (as.map Slot.dat ++ List.replicate (n - np) .no) (L2.start N vs) H := by
  have lc : ∀ σ : L2.St, locs (as.map Slot.dat ++ List.replicate (n - np) .no) σ = [] := locs_none fun s hs => by
    rcases List.mem_append.mp hs with h | h
    · obtain ⟨d, _, rfl⟩ := List.mem_map.mp h; rfl
    · rw [(List.mem_replicate.mp h).2]; rfl
  have eV : vis ⟨cm, K, M, H, [], []⟩ (as.map Slot.dat ++ List.replicate (n - np) .no) (L2.start N vs) H = hid M H := by
    unfold vis; rw [lc, List.append_nil]
  have hlv := RpAll.length ao
  refine ⟨?_, fun i s v a b => ?_, ?_, fun l h => ?_, ?_, List.nodup_nil, fun l h => (by cases h), lv, fun l h => ?_, fun p h => (by cases h), fun a o q _ => q⟩
  · unfold L2.start
    rw [List.length_append, List.length_append, List.length_map, List.length_map, List.length_replicate, List.length_replicate, hn, hlv, hla]
  · rw [eV]
    unfold L2.start at b
    by_cases hi : i < as.length
    · have hi' : i < vs.length := by rw [hlv]; exact hi
      rw [List.getElem?_append_left (by rw [List.length_map]; exact hi), List.getElem?_map, List.getElem?_eq_getElem hi] at a
      rw [List.getElem?_append_left (by rw [List.length_map]; exact hi'), List.getElem?_map, List.getElem?_eq_getElem hi'] at b
      cases a
      cases b
      obtain ⟨v', z1, z2⟩ := RpAll.get ao (List.getElem?_eq_getElem hi)
      rw [List.getElem?_eq_getElem hi'] at z1
      cases z1
      exact .dat z2
    · rw [List.getElem?_append_right (by rw [List.length_map]; omega), List.getElem?_replicate] at a
      split at a
      · cases a; exact .no
      · cases a
  · rw [lc]; exact List.nodup_nil
  · rw [lc] at h; cases h
  · rw [owns_append, owns_no, List.append_nil]
    have := mkSlots_nd 0 (as.map FA.dat)
    rw [slots_dats] at this
    exact this
  · rw [lc] at h; cases h
theorem fnL_of {x qual : Str} {params : Arguments} {body : List Stmt} {scope : Scope} {dvs : List V} {kws : List (Str × V)} {f : Addr} {fd : FuncData} {N ps : List Str} {k n np : Nat} {m : Sg → Rs (List Dat)} (F : FunD K x qual params body scope dvs kws f fd) (S : FnScope N ps scope) (hn : N.length = n) (hp : ps.length = np)
    (hbody : ∀ (cdv : Value) (A : Around) (outer : List Env) (s : Shared) (H : Hp) (E : XK), Room k (A.deeper (envOfC qual scope s.heap.objs.size f cdv)) → (A.deeper (envOfC qual scope s.heap.objs.size f cdv)).guards = some [] →
      PSs (cxOf (L2.CX P w) P w K mg base N qual scope f cdv A outer s H E) body (tSL cm K (fun cls d _ H' => E cls d H') m)) : FnG P w K mg base (L2.CX P w) (k + 1) f fd ps (spL cm K (runL np n m)) := by
  have len : ∀ vs H Q E, spL cm K (runL np n m) vs H Q E → vs.length = ps.length := fun vs H Q E ⟨M, as, ds, _, a, o, _⟩ => by
    unfold runL at o
    by_cases hl : as.length = np
    · rw [RpAll.length a, hl, hp]
    · rw [if_neg hl] at o; cases o
  obtain ⟨oc, od, dV, kV, doc, pm, an, cdv, ct, osl, rfl, lk, hcd, _, _⟩ := F.ex
  refine ⟨len, fun A outer s H args us vs Q E hr hg e0 hb r hsp => ?_⟩
  have hl := len _ _ _ _ hsp
  have KX : K.In s.heap := e0.mod.kin.keeps fun b o e => (e0.bs b o e).1
  have lim0 : s.heap.NoLimit := e0.mod.nolimit.keeps fun b o e => (e0.bs b o e).1
  refine codeAny_call_function hr.depth (KX _ _ lk) rfl S.co S.gen rfl (PySem.W.codeRec_of KX hcd) (hb _ _ _ _ (wpAny_newFunctionEnv_cells S.kind (fun ⟨nm, v⟩ hy => ?_) fun env he s1 y => ?_))
  · rcases S.par nm (List.of_mem_zip hy).1 with q | q
    · exact Or.inl q
    · exact Or.inr ⟨q, PySem.W.cellsFrom_some _ _ _ (Or.inl q)⟩
  · subst he
    refine ⟨lim0.keeps y.toInCall.keep, codeAny_func ?_⟩
    have I : L2.Inv (cxOf (L2.CX P w) P w K mg base N qual scope f cdv A outer s H E) [] (L2.start N vs) H s1 := inv_start S hr.hd e0 hl r y
    have ht := hbody cdv A outer s H E (hr.deeper _) (guards_deeper hg)
    obtain ⟨M, as, ds, lv, ao, hL, hq⟩ := hsp
    have hla : as.length = np := by rw [← RpAll.length ao, hl, hp]
    unfold runL at hL
    rw [if_pos hla] at hL
    have ha : tSL cm K (fun cls d _ H' => E cls d H') m { nx := fun _ H' => Q .non H', rt := Q } (L2.start N vs) H := by
      refine ⟨⟨cm, K, M, H, [], []⟩, _, rfl, rfl, rel_start hn hla lv ao, ?_⟩
      cases hm : m (as.map Slot.dat ++ List.replicate (n - np) .no) with
      | bad => rw [hm] at hL; cases hL
      | exc c fs S' => rw [hm] at hL; cases hL
      | ok ds' S' =>
        rw [hm] at hL
        cases hL
        intro l xs σ1 H1 R1 s1 hl rx
        exact hq l xs H1 (fun a o q => R1.keep a o q (by simp)) hl (RpAll.mono (hid_sub fun a h => List.mem_append_left _ h) rx)
    refine wpAny_mono (ht.run [] s1 (L2.start N vs) H _ I ha) (fun fl s' hs => ?_) fun e s' hs => hs
    cases fl with
    | ret u => obtain ⟨v, σ', H', J, rv, q⟩ := hs; exact ⟨v, H', J.os, J.bare, J.base, J.hok, rv, q⟩
    | next => obtain ⟨σ', H', J, q⟩ := hs; exact ⟨V.non, H', J.os, J.bare, J.base, J.hok, (rfl : Value.none = Value.none), q⟩
    | brk => obtain ⟨_, _, _, q⟩ := hs; exact q.elim
    | cont => obtain ⟨_, _, _, q⟩ := hs; exact q.elim
end

/-! ### its call, and the new list lent at once -/
def datsA : List AV → Option (List Dat)
  | [] => some []
  | .dat d :: r => (datsA r).map (d :: ·)
  | _ => none
theorem datsA_ok {cm : Str → Addr} {K : PySem.W.Frag} {σ : L2.St} {G : Hp} : ∀ {vs : List V} {as : List AV} {ds : List Dat}, AvsOk cm K σ G vs as → datsA as = some ds → RpAll cm K G vs ds
  | _, _, _, .nil, h => by cases h; exact .nil
  | _, _, _, .dat (as := as) a b, h => by
    unfold datsA at h
    cases hd : datsA as with
    | none => rw [hd] at h; cases h
    | some r => rw [hd] at h; cases h; exact .cons a (datsA_ok b hd)
  | _, _, _, .slot a b, h => by cases h
section
variable {X : Cx} {cm : Str → Addr} {W : WX} {a b e o : Expr} {es : List Expr} {ma mb : ME} {mr mk : MAv} {mrA : MA} {mL : Sg → Rs (List Dat)} {pos p : Pos} {k n m : Nat} {f : Addr} {fd : FuncData} {ps ks : List Str} {Fn : List FA → RF} {L : List Dat → Option (List Dat)} {x c nm : Str} {gV gW : List V → List V → List V} {arr : List AV → List AV → List AV}
def lCall (L : List Dat → Option (List Dat)) (n : Nat) (mr : MAv) : Sg → Rs (List Dat) := fun S => (mr S).bind fun as S1 => if as.length = n then (match datsA as with
  | some ds => Rs.of (L ds) S1
  | none => .bad) else .bad
theorem gl_call (Fk : FnG X.prog X.w X.K X.mg X.base (L2.CX X.prog X.w) k f fd ps (spL cm X.K L)) (hr : Room k X.A) (hgd : X.A.guards = some []) (tk : Takes X W) (hg : Gl X x) (hm : X.mg x = some (.ref f)) (hk : PySem.W.keepIn X.K (.ref f) = true) (hb : ∃ g, KBn X.K fd ps n [] g (fun vs _ => vs))
    (ha : PA X (e :: es) (tAv cm X.K W mr)) (hdb : (x == ("__debug__" : Str)) = false := by decide) (he : starEach (e :: es) X.env = (false, eval e X.env) :: starEach es X.env := by rfl) (hpl : (backTo pos (starEach es X.env)).any (·.1) = false := by rfl) :
    PE X (.Call (.Name x p) (e :: es) [] pos) (tL cm X.K W (lCall L n mr)) := by
  obtain ⟨g, hb⟩ := hb
  refine ⟨fun pins s σ H Q I ⟨F, S, e1, e2, R, h⟩ => wpAny_Call_Name_kw (ld_glob I hg hm (PySem.W.callWith_K (h₀ := X.base) I.ok.mod.kin hk (thn (ha.run pos pins s σ H (fun vs H1 => ∃ as S1 ds es, Rel F S1 σ H1 ∧ as.length = n ∧ AvsOk cm X.K σ (vis F S1 σ H1) vs as ∧ datsA as = some ds ∧ L ds = some es ∧ outL F W σ (vis F S1 σ H1) Q (.ok es S1)) I
      (tG_bindL e1 e2 R h fun vs H1 as S1 R1 s1 p1 h1 => ?_)) fun us s1 ⟨vs, H1, I1, r, as, S1, ds, es', R1, hl, p1, hd, hL, h1⟩ => ⟨I1.kIn, ?_⟩) he hpl) hdb)⟩
  · by_cases hz : as.length = n
    · rw [if_pos hz] at h1
      cases hd : datsA as with
      | none => rw [hd] at h1; exact h1.elim
      | some ds =>
        rw [hd] at h1
        dsimp only at h1
        cases hL : L ds with
        | none => rw [hL] at h1; exact h1.elim
        | some es' => rw [hL] at h1; exact ⟨as, S1, ds, es', R1, hz, p1, hd, hL, h1⟩
    · rw [if_neg hz] at h1; exact h1.elim
  · have lv : vs.length = n := by rw [AvsOk.length p1]; exact hl
    refine run_g (us := us) (kw := []) Fk hr hgd tk I1 (hb.to s1 us [] I1.kIn (by rw [← r.length]; exact lv) rfl) (hb.rel r .nil) ⟨F.M ++ locs S1 σ, ds, es', R1.live, datsA_ok p1 hd, hL, fun l xs H2 s2 hl2 rx => ?_⟩
    exact h1 l xs H2 (R1.grow s2) (vis_grow s2) hl2 (by rw [e1, e2]; exact rx)
/-- f(new list), the list lent -/
def mLend (Fn : List FA → RF) (mL : Sg → Rs (List Dat)) : ME := fun S => (mL S).bind fun ds S1 => match Fn [.own (.lst ds)] with
  | .ok d [_] => .ok d S1
  | .exc c es [_] => .exc c es S1
  | _ => .bad
theorem ge_lend (Fk : FnG X.prog X.w X.K X.mg X.base (L2.CX X.prog X.w) k f fd ps (spF cm X.K Fn)) (hr : Room k X.A) (hgd : X.A.guards = some []) (tk : Takes X W) (hg : Gl X x) (hm : X.mg x = some (.ref f)) (hk : PySem.W.keepIn X.K (.ref f) = true) (hb : ∃ g, KBn X.K fd ps 1 [] g (fun vs _ => vs))
    (ha : PE X e (tL cm X.K W mL)) (hdb : (x == ("__debug__" : Str)) = false := by decide) (he : starEach [e] X.env = (false, eval e X.env) :: starEach [] X.env := by rfl) (hpl : (backTo pos (starEach [] X.env)).any (·.1) = false := by rfl) :
    PE X (.Call (.Name x p) [e] [] pos) (tE cm X.K W (mLend Fn mL)) := by
  obtain ⟨g, hb⟩ := hb
  refine ⟨fun pins s σ H Q I ⟨F, S, e1, e2, R, h⟩ => wpAny_Call_Name_kw (ld_glob I hg hm (PySem.W.callWith_K (h₀ := X.base) I.ok.mod.kin hk (thn ((pa_cons ha pa_nil he).run pos pins s σ H (fun vs H1 => ∃ l xs ds S1 H0, vs = [.ref l] ∧ H1 = upd H0 l (.lst xs) ∧ H0 l = none ∧ Rel F S1 σ H0 ∧ RpAll F.cm F.K (vis F S1 σ H0) xs ds ∧ out F W σ (vis F S1 σ H0) (rE cm X.K) Q (match Fn [.own (.lst ds)] with
      | .ok d [_] => .ok d S1
      | .exc c es [_] => .exc c es S1
      | _ => .bad)) I ?_) fun us s1 ⟨vs, H1, I1, r, l, xs, ds, S1, H0, ev, eH, hl, R1, p1, h1⟩ => ⟨I1.kIn, ?_⟩) he hpl) hdb)⟩
  · refine ⟨F, S, e1, e2, R, ?_⟩
    unfold mLend at h
    cases hm : mL S with
    | bad => rw [hm] at h; exact h
    | exc c fs S1 => rw [hm] at h; exact h
    | ok ds S1 =>
      rw [hm] at h
      intro l xs H1 R1 s1 hl rx
      exact ⟨l, xs, ds, S1, H1, rfl, rfl, hl, R1, rx, out_same s1 h⟩
  · subst ev
    subst eH
    have sn : Same H0 (upd H0 l (.lst xs)) := same_new hl
    have lv : live (l :: (F.M ++ locs S1 σ)) (upd H0 l (.lst xs)) := fun m hm => by
      rcases List.mem_cons.mp hm with e | e
      · rw [e, upd_same]; simp
      · exact upd_some (R1.hlive e)
    have gM : Same (vis F S1 σ H0) (hid (l :: (F.M ++ locs S1 σ)) (upd H0 l (.lst xs))) := fun a o q => by
      unfold vis at q
      by_cases ha : a ∈ F.M ++ locs S1 σ
      · rw [hid_in ha] at q; cases q
      · rw [hid_out ha] at q
        have hax : a ≠ l := ne_of_none q hl
        rw [hid_out fun z => (List.mem_cons.mp z).elim hax ha]
        exact sn a o q
    have keepH : ∀ {H' : Hp}, (∀ a o, (upd H0 l (.lst xs)) a = some o → a ∉ [l] → H' a = some o) → Same H0 H' := fun kp a o q => kp a o (sn a o q) fun z => ne_of_none q hl (List.mem_singleton.mp z)
    refine run_g (us := us) (kw := []) Fk hr hgd tk I1 (hb.to s1 us [] I1.kIn (by rw [← r.length]; rfl) rfl) (hb.rel r .nil) ⟨l :: (F.M ++ locs S1 σ), [.own (.lst ds)], [l], lv, fun y hy => by rw [List.mem_singleton.mp hy]; exact List.mem_cons_self .., List.nodup_cons.mpr ⟨by simp, List.nodup_nil⟩, .own (.lst upd_same (by rw [← e1, ← e2]; exact RpAll.mono gM p1)) .nil, ?_⟩
    cases hF : Fn [.own (.lst ds)] with
    | bad => rw [hF] at h1; exact h1
    | ok d outs =>
      rw [hF] at h1
      intro v H' kp oo rv
      cases outs with
      | nil => cases oo
      | cons o1 rr =>
        cases rr with
        | cons _ _ => exact h1.elim
        | nil =>
          have sm := keepH kp
          exact h1 v H' (R1.grow sm) (vis_grow sm) (rv.mono (hid_sub fun a ha => List.mem_cons_of_mem _ ha))
    | exc c' es' outs =>
      rw [hF] at h1
      intro da gs H' kp oo hda rg
      cases outs with
      | nil => cases oo
      | cons o1 rr =>
        cases rr with
        | cons _ _ => exact h1.elim
        | nil =>
          have sm := keepH kp
          have z := h1 da gs H' (R1.grow sm) (vis_grow sm) hda (by rw [e1, e2]; exact rg.mono (hid_sub fun a ha => List.mem_cons_of_mem _ ha))
          rw [e1] at z
          exact z
end

/-! ### the end -/
theorem head_call {P : Program} {w : World} {K : PySem.W.Frag} {mg mb : Str → Option Value} {k : Nat} {fa a : Addr} {fd : FuncData} {x : Str} {sp : Sp} {s₁ : Shared} {vs : List Value} {ns : List Int}
    (kin : K.In s₁.heap) (gns : s₁.heap.Ns mainGlobals mg) (bns : s₁.heap.Ns builtinsNs mb) (bfix : ∀ y : Str, y ≠ "__name__" → mb y = bootBuiltins y) (nol : s₁.heap.NoLimit) (gen0 : s₁.gens = #[])
    (at_ : s₁.heap.get? a = some { cls := .type "list", data := .seq vs.toArray }) (hin : IntsAre vs ns) (short : ns.length ≤ sizeLine) (room : Room k callerA)
    (FF : ∀ base : Heap, K.In base → base.Ns mainGlobals mg → FnG P w K mg base (L2.CX P w) k fa fd [x] sp) (bnd : ∀ (s : Shared) (u : Value), BindsTo s fd ⟨[u], []⟩ [(x, u)])
    (good : ∀ H : Hp, Only H → SqL K H a (ns.map V.int) → sp [.ref a] H (fun v _ => v = .bl true) fun _ _ _ => False) :
    codeAny (model P w) callerA (.call (.ref fa) ⟨[.ref a], []⟩) (fun r s' => r = .ok (.ret (.bool true)) ∧ OldK s₁.heap s'.heap ∧ s'.os = s₁.os ∧ AllBare s'.gens) s₁ := by
  have vi := vals_ints hin
  have li := hin.length
  have main : ∀ H : Hp, Only H → SqL K H a (ns.map V.int) → HOk P w H s₁.heap → (∀ y, H y ≠ none → y = a) → (H a ≠ none → K.lookup a = none) →
      codeAny (model P w) callerA (.call (.ref fa) ⟨[.ref a], []⟩) (fun r s' => r = .ok (.ret (.bool true)) ∧ OldK s₁.heap s'.heap ∧ s'.os = s₁.os ∧ AllBare s'.gens) s₁ := fun H only sq hok sole offK => by
    have dictN : ∀ {y : Addr} {o : Obj} {es : Array DictEntry} {ep : Nat}, s₁.heap.get? y = some o → o.data = .dict es ep → H y = none := fun {y o es ep} q1 q2 => by
      cases hq : H y with
      | none => rfl
      | some u =>
        have hy : y = a := sole y (by rw [hq]; simp)
        subst hy
        rw [at_] at q1
        cases q1
        cases (show Data.seq vs.toArray _ = Data.dict es ep from q2)
    have nsH : ∀ {y : Addr} {m : Str → Option Value}, s₁.heap.Ns y m → (hidT s₁.heap H).Ns y m := fun {y m} ⟨o, es, ep, q1, q2, q3⟩ => ⟨o, es, ep, hidT_get q1 (dictN q1 q2), q2, q3⟩
    have kinH : K.In (hidT s₁.heap H) := fun y o q1 => hidT_get (kin y o q1) (by
      cases hq : H y with
      | none => rfl
      | some u =>
        have hy : y = a := sole y (by rw [hq]; simp)
        subst hy
        rw [offK (by rw [hq]; simp)] at q1
        cases q1)
    have modH : Mod K mg (hidT s₁.heap H) := ⟨kinH, nsH gns, ⟨mb, nsH bns, bfix⟩, let ⟨mc, z1, z2⟩ := nol; ⟨mc, nsH z1, z2⟩⟩
    have env : Env0 P w K mg (hidT s₁.heap H) callerA [] s₁ H := ⟨rfl, modH, fun y o q1 => of_hidT q1, Nat.le_of_eq (hidT_size _ _), trivial, fun y hy => (by cases (show y ∈ ([] : List Addr) from hy)), hok, .of_eq gen0⟩
    refine codeAny_mono ((FF _ kinH (nsH gns)).run callerA [] s₁ H ⟨[.ref a], []⟩ [.ref a] [.ref a] _ _ room rfl env (bnd s₁ (.ref a)) (.cons rfl .nil) (good H only sq)) fun r s' z => ?_
    rcases r with er | fl
    · obtain ⟨_, _, _, _, _, _, _, _, _, _, _, _, y⟩ := z
      exact y.elim
    · rcases fl with _ | _ | _ | u
      · exact False.elim z
      · exact False.elim z
      · exact False.elim z
      · obtain ⟨v, H', z1, z2, un, hok', z3, z4⟩ := z
        obtain rfl : v = .bl true := z4
        obtain rfl : u = Value.bool true := z3
        refine ⟨rfl, OldK.of_keep fun y o q1 => ?_, z1, z2⟩
        cases hq : H y with
        | none => exact un.keep y o q1 hq (fun z => by cases (show y ∈ ([] : List Addr) from z)) (by simp)
        | some u =>
          rcases only y with q2 | ⟨ob, xs, q2⟩
          · rw [hq] at q2; cases q2
          · obtain ⟨w1, _⟩ := hok y _ q2
            obtain ⟨w2, _⟩ := hok' y _ (un.frzs y ob _ q2)
            rw [q1] at w1
            cases w1
            exact w2
  cases look : K.lookup a with
  | some o =>
    have q1 := kin a o look
    rw [at_] at q1
    cases q1
    refine main (fun _ => none) (fun _ => .inl rfl) (.inr ⟨_, vs.toArray, _, look, rfl, rfl, rfl, by rw [List.size_toArray, li]; exact short, by simpa using vi⟩) (fun y u q => by cases (show (none : Option HO) = some u from q)) (fun y q => absurd rfl q) fun q => absurd rfl q
  | none =>
    refine main (fun y => if y = a then some (.frz { cls := .type "list", data := .seq vs.toArray } (.lst (ns.map V.int))) else none) (fun y => ?_) (.inl (.inr ⟨{ cls := .type "list", data := .seq vs.toArray }, if_pos rfl⟩)) (fun y u q => ?_) (fun y q => ?_) fun _ => look
    · by_cases hy : y = a
      · exact .inr ⟨_, _, if_pos hy⟩
      · exact .inl (if_neg hy)
    · by_cases hy : y = a
      · cases (if_pos hy).symm.trans q
        subst hy
        exact ⟨at_, by rw [List.length_map]; exact short, vs, _, vi, at_⟩
      · cases (if_neg hy).symm.trans q
    · by_cases hy : y = a
      · exact hy
      · exact absurd (if_neg hy) q
theorem ro_ints {cm : Str → Addr} {K : PySem.W.Frag} {G : Hp} : ∀ ns : List Int, RpAll cm K G (ns.map V.int) (ns.map Dat.int)
  | [] => .nil
  | n :: r => .cons (.int n) (ro_ints r)
theorem end_of {l : PySem.W.OpenLaw} {n k : Nat} {q : Program} {loose : List Str} {XP : (Str → Option Value) → Heap → Prop} {YP : World → Heap → Prop} {d : DefRec} {K : Params → PySem.W.Frag} {x : Str} {Fn : List FA → RF}
    (hn : l.most = some n) (hn2 : n ≤ sizeLine) (hdf : d.params.defaults = []) (hr : Room k callerA)
    (hY : ∀ (w : World) (h : Heap), YP w h → (K w.params).In h)
    (F : ∀ (w : World) (mg : Str → Option Value) (fa : Addr) (h : Heap), (K w.params).In h → h.Ns mainGlobals mg → mg d.name = some (.ref fa) →
      ∃ (fd : FuncData) (cm : Str → Addr), (∀ (s : Shared) (u : Value), BindsTo s fd ⟨[u], []⟩ [(x, u)]) ∧
        ∀ base : Heap, (K w.params).In base → base.Ns mainGlobals mg → FnG l.prog w (K w.params) mg base (L2.CX l.prog w) k fa fd [x] (spF cm (K w.params) Fn))
    (good : ∀ ns : List Int, ns.length ≤ n → Fn [.dat (.ro (ns.map .int))] = .ok (.bl true) []) :
    PySem.W.WalkO q loose XP YP l.row.toRowW d [] (fun f vs => PySem.call f vs) := by
  refine Att.attach_call hn hdf fun w s₀ s₁ mg mb fa o pm cd doc a vs ns G Y ho hd hcd hmg hobj hints hlen hg => ?_
  have KX := hY w _ Y
  obtain ⟨fd, cm, hb, hF⟩ := F w mg fa _ KX G.T.g hmg
  refine head_call KX G.T.g G.T.b G.T.builtins G.T.nolimit hg hobj hints (Nat.le_trans hlen hn2) hr hF hb fun H hO hS => ?_
  have e0 : hid [] H = H := by
    funext y
    exact hid_out (by simp)
  refine ⟨[], [.dat (.ro (ns.map .int))], [], fun m hm => (by cases hm), by simp, List.nodup_nil, .dat (.ro (by rw [e0]; exact hS) (ro_ints ns)) .nil, ?_⟩
  rw [good ns hlen]
  intro v H' _ _ rv
  cases rv
  rfl
end Mir

/-! MirP: what the top has written, by names -/
namespace Mir
open PySem PySem.Spec PyProof.Rows L2

inductive Tr where
  | b (T : String)
  | c (x : Str)
def Tr.v (K : PySem.W.Frag) : Tr → Value
  | .b T => .type T
  | .c x => .ref (He.ga K x)
inductive Ad where
  | glo (x : Str)
  | mth (x m : Str)
  | get (x m : Str)
def pAd (K : PySem.W.Frag) (x m : Str) : Addr := He.ma K (He.ga K x) m
def gAd (K : PySem.W.Frag) (x m : Str) : Addr := match PySem.W.recIn K (pAd K x m) "property" with
  | some (.ref g :: _) => g
  | _ => 0
def Ad.a (K : PySem.W.Frag) : Ad → Addr
  | .glo x => He.ga K x
  | .mth x m => He.ma K (He.ga K x) m
  | .get x m => gAd K x m
inductive Fc where
  | he (f : He.Fa)
  | clsF (x : Str)
  | prop (x m : Str)
  | kit (a b : Tr) (r : Bool)
  | eqf (x : Str)
  | rep (x : Str)
  | nf (x y : Str)
def Fc.ok (K : PySem.W.Frag) : Fc → Bool
  | .he f => f.ok K
  | .clsF x => (He.Fa.cls x).ok K && (He.eqO (PySem.W.findIn K (.ref (He.ga K x)) "__class__") (some (some (.builtin "object.__class__"))) && (He.eqO (PySem.W.specialIn K (.builtin "object.__class__") "__get__") (some (some (.builtin "getset_descriptor.__get__"))) &&
      (decide (PySem.W.takesIn K (.builtin "object.__class__") = some true) && decide (PySem.W.mroIn K (He.ga K x) (.type "object") = some true))))
  | .prop x m => He.eqO (PySem.W.findIn K (.ref (He.ga K x)) m) (some (some (.ref (pAd K x m)))) && (He.eqO (PySem.W.specialIn K (.ref (pAd K x m)) "__get__") (some (some (.builtin "property.__get__"))) &&
      (decide (PySem.W.takesIn K (.ref (pAd K x m)) = some true) && (match PySem.W.recIn K (pAd K x m) "property" with
        | some (.ref _ :: _) => true
        | _ => false)))
  | .kit a b r => decide (PySem.W.kitOne K (a.v K) (b.v K) = some r)
  | .eqf x => He.eqO (PySem.W.findIn K (.ref (He.ga K x)) "__eq__") (some (some (.ref (He.ma K (He.ga K x) "__eq__")))) && (PySem.W.isFn K (.ref (He.ma K (He.ga K x) "__eq__")) &&
      (He.eqO (PySem.W.findIn K (.ref (He.ga K x)) "__ne__") (some (some (.builtin "object.__ne__"))) && decide (PySem.W.mroIn K (He.ga K x) (.type "object") = some true)))
  | .rep x => He.eqO (PySem.W.findIn K (.ref (He.ga K x)) "__repr__") (some (some (.ref (He.ma K (He.ga K x) "__repr__")))) && PySem.W.isFn K (.ref (He.ma K (He.ga K x) "__repr__"))
  | .nf x y => PySem.W.notFirst K (He.ga K x) (.ref (He.ga K y))
section
variable {K : PySem.W.Frag} {x y m : Str}
theorem clsF_ok (c : (Fc.clsF x).ok K = true) : ClsF K (He.ga K x) := by
  obtain ⟨c1, c⟩ := He.ba c
  obtain ⟨c2, c⟩ := He.ba c
  obtain ⟨c3, c⟩ := He.ba c
  obtain ⟨c4, c5⟩ := He.ba c
  exact ⟨He.cls_ok c1, He.eqO_ok c2, He.eqO_ok c3, of_decide_eq_true c4, of_decide_eq_true c5⟩
theorem prop_ok (c : (Fc.prop x m).ok K = true) : PropOf K (He.ga K x) m (pAd K x m) (gAd K x m) := by
  obtain ⟨c1, c⟩ := He.ba c
  obtain ⟨c2, c⟩ := He.ba c
  obtain ⟨c3, c4⟩ := He.ba c
  refine ⟨He.eqO_ok c1, He.eqO_ok c2, of_decide_eq_true c3, ?_⟩
  unfold gAd
  cases h : PySem.W.recIn K (pAd K x m) "property" with
  | none => rw [h] at c4; cases c4
  | some l =>
    rw [h] at c4
    cases l with
    | nil => cases c4
    | cons v r =>
      cases v with
      | ref g => exact ⟨r, rfl⟩
      | _ => cases c4
theorem kit_ok {a b : Tr} {r : Bool} (c : (Fc.kit a b r).ok K = true) : PySem.W.kitOne K (a.v K) (b.v K) = some r := of_decide_eq_true c
theorem eqf_ok (c : (Fc.eqf x).ok K = true) : EqF K (He.ga K x) (He.ma K (He.ga K x) "__eq__") := by
  obtain ⟨c1, c⟩ := He.ba c
  obtain ⟨c2, c⟩ := He.ba c
  obtain ⟨c3, c4⟩ := He.ba c
  exact ⟨He.eqO_ok c1, c2, He.eqO_ok c3, of_decide_eq_true c4⟩
theorem rep_ok (c : (Fc.rep x).ok K = true) : PySem.W.findIn K (.ref (He.ga K x)) "__repr__" = some (some (.ref (He.ma K (He.ga K x) "__repr__"))) ∧ PySem.W.isFn K (.ref (He.ma K (He.ga K x) "__repr__")) = true := by
  obtain ⟨c1, c2⟩ := He.ba c
  exact ⟨He.eqO_ok c1, c2⟩
theorem nf_ok (c : (Fc.nf x y).ok K = true) : PySem.W.notFirst K (He.ga K x) (.ref (He.ga K y)) = true := c
end
/-! ### defs -/
structure DefM where
  ad : Ad
  name : Str
  qual : Str
  st : Stmt
  dfl : List He.Dv := []
  kwd : List (Str × He.Dv) := []
def fnM (K : PySem.W.Frag) (a : Addr) : He.FnW := match K.lookup a with
  | some ⟨_, _, .func fd, _⟩ => some (fd.name, fd.qualname, fd.params, fd.body, fd.scope, fd.globals, fd.closure, fd.builtins)
  | _ => none
def DefM.val (d : DefM) : He.FnW := some (d.name, d.qual, defArgs d.st, .stmts (defBody d.st), defScope d.st, mainGlobals, [], builtinsNs)
def DefM.dvs (K : PySem.W.Frag) (d : DefM) : List V := d.dfl.map (He.Dv.v K)
def DefM.kws (K : PySem.W.Frag) (d : DefM) : List (Str × V) := d.kwd.map fun q => (q.1, q.2.v K)
def DefM.ok (K : PySem.W.Frag) (d : DefM) : Bool := PySem.W.keepIn K (.ref (d.ad.a K)) && (match K.lookup (d.ad.a K) with
  | some ⟨_, _, .func fd, _⟩ => PySem.W.codeIn K fd.code d.qual && (He.dflB K fd.defaults (d.dvs K) && He.kwdB K fd.kwdefaults (d.kws K))
  | _ => false)
abbrev FunM (K : PySem.W.Frag) (d : DefM) (fd : FuncData) : Prop := FunD K d.name d.qual (defArgs d.st) (defBody d.st) (defScope d.st) (d.dvs K) (d.kws K) (d.ad.a K) fd
theorem DefM.fun_ {K : PySem.W.Frag} {d : DefM} (e : fnM K (d.ad.a K) = d.val) (c : d.ok K = true) : ∃ fd, FunM K d fd := by
  obtain ⟨kp, c2⟩ := He.ba c
  unfold fnM at e
  cases q : K.lookup (d.ad.a K) with
  | none => rw [q] at c2; cases c2
  | some o =>
    obtain ⟨oc, od, dt, osl⟩ := o
    rw [q] at c2 e
    cases dt with
    | func fd =>
      obtain ⟨n1, n2, n3, n4, n5, n6, n7, n8, n9, n10, n11, n12, n13, n14, n15⟩ := fd
      have e2 : (some (n1, n2, n3, n4, n5, n6, n7, n15) : He.FnW) = d.val := e
      unfold DefM.val at e2
      simp only [Option.some.injEq, Prod.mk.injEq] at e2
      obtain ⟨h1, h2, h3, h4, h5, h6, h7, h8⟩ := e2
      subst h1 h2 h3 h4 h5 h6 h7 h8
      have c3 : (PySem.W.codeIn K n13 d.qual && (He.dflB K n8 (d.dvs K) && He.kwdB K n9 (d.kws K))) = true := c2
      obtain ⟨k1, k2⟩ := He.ba c3
      obtain ⟨k3, k4⟩ := He.ba k2
      exact ⟨_, ⟨oc, od, n8, n9, n10, n11, n12, n13, n14, osl, rfl, q, k1, He.dflB_ok k3, He.kwdB_ok k4⟩, kp⟩
    | _ => cases c2
/-! ### the hook -/
def obsM (fa : List Fc) (fn : List DefM) (K : PySem.W.Frag) : He.AlD := ((fa.all fun f => f.ok K) && fn.all fun d => d.ok K, fn.map fun d => fnM K (d.ad.a K))
def SaysM (fa : List Fc) (fn : List DefM) (K : PySem.W.Frag) : Prop := obsM fa fn K = (true, fn.map DefM.val)
def obsMG (n : Nat) (fa : List Fc) (fn : List DefM) (g : Addr → Option Obj) : He.AlD := obsM fa fn (He.frG g (He.asD g n))
def hookM (n : Nat) (fa : List Fc) (fn : List DefM) : PySem.W.Hook where
  α := He.AlD
  obs := fun s => obsMG n fa fn s.heap.get?
  val := fun _ => (true, fn.map DefM.val)
  says := fun _ h => ∃ K : PySem.W.Frag, K.In h ∧ SaysM fa fn K
  of := fun _ _ e => ⟨_, He.frG_in, e⟩
  keeps := fun _ _ _ ⟨K, a, c⟩ k => ⟨K, PySem.W.Frag.In.keeps a k, c⟩
theorem obsMG_eq {n : Nat} {fa : List Fc} {fn : List DefM} {g : Addr → Option Obj} {s : Shared} (h : ∀ a, g a = s.heap.get? a) : obsMG n fa fn g = (hookM n fa fn).obs s := by
  obtain rfl : g = s.heap.get? := funext h
  rfl
/-- what stands fast: the written part and the module's names -/
structure Kn (fa : List Fc) (fn : List DefM) (K : PySem.W.Frag) (mg : Str → Option Value) : Prop where
  ns : ∃ h : Heap, K.In h ∧ h.Ns mainGlobals mg
  says : SaysM fa fn K
section
variable {fa : List Fc} {fn : List DefM} {K : PySem.W.Frag} {mg : Str → Option Value} {x y m : Str}
theorem Kn.fact (c : Kn fa fn K mg) (i : Nat) {f : Fc} (h : fa[i]? = some f := by rfl) : f.ok K = true := by
  have z := (He.ba (show ((fa.all fun f => f.ok K) && fn.all fun d => d.ok K) = true from congrArg (fun z : He.AlD => z.1) c.says)).1
  exact List.all_eq_true.mp z f (List.mem_of_getElem? h)
theorem Kn.def_ (c : Kn fa fn K mg) (i : Nat) {d : DefM} (h : fn[i]? = some d := by rfl) : ∃ fd, FunM K d fd := by
  have z := (He.ba (show ((fa.all fun f => f.ok K) && fn.all fun d => d.ok K) = true from congrArg (fun z : He.AlD => z.1) c.says)).2
  have e : fn.map (fun d => fnM K (d.ad.a K)) = fn.map DefM.val := congrArg (fun z : He.AlD => z.2) c.says
  have e2 : (fn.map fun d => fnM K (d.ad.a K))[i]? = (fn.map DefM.val)[i]? := by rw [e]
  rw [List.getElem?_map, List.getElem?_map, h] at e2
  exact DefM.fun_ (Option.some.inj e2) (List.all_eq_true.mp z d (List.mem_of_getElem? h))
theorem Kn.glo (c : Kn fa fn K mg) (i : Nat) (h : fa[i]? = some (.he (.glo x)) := by rfl) : mg x = some (.ref (He.ga K x)) := by
  obtain ⟨hp, a, b⟩ := c.ns
  exact He.glo_ok a b (c.fact i h)
theorem Kn.free (c : Kn fa fn K mg) (i : Nat) (h : fa[i]? = some (.he (.free x)) := by rfl) : mg x = none := by
  obtain ⟨hp, a, b⟩ := c.ns
  exact He.free_ok a b (c.fact i h)
theorem Kn.int (c : Kn fa fn K mg) (i : Nat) {n : Int} (h : fa[i]? = some (.he (.int x n)) := by rfl) : ∃ t, mg x = some (.int n t) := by
  obtain ⟨hp, a, b⟩ := c.ns
  exact He.int_ok a b (c.fact i h)
theorem Kn.str (c : Kn fa fn K mg) (i : Nat) {z : Str} (h : fa[i]? = some (.he (.str x z)) := by rfl) : ∃ t, mg x = some (.str z t) := by
  obtain ⟨hp, a, b⟩ := c.ns
  exact He.str_ok a b (c.fact i h)
theorem Kn.cls (c : Kn fa fn K mg) (i : Nat) (h : fa[i]? = some (.clsF x) := by rfl) : ClsF K (He.ga K x) := clsF_ok (c.fact i h)
theorem Kn.noat (c : Kn fa fn K mg) (i : Nat) (h : fa[i]? = some (.he (.noat x m)) := by rfl) : NoAttr K (He.ga K x) m := He.noat_ok (c.fact i h)
theorem Kn.meth (c : Kn fa fn K mg) (i : Nat) (h : fa[i]? = some (.he (.meth x m)) := by rfl) : Meth K (He.ga K x) m (He.ma K (He.ga K x) m) := He.meth_ok (c.fact i h)
theorem Kn.mkr (c : Kn fa fn K mg) (i : Nat) (h : fa[i]? = some (.he (.mkr x)) := by rfl) : Mk K (He.ga K x) (He.ma K (He.ga K x) "__init__") := He.mkr_ok (c.fact i h)
theorem Kn.prop (c : Kn fa fn K mg) (i : Nat) (h : fa[i]? = some (.prop x m) := by rfl) : ∃ p, PropOf K (He.ga K x) m p (gAd K x m) := ⟨_, prop_ok (c.fact i h)⟩
theorem Kn.kit (c : Kn fa fn K mg) (i : Nat) {a b : Tr} {r : Bool} (h : fa[i]? = some (.kit a b r) := by rfl) : PySem.W.kitOne K (a.v K) (b.v K) = some r := kit_ok (c.fact i h)
theorem Kn.eqf (c : Kn fa fn K mg) (i : Nat) (h : fa[i]? = some (.eqf x) := by rfl) : EqF K (He.ga K x) (He.ma K (He.ga K x) "__eq__") := eqf_ok (c.fact i h)
theorem Kn.rep (c : Kn fa fn K mg) (i : Nat) (h : fa[i]? = some (.rep x) := by rfl) : PySem.W.findIn K (.ref (He.ga K x)) "__repr__" = some (some (.ref (He.ma K (He.ga K x) "__repr__"))) ∧ PySem.W.isFn K (.ref (He.ma K (He.ga K x) "__repr__")) = true := rep_ok (c.fact i h)
theorem Kn.nf (c : Kn fa fn K mg) (i : Nat) (h : fa[i]? = some (.nf x y) := by rfl) : PySem.W.notFirst K (He.ga K x) (.ref (He.ga K y)) = true := nf_ok (c.fact i h)
end
/-! ### names of the module as values; {} -/
section
variable {X : Cx} {cm : Str → Addr} {W : WX} {x : Str} {pos : Pos}
theorem ge_gint {i : Int} (hg : Gl X x) (hm : ∃ t, X.mg x = some (.int i t)) (hd : (x == ("__debug__" : Str)) = false := by decide) : PE X (.Name x pos) (tE cm X.K W (mC (.int i))) := by
  obtain ⟨t, hm⟩ := hm
  exact ge_const (pe_glob hg hm (v := .int i) ⟨t, rfl⟩ hd) fun _ => .int i
theorem ge_gstr {z : Str} (hg : Gl X x) (hm : ∃ t, X.mg x = some (.str z t)) (hd : (x == ("__debug__" : Str)) = false := by decide) : PE X (.Name x pos) (tE cm X.K W (mC (.str z))) := by
  obtain ⟨t, hm⟩ := hm
  exact ge_const (pe_glob hg hm (v := .str z) ⟨t, rfl⟩ hd) fun _ => .str z
theorem ge_dic0 : PE X (.Dict [] [] pos) (tE cm X.K W (mC (.dic []))) := PE.weak pe_dnewK fun σ H Q ⟨F, S, e1, e2, R, h⟩ => fun p hp => by
  have s := same_new (o := .dK []) hp
  exact h _ _ (R.grow s) (vis_grow s) (.dic (hid_new R.live hp) .nil)
end
/-- the end over a head by facts -/
theorem end_ofM {l : PySem.W.OpenLaw} {n k : Nat} {q : Program} {loose : List Str} {XP : (Str → Option Value) → Heap → Prop} {YP : World → Heap → Prop} {d : DefRec} {x : Str} {Fn : List FA → RF}
    (hn : l.most = some n) (hn2 : n ≤ sizeLine) (hdf : d.params.defaults = []) (hr : Room k callerA)
    (F : ∀ (w : World) (mg : Str → Option Value) (fa : Addr) (h : Heap), YP w h → h.Ns mainGlobals mg → mg d.name = some (.ref fa) →
      ∃ (K : PySem.W.Frag) (fd : FuncData) (cm : Str → Addr), K.In h ∧ (∀ (s : Shared) (u : Value), BindsTo s fd ⟨[u], []⟩ [(x, u)]) ∧
        ∀ base : Heap, K.In base → base.Ns mainGlobals mg → FnG l.prog w K mg base (L2.CX l.prog w) k fa fd [x] (spF cm K Fn))
    (good : ∀ ns : List Int, ns.length ≤ n → Fn [.dat (.ro (ns.map .int))] = .ok (.bl true) []) :
    PySem.W.WalkO q loose XP YP l.row.toRowW d [] (fun f vs => PySem.call f vs) := by
  refine Att.attach_call hn hdf fun w s₀ s₁ mg mb fa o pm cd doc a vs ns G Y ho hd hcd hmg hobj hints hlen hg => ?_
  obtain ⟨K, fd, cm, KX, hb, hF⟩ := F w mg fa _ Y G.T.g hmg
  refine head_call KX G.T.g G.T.b G.T.builtins G.T.nolimit hg hobj hints (Nat.le_trans hlen hn2) hr hF hb fun H hO hS => ?_
  have e0 : hid [] H = H := by
    funext y
    exact hid_out (by simp)
  refine ⟨[], [.dat (.ro (ns.map .int))], [], fun m hm => (by cases hm), by simp, List.nodup_nil, .dat (.ro (by rw [e0]; exact hS) (ro_ints ns)) .nil, ?_⟩
  rw [good ns hlen]
  intro v H' _ _ rv
  cases rv
  rfl
end Mir

/-! MirQ: small change -/
namespace Mir
open PySem PySem.Spec PyProof.Rows L2
theorem takes0 {X : Cx} : Takes X W0 := fun u s' x => by
  obtain ⟨a, B, sI, pins, σ, H, cls, d, e, I, nb, up, sky, na, os, ag, w⟩ := x
  exact w.elim
theorem aa0 {α : Type} {p : α → Prop} : ∀ x, x ∈ ([] : List α) → p x := fun x h => by cases h
theorem aa1 {α : Type} {p : α → Prop} {a : α} {l : List α} (h : p a) (r : ∀ x, x ∈ l → p x) : ∀ x, x ∈ a :: l → p x := fun x hx => by
  rcases List.mem_cons.mp hx with e | e
  · rw [e]; exact h
  · exact r x e
theorem vp {vs : List V} {us : List Value} (r : Vals vs us) : ∀ i : Nat, Vals ((vs.drop i).take 1) ((us.drop i).take 1) := by
  induction r with
  | nil => intro i; simp; exact .nil
  | cons a b ih =>
    intro i
    cases i with
    | zero => exact .cons a .nil
    | succ j => simpa using ih j
theorem vapp {vs ws : List V} {us xs : List Value} (r : Vals vs us) (q : Vals ws xs) : Vals (vs ++ ws) (us ++ xs) := by
  induction r with
  | nil => exact q
  | cons a b ih => exact .cons a ih
section
variable {X : Cx} {cm : Str → Addr} {W : WX} {a b c e : Expr} {ma mb : ME} {pos : Pos} {g : Dat → Dat → Option Dat}
theorem bind_assoc {α β γ : Type} (r : Rs α) (k : α → Sg → Rs β) (l : β → Sg → Rs γ) : (r.bind k).bind l = r.bind fun a S => (k a S).bind l := by cases r <;> rfl
theorem gt_cmp {op} (o : OpR X (compareOp op) (rD cm X.K g)) (ha : PE X a (tE cm X.K W ma)) (hb : PE X b (tE cm X.K W mb)) (hm : behindInMarks op b = false) : PT X (.Compare a [op] [b] pos) (tT cm X.K W (cTruth (m2 g ma mb))) :=
  PT.weak (pt_cmpR o ha hb hm) fun σ H Q ⟨F, S, e1, e2, R, h⟩ => by
    unfold cTruth m2 at h
    rw [bind_assoc] at h
    refine tG_bind e1 e2 R h fun x H1 da S1 R1 s1 p1 h1 => ?_
    rw [bind_assoc] at h1
    refine tG_bind e1 e2 R1 h1 fun y H2 db S2 R2 s2 p2 h2 => ?_
    cases hg : g da db with
    | none => rw [hg] at h2; exact h2.elim
    | some d =>
      rw [hg, Rs.of_some, Rs.bind_ok] at h2
      cases d <;> try (exact False.elim h2)
      rename_i t
      exact ⟨_, da, db, .bl t, R2.live, p1.mono s2, p2, hg, fun v H' s' rv => by
        cases rv
        exact ⟨t, rfl, h2 t H' (R2.grow s') (vis_grow s') rfl⟩⟩
theorem var_readT {F : Fm} {S : Sg} {σ : L2.St} {H : Hp} {i : Nat} {α β : Type} {R' : Rep β α} {k : Dat → Sg → Rs α} {Q : β → Hp → Prop} (e1 : F.cm = cm) (e2 : F.K = X.K) (R : Rel F S σ H) (h : out F W σ (vis F S σ H) R' Q ((mVar i S).bind k)) {Q' : VK} (q : ∀ x H1 d S1, Rel F S1 σ H1 → Same (vis F S σ H) (vis F S1 σ H1) → Rp cm X.K (vis F S1 σ H1) x d → out F W σ (vis F S1 σ H1) R' Q (k d S1) → Q' x H1) : tVar i σ H Q' := by
  have key := tG_bind (m := mVar i) (R := rE cm X.K) e1 e2 R h q
  obtain ⟨F', S', a1, a2, a3, a4⟩ := key
  unfold mVar at a4
  cases hs : S'[i]? with
  | none => rw [hs] at a4; exact a4.elim
  | some s =>
    rw [hs] at a4
    have hl : i < σ.length := by rw [← a3.len]; exact (List.getElem?_eq_some_iff.mp hs).1
    have hv : σ[i]? = some σ[i] := List.getElem?_eq_getElem hl
    have sl := a3.sl i s _ hs hv
    generalize σ[i] = w at hv sl
    cases s with
    | no => exact a4.elim
    | own j u => exact a4.elim
    | dat d =>
      cases sl with
      | dat r => exact ⟨_, hv, a4 _ H a3 (Same.refl _) (by rw [← a1, ← a2]; exact r)⟩
    | loc ds =>
      obtain ⟨v, hv', q1, q2, q3⟩ : ∃ v, σ[i]? = some (some v) ∧ Rel F' (S'.set i (.dat (.lst ds))) σ H ∧ Same (vis F' S' σ H) (vis F' (S'.set i (.dat (.lst ds))) σ H) ∧ Rp F'.cm F'.K (vis F' (S'.set i (.dat (.lst ds))) σ H) v (.lst ds) := by
        cases sl with
        | loc eh r =>
          obtain ⟨z1, z2, z3⟩ := a3.freeze hs hv
          exact ⟨_, hv, z1, z2, z3⟩
      exact ⟨v, hv', a4 _ H q1 q2 (by rw [← a1, ← a2]; exact q3)⟩
theorem gt_cmpP {op} {i : Nat} {o : Expr} (oq : OpR X (compareOp op) (rD cm X.K g)) (ho : PE X o (tVar i)) (hb : PE X b (tE cm X.K W mb)) (hm : behindInMarks op b = false) : PT X (.Compare o [op] [b] pos) (tT cm X.K W (cTruth (mOpP g i mb))) :=
  PT.weak (pt_cmpR oq ho hb hm) fun σ H Q ⟨F, S, e1, e2, R, h⟩ => by
    unfold cTruth mOpP at h
    by_cases hz : isMut i S = true
    · rw [if_pos hz, bind_assoc] at h
      obtain ⟨l, ds, vs, M, hl, la, eh, r, _⟩ := R.peek hz
      refine ⟨_, hl, tG_bind e1 e2 R h fun y H1 db S1 R1 s1 p1 h1 => ?_⟩
      cases hd : listAt i S1 with
      | none => rw [hd] at h1; exact h1.elim
      | some ds1 =>
        rw [hd] at h1
        obtain ⟨l', ds', vs', M', hl', la', eh', r', lv, sm, pr⟩ := R1.peek (isMut_of hd)
        rw [hl] at hl'; cases hl'
        rw [hd] at la'; cases la'
        dsimp only at h1
        cases hg : g (.lst ds1) db with
        | none => rw [hg] at h1; exact h1.elim
        | some d =>
          rw [hg] at h1
          dsimp only at h1
          by_cases hs : scal d = true
          · rw [if_pos hs, Rs.bind_ok] at h1
            cases d <;> try (exact False.elim h1)
            rename_i t
            exact ⟨M', _, db, .bl t, lv, by rw [← e1, ← e2]; exact pr, p1.mono (by rw [← e1, ← e2] at *; exact sm), hg, fun v H' s' rv => by
              cases rv
              exact ⟨t, rfl, h1 t H' (R1.grow s') (vis_grow s') rfl⟩⟩
          · rw [if_neg hs] at h1; exact h1.elim
    · rw [if_neg hz] at h
      unfold m2 at h
      rw [bind_assoc] at h
      refine (?_ : tOp (rD cm X.K g) (tVar i) (tE cm X.K W mb) σ H (fun x H' => ∃ k, x = .bl k ∧ Q k H'))
      unfold tOp
      refine var_readT e1 e2 R h fun x H1 d S1 R1 s1 p1 h1 => ?_
      rw [bind_assoc] at h1
      refine tG_bind e1 e2 R1 h1 fun y H2 db S2 R2 s2 p2 h2 => ?_
      cases hg : g d db with
      | none => rw [hg] at h2; exact h2.elim
      | some z =>
        rw [hg, Rs.of_some, Rs.bind_ok] at h2
        cases z <;> try (exact False.elim h2)
        rename_i t
        exact ⟨_, d, db, .bl t, R2.live, p1.mono s2, p2, hg, fun v H' s' rv => by
          cases rv
          exact ⟨t, rfl, h2 t H' (R2.grow s') (vis_grow s') rfl⟩⟩
theorem gt_chain {op op'} {g' : Dat → Dat → Option Dat} {mc : ME} (o : OpR X (compareOp op) (rD cm X.K g)) (o' : OpR X (compareOp op') (rD cm X.K g')) (ha : PE X a (tE cm X.K W ma)) (hb : PE X b (tE cm X.K W mb)) (hc : PE X c (tE cm X.K W mc))
    (hm : lastMarks [op, op'] [b, c] = false := by rfl) (hbl : ∀ x y z, g x y = some z → ∃ t, z = .bl t := by intro x y z h; cases x <;> cases y <;> first | cases h | (cases h; exact ⟨_, rfl⟩)) : PT X (.Compare a [op, op'] [b, c] pos) (tT cm X.K W (cTruth (mChain g g' ma mb mc))) :=
  PT.weak (pt_chain o o' ha hb hc hm) fun σ H Q ⟨F, S, e1, e2, R, h⟩ => by
    unfold cTruth mChain at h
    rw [bind_assoc] at h
    refine tG_bind e1 e2 R h fun x H1 da S1 R1 s1 p1 h1 => ?_
    rw [bind_assoc] at h1
    refine tG_bind e1 e2 R1 h1 fun y H2 db S2 R2 s2 p2 h2 => ?_
    cases hg : g da db with
    | none => rw [hg] at h2; exact False.elim h2
    | some z =>
      rw [hg] at h2
      obtain ⟨t, rfl⟩ := hbl _ _ _ hg
      refine ⟨_, da, db, .bl t, R2.live, p1.mono s2, p2, hg, fun v H3 s3 r3 => ?_⟩
      cases r3
      refine ⟨t, rfl, ?_⟩
      have R3 := R2.grow s3
      have v3 := vis_grow (F := F) (S := S2) (σ := σ) s3
      cases t with
      | false =>
        rw [if_neg (by simp)]
        exact ⟨false, rfl, h2 false H3 R3 v3 rfl⟩
      | true =>
        rw [if_pos rfl]
        have h3 : out F W σ (vis F S2 σ H2) rT Q (((mc S2).bind fun w S4 => Rs.of (g' db w) S4).bind fun d S1 => match d with | .bl b => .ok b S1 | _ => .bad) := h2
        rw [bind_assoc] at h3
        refine tG_bind e1 e2 R3 (out_same v3 h3) fun w H4 dc S4 R4 s4 p4 h4 => ?_
        cases hg' : g' db dc with
        | none => rw [hg'] at h4; exact False.elim h4
        | some d =>
          rw [hg', Rs.of_some, Rs.bind_ok] at h4
          cases d <;> try (exact False.elim h4)
          rename_i b
          exact ⟨_, db, dc, .bl b, R4.live, (p2.mono v3).mono s4, p4, hg', fun v H' s' rv => by
            cases rv
            exact ⟨b, rfl, h4 b H' (R4.grow s') (vis_grow s') rfl⟩⟩
/-- a tuple of targets, the number known -/
def gTpN (n : Nat) (r : MGs) : MG := gTp fun ds S => if ds.length = n then r ds S else .bad
theorem gg_tupN {es : List Expr} {gs : MGs} {k n : Nat} (hc : X.calm = true) (h : PGs X es (tGts cm X.K W gs)) (hn : (assignEach es X.env).length = n := by rfl) (hst : (assignEach es X.env).findIdx? (·.1) = none := by rfl) : PG X (.Tuple es k pos) (tGt cm X.K W (gTpN n gs)) :=
  gg_tup hc (PGs.weak h fun v σ H Q ⟨F, S, d, e1, e2, R, p, o⟩ => by
    have o : outT F W (vis F S σ H) Q (if d.length = n then gs d S else .bad) := o
    by_cases hz : d.length = n
    · rw [if_pos hz] at o; exact ⟨F, S, d, e1, e2, R, p, o⟩
    · rw [if_neg hz] at o; exact o.elim) hn hst fun ds S hz => if_neg hz
end
end Mir

/-! MirR: the mirrors, run: what comes behind is kept as it stands until its state is known -/
namespace Mir
open PySem
section
variable {α β : Type} (S : Sg) (a b d : Dat) (ma mb mc : ME) (ca cb : MT) (g g' : Dat → Dat → Option Dat)
theorem ite_bad {p : Prop} [Decidable p] (x y : Rs α) (k : α → Sg → Rs β) : (if p then x else y).bind k = if p then x.bind k else y.bind k := by split <;> rfl
/-! statements -/
def seqK (b : MS) : Rs Fl → Rs Fl
  | .ok .nx S => b S
  | r => r
theorem r_seq (a b : MS) : mSeq a b S = seqK b (a S) := by
  unfold mSeq seqK
  cases a S with
  | ok f S1 => cases f <;> rfl
  | _ => rfl
@[simp] theorem seqK_nx (k : MS) : seqK k (.ok .nx S) = k S := rfl
@[simp] theorem seqK_rt (k : MS) : seqK k (.ok (.rt d) S) = .ok (.rt d) S := rfl
@[simp] theorem seqK_bk (k : MS) : seqK k (.ok .bk S) = .ok .bk S := rfl
@[simp] theorem seqK_ct (k : MS) : seqK k (.ok .ct S) = .ok .ct S := rfl
@[simp] theorem seqK_exc (c : Str) (fs : List (Str × Dat)) (k : MS) : seqK k (.exc c fs S) = .exc c fs S := rfl
@[simp] theorem seqK_bad (k : MS) : seqK k .bad = .bad := rfl
@[simp] theorem seqK_ite {p : Prop} [Decidable p] (x y : Rs Fl) (k : MS) : seqK k (if p then x else y) = if p then seqK k x else seqK k y := by split <;> rfl
theorem r_next : mNext S = .ok .nx S := rfl
theorem r_retN : mRetN S = .ok (.rt .non) S := rfl
theorem r_break : mBreak S = .ok .bk S := rfl
theorem r_cont : mCont S = .ok .ct S := rfl
theorem r_never : mNever S = .bad := rfl
def retK (r : Rs Dat) : Rs Fl := r.bind fun d S1 => .ok (.rt d) S1
theorem r_ret : mRet ma S = retK (ma S) := rfl
@[simp] theorem retK_ok : retK (.ok d S) = .ok (.rt d) S := rfl
@[simp] theorem retK_ite {p : Prop} [Decidable p] (x y : Rs Dat) : retK (if p then x else y) = if p then retK x else retK y := by split <;> rfl
def dropK (r : Rs Dat) : Rs Fl := r.bind fun _ S1 => .ok .nx S1
theorem r_drop : mDrop ma S = dropK (ma S) := rfl
@[simp] theorem dropK_ok : dropK (.ok d S) = .ok .nx S := rfl
def ifSK (x y : MS) (r : Rs Bool) : Rs Fl := r.bind fun t S1 => if t = true then x S1 else y S1
theorem r_ifS (x y : MS) : mIfS ca x y S = ifSK x y (ca S) := rfl
@[simp] theorem ifSK_ok (x y : MS) (t : Bool) : ifSK x y (.ok t S) = if t = true then x S else y S := rfl
@[simp] theorem ifSK_ite {p : Prop} [Decidable p] (x y : MS) (u v : Rs Bool) : ifSK x y (if p then u else v) = if p then ifSK x y u else ifSK x y v := by split <;> rfl
def stK (r : Rs Unit) : Rs Fl := r.bind fun _ S2 => .ok .nx S2
def asgK (gt : MG) (r : Rs Dat) : Rs Fl := r.bind fun d S1 => stK (gt d S1)
theorem r_asg (gt : MG) : mAsg ma gt S = asgK gt (ma S) := rfl
@[simp] theorem asgK_ok (gt : MG) : asgK gt (.ok d S) = stK (gt d S) := rfl
@[simp] theorem asgK_ite {p : Prop} [Decidable p] (gt : MG) (x y : Rs Dat) : asgK gt (if p then x else y) = if p then asgK gt x else asgK gt y := by split <;> rfl
@[simp] theorem stK_ok : stK (.ok () S) = .ok .nx S := rfl
theorem r_nm (i : Nat) : gNm i d S = .ok () (S.set i (.dat d)) := rfl
theorem r_setF (i : Nat) (m : Sg → Rs (List Dat)) : mSetF i m S = (m S).bind fun ds S1 => .ok .nx (S1.set i (.loc ds)) := rfl
def setFK (i : Nat) (r : Rs (List Dat)) : Rs Fl := r.bind fun ds S1 => .ok .nx (S1.set i (.loc ds))
theorem r_setF' (i : Nat) (m : Sg → Rs (List Dat)) : mSetF i m S = setFK i (m S) := rfl
@[simp] theorem setFK_ok (i : Nat) (ds : List Dat) : setFK i (.ok ds S) = .ok .nx (S.set i (.loc ds)) := rfl
def lLstK (r : Rs (List Dat)) : Rs (List Dat) := r.bind fun ds S1 => if ds.length ≤ lim then .ok ds S1 else .bad
theorem r_lLst (m : MA) : lLst m S = lLstK (m S) := rfl
@[simp] theorem lLstK_ok (ds : List Dat) : lLstK (.ok ds S) = if ds.length ≤ lim then .ok ds S else .bad := rfl
def lListK (r : Rs Dat) : Rs (List Dat) := r.bind fun d S1 => match d with
  | .lst ds => .ok ds S1
  | .tup ds => .ok ds S1
  | .ro ds => .ok ds S1
  | _ => .bad
theorem r_lList : lList ma S = lListK (ma S) := rfl
@[simp] theorem lListK_lst (ds : List Dat) : lListK (.ok (.lst ds) S) = .ok ds S := rfl
@[simp] theorem lListK_tup (ds : List Dat) : lListK (.ok (.tup ds) S) = .ok ds S := rfl
@[simp] theorem lListK_ro (ds : List Dat) : lListK (.ok (.ro ds) S) = .ok ds S := rfl
def parK (i j : Nat) (r : Rs (List Dat)) : Rs Fl := r.bind fun ds S1 => match ds with
  | [a, b] => .ok .nx ((S1.set i (.dat a)).set j (.dat b))
  | _ => .bad
theorem r_par (i j : Nat) (m : MA) : mPar i j m S = parK i j (m S) := rfl
@[simp] theorem parK_ok (i j : Nat) : parK i j (.ok [a, b] S) = .ok .nx ((S.set i (.dat a)).set j (.dat b)) := rfl
def appK (i : Nat) (r : Rs Dat) : Rs Fl := r.bind fun d S1 => if isMut i S1 then appAt i d S1 else .bad
theorem r_app (i : Nat) : mApp i ma S = if isMut i S = true then appK i (ma S) else .bad := rfl
@[simp] theorem appK_ok (i : Nat) : appK i (.ok d S) = if isMut i S = true then appAt i d S else .bad := rfl
def forK (gt : MG) (b : MS) (r : Rs (List Dat)) : Rs Fl := r.bind fun ds S1 => loopS gt b ds S1
theorem r_for (mi : Sg → Rs (List Dat)) (gt : MG) (b : MS) : mFor mi gt b S = forK gt b (mi S) := rfl
@[simp] theorem forK_ok (gt : MG) (b : MS) (ds : List Dat) : forK gt b (.ok ds S) = loopS gt b ds S := rfl
def ofK (f : List Dat → Option (List Dat)) (r : Rs (List Dat)) : Rs (List Dat) := r.bind fun d S1 => Rs.of (f d) S1
theorem r_its (f : List Dat → Option (List Dat)) (m : MA) : mIts f m S = ofK f (m S) := rfl
@[simp] theorem ofK_ok (f : List Dat → Option (List Dat)) (ds : List Dat) : ofK f (.ok ds S) = Rs.of (f ds) S := rfl
def itemsK (r : Rs Dat) : Rs (List Dat) := r.bind fun d S1 => Rs.of (itemsD d) S1
theorem r_items : mItems ma S = itemsK (ma S) := rfl
@[simp] theorem itemsK_ok : itemsK (.ok d S) = Rs.of (itemsD d) S := rfl
def gIxK (i : Nat) (d : Dat) (r : Rs Dat) : Rs Unit := r.bind fun k S1 => match k with
  | .int k => if isMut i S1 then setAt i k d S1 else .bad
  | _ => .bad
theorem r_gIx (i : Nat) : gIx i ma d S = if isMut i S = true then gIxK i d (ma S) else .bad := rfl
@[simp] theorem gIxK_ok (i : Nat) (k : Int) : gIxK i d (.ok (.int k) S) = if isMut i S = true then setAt i k d S else .bad := rfl
def gTpK (n : Nat) (r : MGs) (ds : List Dat) (S : Sg) : Rs Unit := if ds.length = n then r ds S else .bad
theorem r_tpN (n : Nat) (r : MGs) (ds : List Dat) : gTpN n r (.tup ds) S = if ds.length = n then r ds S else .bad := rfl
def gCsK (r : MGs) (ds : List Dat) (u : Rs Unit) : Rs Unit := u.bind fun _ S1 => r ds S1
theorem r_gcs (gt : MG) (r : MGs) (ds : List Dat) : gCs gt r (d :: ds) S = gCsK r ds (gt d S) := rfl
@[simp] theorem gCsK_ok (r : MGs) (ds : List Dat) : gCsK r ds (.ok () S) = r ds S := rfl
theorem r_gnl : gNl [] S = .ok () S := rfl
def stFK (cs : List Str) (i : Nat) (nm : Str) (r : Rs Dat) : Rs Fl := r.bind fun d S1 => stK (stF cs i nm d S1)
theorem r_stF (cs : List Str) (i : Nat) (nm : Str) : mStF cs i nm ma S = stFK cs i nm (ma S) := rfl
@[simp] theorem stFK_ok (cs : List Str) (i : Nat) (nm : Str) : stFK cs i nm (.ok d S) = stK (stF cs i nm d S) := rfl
/-! expressions -/
theorem r_C : mC d S = .ok d S := rfl
def k2b (g : Dat → Dat → Option Dat) (a : Dat) (r : Rs Dat) : Rs Dat := r.bind fun b S2 => Rs.of (g a b) S2
def k2 (g : Dat → Dat → Option Dat) (mb : ME) (r : Rs Dat) : Rs Dat := r.bind fun a S1 => k2b g a (mb S1)
theorem r_2 : m2 g ma mb S = k2 g mb (ma S) := rfl
@[simp] theorem k2_ok : k2 g mb (.ok a S) = k2b g a (mb S) := rfl
@[simp] theorem k2b_ok : k2b g a (.ok b S) = Rs.of (g a b) S := rfl
@[simp] theorem k2_ite {p : Prop} [Decidable p] (x y : Rs Dat) : k2 g mb (if p then x else y) = if p then k2 g mb x else k2 g mb y := by split <;> rfl
@[simp] theorem k2b_ite {p : Prop} [Decidable p] (x y : Rs Dat) : k2b g a (if p then x else y) = if p then k2b g a x else k2b g a y := by split <;> rfl
def k1 (f : Dat → Option Dat) (r : Rs Dat) : Rs Dat := r.bind fun a S1 => Rs.of (f a) S1
theorem r_1 (f : Dat → Option Dat) : m1 f ma S = k1 f (ma S) := rfl
@[simp] theorem k1_ok (f : Dat → Option Dat) : k1 f (.ok a S) = Rs.of (f a) S := rfl
theorem r_nil : mNil S = .ok [] S := rfl
def kc2 (a : Dat) (r : Rs (List Dat)) : Rs (List Dat) := r.bind fun r S2 => .ok (a :: r) S2
def kc (mr : MA) (r : Rs Dat) : Rs (List Dat) := r.bind fun a S1 => kc2 a (mr S1)
theorem r_cons (mr : MA) : mCons ma mr S = kc mr (ma S) := rfl
@[simp] theorem kc_ok (mr : MA) : kc mr (.ok a S) = kc2 a (mr S) := rfl
@[simp] theorem kc2_ok (ds : List Dat) : kc2 a (.ok ds S) = .ok (a :: ds) S := rfl
@[simp] theorem kc_ite {p : Prop} [Decidable p] (mr : MA) (x y : Rs Dat) : kc mr (if p then x else y) = if p then kc mr x else kc mr y := by split <;> rfl
@[simp] theorem kc2_ite {p : Prop} [Decidable p] (x y : Rs (List Dat)) : kc2 a (if p then x else y) = if p then kc2 a x else kc2 a y := by split <;> rfl
def kf (f : List Dat → Option Dat) (r : Rs (List Dat)) : Rs Dat := r.bind fun ds S1 => Rs.of (f ds) S1
theorem r_call (f : List Dat → Option Dat) (m : MA) : mCall f m S = kf f (m S) := rfl
theorem r_lst (m : MA) : mLst m S = kf mkLst (m S) := rfl
theorem r_tup (m : MA) : mTup m S = kf mkTup (m S) := rfl
@[simp] theorem kf_ok (f : List Dat → Option Dat) (ds : List Dat) : kf f (.ok ds S) = Rs.of (f ds) S := rfl
@[simp] theorem kf_ite {p : Prop} [Decidable p] (f : List Dat → Option Dat) (x y : Rs (List Dat)) : kf f (if p then x else y) = if p then kf f x else kf f y := by split <;> rfl
def kIf (ma mb : ME) (r : Rs Bool) : Rs Dat := r.bind fun t S1 => if t = true then ma S1 else mb S1
theorem r_if : mIf ca ma mb S = kIf ma mb (ca S) := rfl
@[simp] theorem kIf_ok (t : Bool) : kIf ma mb (.ok t S) = if t = true then ma S else mb S := rfl
@[simp] theorem kIf_ite {p : Prop} [Decidable p] (x y : Rs Bool) : kIf ma mb (if p then x else y) = if p then kIf ma mb x else kIf ma mb y := by split <;> rfl
def kAnd (b : ME) (r : Rs Dat) : Rs Dat := r.bind fun d S1 => match d with
  | .bl true => b S1
  | .bl false => .ok (.bl false) S1
  | _ => .bad
def kOr (b : ME) (r : Rs Dat) : Rs Dat := r.bind fun d S1 => match d with
  | .bl true => .ok (.bl true) S1
  | .bl false => b S1
  | _ => .bad
theorem r_and : mAnd ma mb S = kAnd mb (ma S) := rfl
theorem r_or : mOr ma mb S = kOr mb (ma S) := rfl
@[simp] theorem kAnd_bl (t : Bool) : kAnd mb (.ok (.bl t) S) = if t = true then mb S else .ok (.bl false) S := by cases t <;> rfl
@[simp] theorem kOr_bl (t : Bool) : kOr mb (.ok (.bl t) S) = if t = true then .ok (.bl true) S else mb S := by cases t <;> rfl
@[simp] theorem kAnd_ite {p : Prop} [Decidable p] (x y : Rs Dat) : kAnd mb (if p then x else y) = if p then kAnd mb x else kAnd mb y := by split <;> rfl
@[simp] theorem kOr_ite {p : Prop} [Decidable p] (x y : Rs Dat) : kOr mb (if p then x else y) = if p then kOr mb x else kOr mb y := by split <;> rfl
def kNot (r : Rs Dat) : Rs Dat := r.bind fun d S1 => match d with
  | .bl b => .ok (.bl (!b)) S1
  | _ => .bad
@[simp] theorem kNot_bl (t : Bool) : kNot (.ok (.bl t) S) = .ok (.bl (!t)) S := rfl
@[simp] theorem kNot_ite {p : Prop} [Decidable p] (x y : Rs Dat) : kNot (if p then x else y) = if p then kNot x else kNot y := by split <;> rfl
theorem r_not : mNot ma S = kNot (ma S) := by unfold mNot kNot; cases ma S <;> first | rfl | (rename_i d S1; cases d <;> rfl)
def kTr (r : Rs Dat) : Rs Bool := r.bind fun d S1 => match d with
  | .bl b => .ok b S1
  | _ => .bad
theorem r_truth : cTruth ma S = kTr (ma S) := rfl
@[simp] theorem kTr_bl (t : Bool) : kTr (.ok (.bl t) S) = .ok t S := rfl
@[simp] theorem kTr_ite {p : Prop} [Decidable p] (x y : Rs Dat) : kTr (if p then x else y) = if p then kTr x else kTr y := by split <;> rfl
def cAndK (cb : MT) (r : Rs Bool) : Rs Bool := r.bind fun t S1 => if t = true then cb S1 else .ok false S1
def cOrK (cb : MT) (r : Rs Bool) : Rs Bool := r.bind fun t S1 => if t = true then .ok true S1 else cb S1
def cNotK (r : Rs Bool) : Rs Bool := r.bind fun t S1 => .ok (!t) S1
theorem r_cand : cAnd ca cb S = cAndK cb (ca S) := rfl
theorem r_cor : cOr ca cb S = cOrK cb (ca S) := rfl
theorem r_cnot : cNot ca S = cNotK (ca S) := rfl
@[simp] theorem cAndK_ok (t : Bool) : cAndK cb (.ok t S) = if t = true then cb S else .ok false S := rfl
@[simp] theorem cOrK_ok (t : Bool) : cOrK cb (.ok t S) = if t = true then .ok true S else cb S := rfl
@[simp] theorem cNotK_ok (t : Bool) : cNotK (.ok t S) = .ok (!t) S := rfl
@[simp] theorem cAndK_ite {p : Prop} [Decidable p] (x y : Rs Bool) : cAndK cb (if p then x else y) = if p then cAndK cb x else cAndK cb y := by split <;> rfl
@[simp] theorem cOrK_ite {p : Prop} [Decidable p] (x y : Rs Bool) : cOrK cb (if p then x else y) = if p then cOrK cb x else cOrK cb y := by split <;> rfl
@[simp] theorem cNotK_ite {p : Prop} [Decidable p] (x y : Rs Bool) : cNotK (if p then x else y) = if p then cNotK x else cNotK y := by split <;> rfl
def kCh3 (g' : Dat → Dat → Option Dat) (y : Dat) (mc : ME) (r : Rs Dat) : Rs Dat := r.bind fun z S3 => match z with
  | .bl true => k2b g' y (mc S3)
  | .bl false => .ok (.bl false) S3
  | _ => .bad
def kCh2 (g g' : Dat → Dat → Option Dat) (x : Dat) (mc : ME) (r : Rs Dat) : Rs Dat := r.bind fun y S2 => kCh3 g' y mc (Rs.of (g x y) S2)
def kCh (g g' : Dat → Dat → Option Dat) (mb mc : ME) (r : Rs Dat) : Rs Dat := r.bind fun x S1 => kCh2 g g' x mc (mb S1)
theorem r_chain : mChain g g' ma mb mc S = kCh g g' mb mc (ma S) := rfl
@[simp] theorem kCh_ok : kCh g g' mb mc (.ok a S) = kCh2 g g' a mc (mb S) := rfl
@[simp] theorem kCh2_ok : kCh2 g g' a mc (.ok b S) = kCh3 g' b mc (Rs.of (g a b) S) := rfl
@[simp] theorem kCh3_bl (t : Bool) : kCh3 g' b mc (.ok (.bl t) S) = if t = true then k2b g' b (mc S) else .ok (.bl false) S := by cases t <;> rfl
def ixSK (i : Nat) (r : Rs Dat) : Rs Dat := r.bind fun k S1 => match listAt i S1 with
  | some ds => Rs.of (ixD (.lst ds) k) S1
  | none => .bad
theorem r_ixS (i : Nat) : mIxS i ma S = if isMut i S = true then ixSK i (ma S) else k2 ixD ma (mVar i S) := rfl
@[simp] theorem ixSK_ok (i : Nat) : ixSK i (.ok d S) = match listAt i S with
  | some ds => Rs.of (ixD (.lst ds) d) S
  | none => .bad := rfl
def opPK (g : Dat → Dat → Option Dat) (i : Nat) (r : Rs Dat) : Rs Dat := r.bind fun b S1 => match listAt i S1 with
  | some ds => (match g (.lst ds) b with
    | some d => if scal d = true then .ok d S1 else .bad
    | none => .bad)
  | none => .bad
theorem r_opP (i : Nat) : mOpP g i mb S = if isMut i S = true then opPK g i (mb S) else k2 g mb (mVar i S) := rfl
@[simp] theorem opPK_ok (i : Nat) : opPK g i (.ok d S) = match listAt i S with
  | some ds => (match g (.lst ds) d with
    | some d => if scal d = true then .ok d S else .bad
    | none => .bad)
  | none => .bad := rfl
/-! texts -/
def jnK (mb : ME) (r : Rs Dat) : Rs Dat := r.bind fun a S1 => match a with
  | .str x => k2b joinD (.str x) (mb S1)
  | _ => .bad
theorem r_jn : mJn ma mb S = jnK mb (ma S) := rfl
@[simp] theorem jnK_ok (x : Str) : jnK mb (.ok (.str x) S) = k2b joinD (.str x) (mb S) := rfl
/-! calls -/
def fFK (S : Sg) (is : List Nat) : RF → Rs Dat
  | .ok d outs => (match wb S is outs with
    | some S' => .ok d S'
    | none => .bad)
  | .exc c es outs => (match wb S is outs with
    | some S' => .exc c es S'
    | none => .bad)
  | .bad => .bad
@[simp] theorem fFK_ok (is : List Nat) (os : List Own) : fFK S is (.ok d os) = (match wb S is os with | some S' => .ok d S' | none => .bad) := rfl
def apK (Fn : List FA → RF) (S : Sg) : Option (List FA × List Nat) → Rs Dat
  | none => .bad
  | some (fs, is) => if nodupB is = true then fFK S is (Fn fs) else .bad
theorem r_apply (Fn : List FA → RF) (as : List AV) : applyF Fn as S = apK Fn S (fetch S as) := by
  unfold applyF apK
  cases fetch S as with
  | none => rfl
  | some p =>
    obtain ⟨fs, is⟩ := p
    dsimp only
    by_cases h : nodupB is = true
    · rw [if_pos h, if_pos h]; cases Fn fs <;> rfl
    · rw [if_neg h, if_neg h]
@[simp] theorem apK_some (Fn : List FA → RF) (fs : List FA) (is : List Nat) : apK Fn S (some (fs, is)) = if nodupB is = true then fFK S is (Fn fs) else .bad := rfl
def cfK2 (Fn : List FA → RF) (n m : Nat) (arr : List AV → List AV → List AV) (as : List AV) (r : Rs (List AV)) : Rs Dat := r.bind fun bs S2 => if as.length = n ∧ bs.length = m then applyF Fn (arr as bs) S2 else .bad
def cfK (Fn : List FA → RF) (n m : Nat) (arr : List AV → List AV → List AV) (mk : MAv) (r : Rs (List AV)) : Rs Dat := r.bind fun as S1 => cfK2 Fn n m arr as (mk S1)
theorem r_callF (Fn : List FA → RF) (n m : Nat) (arr : List AV → List AV → List AV) (mr mk : MAv) : mCallF Fn n m arr mr mk S = cfK Fn n m arr mk (mr S) := rfl
@[simp] theorem cfK_ok (Fn : List FA → RF) (n m : Nat) (arr : List AV → List AV → List AV) (mk : MAv) (as : List AV) : cfK Fn n m arr mk (.ok as S) = cfK2 Fn n m arr as (mk S) := rfl
@[simp] theorem cfK2_ok (Fn : List FA → RF) (n m : Nat) (arr : List AV → List AV → List AV) (as bs : List AV) : cfK2 Fn n m arr as (.ok bs S) = if as.length = n ∧ bs.length = m then applyF Fn (arr as bs) S else .bad := rfl
theorem r_vnil : vNil S = .ok [] S := rfl
def vd2 (d : Dat) (r : Rs (List AV)) : Rs (List AV) := r.bind fun r S2 => .ok (.dat d :: r) S2
def vd (mr : MAv) (r : Rs Dat) : Rs (List AV) := r.bind fun d S1 => vd2 d (mr S1)
theorem r_vdat (mr : MAv) : vDat ma mr S = vd mr (ma S) := rfl
@[simp] theorem vd_ok (mr : MAv) : vd mr (.ok d S) = vd2 d (mr S) := rfl
@[simp] theorem vd2_ok (as : List AV) : vd2 d (.ok as S) = .ok (.dat d :: as) S := rfl
@[simp] theorem vd_ite {p : Prop} [Decidable p] (mr : MAv) (x y : Rs Dat) : vd mr (if p then x else y) = if p then vd mr x else vd mr y := by split <;> rfl
def vs2 (i : Nat) (r : Rs (List AV)) : Rs (List AV) := r.bind fun r S2 => .ok (.slot i :: r) S2
theorem r_vslot (i : Nat) (mr : MAv) : vSlot i mr S = if isLent i S = true then vs2 i (mr S) else .bad := rfl
@[simp] theorem vs2_ok (i : Nat) (as : List AV) : vs2 i (.ok as S) = .ok (.slot i :: as) S := rfl
def mkK2 (c : Str) (Fn : List FA → RF) (n m : Nat) (arr : List AV → List AV → List AV) (as : List AV) (r : Rs (List AV)) : Rs Dat := r.bind fun bs S2 => if as.length = n ∧ bs.length = m then (match datsOf (arr as bs) with
  | some fs => makeF c Fn fs S2
  | none => .bad) else .bad
def mkK (c : Str) (Fn : List FA → RF) (n m : Nat) (arr : List AV → List AV → List AV) (mk : MAv) (r : Rs (List AV)) : Rs Dat := r.bind fun as S1 => mkK2 c Fn n m arr as (mk S1)
theorem r_make (c : Str) (Fn : List FA → RF) (n m : Nat) (arr : List AV → List AV → List AV) (mr mk : MAv) : mMake c Fn n m arr mr mk S = mkK c Fn n m arr mk (mr S) := rfl
@[simp] theorem mkK_ok (c : Str) (Fn : List FA → RF) (n m : Nat) (arr : List AV → List AV → List AV) (mk : MAv) (as : List AV) : mkK c Fn n m arr mk (.ok as S) = mkK2 c Fn n m arr as (mk S) := rfl
@[simp] theorem mkK2_ok (c : Str) (Fn : List FA → RF) (n m : Nat) (arr : List AV → List AV → List AV) (as bs : List AV) : mkK2 c Fn n m arr as (.ok bs S) = if as.length = n ∧ bs.length = m then (match datsOf (arr as bs) with | some fs => makeF c Fn fs S | none => .bad) else .bad := rfl
def propK (cs : List Str) (Fn : List FA → RF) (r : Rs Dat) : Rs Dat := r.bind fun d S1 => match d with
  | .ins c fs => if cs.contains c then (applyF Fn [.dat (.ins c fs)] S1).calm else .bad
  | _ => .bad
theorem r_prop (cs : List Str) (Fn : List FA → RF) : mProp cs Fn ma S = propK cs Fn (ma S) := rfl
@[simp] theorem propK_ok (cs : List Str) (Fn : List FA → RF) (c : Str) (fs : List (Str × Dat)) : propK cs Fn (.ok (.ins c fs) S) = if cs.contains c = true then (applyF Fn [.dat (.ins c fs)] S).calm else .bad := rfl
end
end Mir

namespace K31
open PySem PySem.Spec PyProof.Rows L2 Mir
def topS (i : Nat) : Stmt := PySem.Challenge.pw_dueways_k31_stretches.main.body.getD i (.Pass ⟨0, 0, 0, 0⟩)
abbrev s_l_draw : Stmt := topS 18
abbrev s_l_choice : Stmt := topS 19
abbrev s_l_parts : Stmt := topS 20
abbrev s_is_integer : Stmt := topS 6
abbrev s_is_count : Stmt := topS 7
abbrev s_is_tick : Stmt := topS 8
abbrev s_Visit_init0 : Stmt := inClass (topS 12) 0
abbrev s_l_made : Stmt := topS 21
abbrev s_l_due : Stmt := topS 22
abbrev s_check_window : Stmt := topS 11
abbrev s_Visit_begin : Stmt := inClass (topS 12) 3
abbrev s_Visit_end : Stmt := inClass (topS 12) 4
abbrev s_cut_to_life : Stmt := topS 13
abbrev s_Visit_time : Stmt := inClass (topS 12) 1
abbrev s_Visit_shift : Stmt := inClass (topS 12) 2
abbrev s_urgent_entries : Stmt := topS 14
abbrev s_stretch : Stmt := topS 15
abbrev s_Visit_repr0 : Stmt := inClass (topS 12) 6
abbrev s_l_told_right : Stmt := topS 23
abbrev s_Visit_eq0 : Stmt := inClass (topS 12) 5
abbrev s_l_equal_right : Stmt := topS 24
abbrev s_l_right : Stmt := topS 25
abbrev s_l_rng : Stmt := topS 17
abbrev s_law : Stmt := topS 26
def d_l_draw : DefM := ⟨.glo "_law_draw", "_law_draw", "_law_draw", s_l_draw, [], []⟩
def d_l_choice : DefM := ⟨.glo "_law_choice", "_law_choice", "_law_choice", s_l_choice, [], []⟩
def d_l_parts : DefM := ⟨.glo "_law_parts", "_law_parts", "_law_parts", s_l_parts, [], []⟩
def d_is_integer : DefM := ⟨.glo "is_integer", "is_integer", "is_integer", s_is_integer, [], []⟩
def d_is_count : DefM := ⟨.glo "is_count", "is_count", "is_count", s_is_count, [.non], []⟩
def d_is_tick : DefM := ⟨.glo "is_tick", "is_tick", "is_tick", s_is_tick, [], []⟩
def d_Visit_init0 : DefM := ⟨.mth "Visit" "__init__", "__init__", "Visit.__init__", s_Visit_init0, [], [("shift", .int 0), ("begin", .int 0), ("end", .non)]⟩
def d_l_made : DefM := ⟨.glo "_law_made", "_law_made", "_law_made", s_l_made, [], []⟩
def d_l_due : DefM := ⟨.glo "_law_due", "_law_due", "_law_due", s_l_due, [], []⟩
def d_check_window : DefM := ⟨.glo "check_window", "check_window", "check_window", s_check_window, [], []⟩
def d_Visit_begin : DefM := ⟨.get "Visit" "begin", "begin", "Visit.begin", s_Visit_begin, [], []⟩
def d_Visit_end : DefM := ⟨.get "Visit" "end", "end", "Visit.end", s_Visit_end, [], []⟩
def d_cut_to_life : DefM := ⟨.glo "cut_to_life", "cut_to_life", "cut_to_life", s_cut_to_life, [], []⟩
def d_Visit_time : DefM := ⟨.get "Visit" "time", "time", "Visit.time", s_Visit_time, [], []⟩
def d_Visit_shift : DefM := ⟨.get "Visit" "shift", "shift", "Visit.shift", s_Visit_shift, [], []⟩
def d_urgent_entries : DefM := ⟨.glo "urgent_entries", "urgent_entries", "urgent_entries", s_urgent_entries, [], []⟩
def d_stretch : DefM := ⟨.glo "stretch", "stretch", "stretch", s_stretch, [], []⟩
def d_Visit_repr0 : DefM := ⟨.mth "Visit" "__repr__", "__repr__", "Visit.__repr__", s_Visit_repr0, [], []⟩
def d_l_told_right : DefM := ⟨.glo "_law_told_right", "_law_told_right", "_law_told_right", s_l_told_right, [], []⟩
def d_Visit_eq0 : DefM := ⟨.mth "Visit" "__eq__", "__eq__", "Visit.__eq__", s_Visit_eq0, [], []⟩
def d_l_equal_right : DefM := ⟨.glo "_law_equal_right", "_law_equal_right", "_law_equal_right", s_l_equal_right, [], []⟩
def d_l_right : DefM := ⟨.glo "_law_right", "_law_right", "_law_right", s_l_right, [], []⟩
def d_l_rng : DefM := ⟨.glo "_law_rng", "_law_rng", "_law_rng", s_l_rng, [], []⟩
def d_law : DefM := ⟨.glo "law", "law", "law", s_law, [], []⟩
def fn : List DefM := [d_l_draw, d_l_choice, d_l_parts, d_is_integer, d_is_count, d_is_tick, d_Visit_init0, d_l_made, d_l_due, d_check_window, d_Visit_begin, d_Visit_end, d_cut_to_life, d_Visit_time, d_Visit_shift, d_urgent_entries, d_stretch, d_Visit_repr0, d_l_told_right, d_Visit_eq0, d_l_equal_right, d_l_right, d_l_rng, d_law]
def fa : List Fc := [.he (.free "len"),
  .he (.free "min"),
  .he (.free "max"),
  .he (.free "range"),
  .he (.free "divmod"),
  .he (.free "int"),
  .he (.glo "_law_draw"),
  .he (.glo "_law_choice"),
  .he (.glo "_law_parts"),
  .kit (.b "dict") (.b "int") false,
  .kit (.b "tuple") (.b "int") false,
  .kit (.b "list") (.b "int") false,
  .kit (.b "str") (.b "int") false,
  .kit (.b "int") (.b "int") true,
  .kit (.b "bool") (.b "int") true,
  .kit (.b "NoneType") (.b "int") false,
  .clsF "Visit",
  .kit (.c "Visit") (.b "int") false,
  .he (.free "isinstance"),
  .kit (.b "dict") (.b "bool") false,
  .kit (.b "tuple") (.b "bool") false,
  .kit (.b "list") (.b "bool") false,
  .kit (.b "str") (.b "bool") false,
  .kit (.b "int") (.b "bool") false,
  .kit (.b "bool") (.b "bool") true,
  .kit (.b "NoneType") (.b "bool") false,
  .kit (.c "Visit") (.b "bool") false,
  .he (.free "bool"),
  .he (.glo "is_integer"),
  .he (.glo "is_count"),
  .he (.int "MAX_TIME" 12),
  .he (.int "MAX_TICK" 1000),
  .he (.glo "is_tick"),
  .he (.noat "Visit" "kept"),
  .he (.mkr "Visit"),
  .he (.glo "Visit"),
  .he (.glo "_law_made"),
  .he (.glo "_law_due"),
  .he (.free "repr"),
  .he (.glo "check_window"),
  .prop "Visit" "begin",
  .prop "Visit" "end",
  .prop "Visit" "time",
  .prop "Visit" "shift",
  .he (.glo "cut_to_life"),
  .he (.glo "urgent_entries"),
  .he (.glo "stretch"),
  .rep "Visit",
  .he (.free "str"),
  .he (.glo "_law_told_right"),
  .he (.free "list"),
  .kit (.b "dict") (.c "Visit") false,
  .kit (.b "tuple") (.c "Visit") false,
  .kit (.b "list") (.c "Visit") false,
  .kit (.b "str") (.c "Visit") false,
  .kit (.b "int") (.c "Visit") false,
  .kit (.b "bool") (.c "Visit") false,
  .kit (.b "NoneType") (.c "Visit") false,
  .kit (.c "Visit") (.c "Visit") true,
  .nf "Visit" "Visit",
  .eqf "Visit",
  .he (.free "tuple"),
  .he (.glo "_law_equal_right"),
  .he (.free "abs"),
  .he (.glo "_law_rng"),
  .he (.glo "_law_right"),
  .he (.free "all"),
  .he (.glo "law")]
theorem bd_l_draw_2 {K : PySem.W.Frag} {fd : FuncData} (D : FunM K d_l_draw fd) : ∃ g, KBn K fd ["_law_rng_here", "_law_many"] 2 [] g (fun vs zs => [vs.getD 0 .non, vs.getD 1 .non]) :=
  kb_plain D 2 [] (fun us ws => [us.getD 0 .none, us.getD 1 .none]) (fun vs zs => [vs.getD 0 .non, vs.getD 1 .non]) (fun r1 r2 => .cons (Vals.at r1 0) (.cons (Vals.at r1 1) (.nil))) (fun _ _ _ _ _ _ us ws h1 h2 => match us, h1, ws, h2 with | [u0, u1], _, [], _ => rfl)
theorem ar_bd_l_draw_2 : Arr 2 0 (fun vs zs => [vs.getD 0 .non, vs.getD 1 .non]) (fun as bs => [as.getD 0 (.dat .non), as.getD 1 (.dat .non)]) := ⟨fun {cm K σ G vs zs as bs} l1 l2 a b => by
  match vs, l1, zs, l2, a, b with
  | [v0, v1], _, [], _, a, b => exact AvsOk.cons (a.at 0) (AvsOk.cons (a.at 1) (.nil))⟩
theorem bs_bd_l_draw_2 {K : PySem.W.Frag} {fd : FuncData} (D : FunM K d_l_draw fd) : ∃ g, KBn K fd ["_law_rng_here", "_law_many"] 2 [] g (fun vs _ => vs) :=
  kb_plain D 2 [] (fun us _ => us) (fun vs _ => vs) (fun r1 _ => r1) (fun _ _ _ _ _ _ us ws h1 h2 => match us, h1, ws, h2 with | [u0, u1], _, [], _ => rfl)
theorem bd_l_choice_2 {K : PySem.W.Frag} {fd : FuncData} (D : FunM K d_l_choice fd) : ∃ g, KBn K fd ["_law_rng_here", "_law_some"] 2 [] g (fun vs zs => [vs.getD 0 .non, vs.getD 1 .non]) :=
  kb_plain D 2 [] (fun us ws => [us.getD 0 .none, us.getD 1 .none]) (fun vs zs => [vs.getD 0 .non, vs.getD 1 .non]) (fun r1 r2 => .cons (Vals.at r1 0) (.cons (Vals.at r1 1) (.nil))) (fun _ _ _ _ _ _ us ws h1 h2 => match us, h1, ws, h2 with | [u0, u1], _, [], _ => rfl)
theorem ar_bd_l_choice_2 : Arr 2 0 (fun vs zs => [vs.getD 0 .non, vs.getD 1 .non]) (fun as bs => [as.getD 0 (.dat .non), as.getD 1 (.dat .non)]) := ⟨fun {cm K σ G vs zs as bs} l1 l2 a b => by
  match vs, l1, zs, l2, a, b with
  | [v0, v1], _, [], _, a, b => exact AvsOk.cons (a.at 0) (AvsOk.cons (a.at 1) (.nil))⟩
theorem bs_bd_l_choice_2 {K : PySem.W.Frag} {fd : FuncData} (D : FunM K d_l_choice fd) : ∃ g, KBn K fd ["_law_rng_here", "_law_some"] 2 [] g (fun vs _ => vs) :=
  kb_plain D 2 [] (fun us _ => us) (fun vs _ => vs) (fun r1 _ => r1) (fun _ _ _ _ _ _ us ws h1 h2 => match us, h1, ws, h2 with | [u0, u1], _, [], _ => rfl)
theorem bd_l_parts_1 {K : PySem.W.Frag} {fd : FuncData} (D : FunM K d_l_parts fd) : ∃ g, KBn K fd ["_law_rng_here"] 1 [] g (fun vs zs => [vs.getD 0 .non]) :=
  kb_plain D 1 [] (fun us ws => [us.getD 0 .none]) (fun vs zs => [vs.getD 0 .non]) (fun r1 r2 => .cons (Vals.at r1 0) (.nil)) (fun _ _ _ _ _ _ us ws h1 h2 => match us, h1, ws, h2 with | [u0], _, [], _ => rfl)
theorem ar_bd_l_parts_1 : Arr 1 0 (fun vs zs => [vs.getD 0 .non]) (fun as bs => [as.getD 0 (.dat .non)]) := ⟨fun {cm K σ G vs zs as bs} l1 l2 a b => by
  match vs, l1, zs, l2, a, b with
  | [v0], _, [], _, a, b => exact AvsOk.cons (a.at 0) (.nil)⟩
theorem bs_bd_l_parts_1 {K : PySem.W.Frag} {fd : FuncData} (D : FunM K d_l_parts fd) : ∃ g, KBn K fd ["_law_rng_here"] 1 [] g (fun vs _ => vs) :=
  kb_plain D 1 [] (fun us _ => us) (fun vs _ => vs) (fun r1 _ => r1) (fun _ _ _ _ _ _ us ws h1 h2 => match us, h1, ws, h2 with | [u0], _, [], _ => rfl)
theorem bd_is_integer_1 {K : PySem.W.Frag} {fd : FuncData} (D : FunM K d_is_integer fd) : ∃ g, KBn K fd ["value"] 1 [] g (fun vs zs => [vs.getD 0 .non]) :=
  kb_plain D 1 [] (fun us ws => [us.getD 0 .none]) (fun vs zs => [vs.getD 0 .non]) (fun r1 r2 => .cons (Vals.at r1 0) (.nil)) (fun _ _ _ _ _ _ us ws h1 h2 => match us, h1, ws, h2 with | [u0], _, [], _ => rfl)
theorem ar_bd_is_integer_1 : Arr 1 0 (fun vs zs => [vs.getD 0 .non]) (fun as bs => [as.getD 0 (.dat .non)]) := ⟨fun {cm K σ G vs zs as bs} l1 l2 a b => by
  match vs, l1, zs, l2, a, b with
  | [v0], _, [], _, a, b => exact AvsOk.cons (a.at 0) (.nil)⟩
theorem bs_bd_is_integer_1 {K : PySem.W.Frag} {fd : FuncData} (D : FunM K d_is_integer fd) : ∃ g, KBn K fd ["value"] 1 [] g (fun vs _ => vs) :=
  kb_plain D 1 [] (fun us _ => us) (fun vs _ => vs) (fun r1 _ => r1) (fun _ _ _ _ _ _ us ws h1 h2 => match us, h1, ws, h2 with | [u0], _, [], _ => rfl)
theorem bd_is_count_1 {K : PySem.W.Frag} {fd : FuncData} (D : FunM K d_is_count fd) : ∃ g, KBn K fd ["value", "most"] 1 [] g (fun vs zs => (vs.drop 0).take 1 ++ ((([.non] : List V).drop 0).take 1)) :=
  kb_dfl D 1 [] (fun {α} vs ds zs => (vs.drop 0).take 1 ++ ((ds.drop 0).take 1)) (List.cons_ne_nil _ _) (fun r1 r2 r3 => vapp (vp r1 0) (vp r2 0)) (fun _ _ _ _ _ _ _ us its ws h1 h2 h3 => match us, h1, its, h2, ws, h3 with | [u0], _, [i0], _, [], _ => ⟨_, rfl, rfl⟩)
theorem ar_bd_is_count_1 : Arr 1 0 (fun vs zs => (vs.drop 0).take 1 ++ ((([.non] : List V).drop 0).take 1)) (fun as bs => [as.getD 0 (.dat .non), .dat (.non)]) := ⟨fun {cm K σ G vs zs as bs} l1 l2 a b => by
  match vs, l1, zs, l2, a, b with
  | [v0], _, [], _, a, b => exact AvsOk.cons (a.at 0) (AvsOk.cons (.dat (.non)) (.nil))⟩
theorem bd_is_count_2 {K : PySem.W.Frag} {fd : FuncData} (D : FunM K d_is_count fd) : ∃ g, KBn K fd ["value", "most"] 2 [] g (fun vs zs => (vs.drop 0).take 1 ++ ((vs.drop 1).take 1)) :=
  kb_dfl D 2 [] (fun {α} vs ds zs => (vs.drop 0).take 1 ++ ((vs.drop 1).take 1)) (List.cons_ne_nil _ _) (fun r1 r2 r3 => vapp (vp r1 0) (vp r1 1)) (fun _ _ _ _ _ _ _ us its ws h1 h2 h3 => match us, h1, its, h2, ws, h3 with | [u0, u1], _, [i0], _, [], _ => ⟨_, rfl, rfl⟩)
theorem ar_bd_is_count_2 : Arr 2 0 (fun vs zs => (vs.drop 0).take 1 ++ ((vs.drop 1).take 1)) (fun as bs => [as.getD 0 (.dat .non), as.getD 1 (.dat .non)]) := ⟨fun {cm K σ G vs zs as bs} l1 l2 a b => by
  match vs, l1, zs, l2, a, b with
  | [v0, v1], _, [], _, a, b => exact AvsOk.cons (a.at 0) (AvsOk.cons (a.at 1) (.nil))⟩
theorem bd_is_tick_1 {K : PySem.W.Frag} {fd : FuncData} (D : FunM K d_is_tick fd) : ∃ g, KBn K fd ["value"] 1 [] g (fun vs zs => [vs.getD 0 .non]) :=
  kb_plain D 1 [] (fun us ws => [us.getD 0 .none]) (fun vs zs => [vs.getD 0 .non]) (fun r1 r2 => .cons (Vals.at r1 0) (.nil)) (fun _ _ _ _ _ _ us ws h1 h2 => match us, h1, ws, h2 with | [u0], _, [], _ => rfl)
theorem ar_bd_is_tick_1 : Arr 1 0 (fun vs zs => [vs.getD 0 .non]) (fun as bs => [as.getD 0 (.dat .non)]) := ⟨fun {cm K σ G vs zs as bs} l1 l2 a b => by
  match vs, l1, zs, l2, a, b with
  | [v0], _, [], _, a, b => exact AvsOk.cons (a.at 0) (.nil)⟩
theorem bs_bd_is_tick_1 {K : PySem.W.Frag} {fd : FuncData} (D : FunM K d_is_tick fd) : ∃ g, KBn K fd ["value"] 1 [] g (fun vs _ => vs) :=
  kb_plain D 1 [] (fun us _ => us) (fun vs _ => vs) (fun r1 _ => r1) (fun _ _ _ _ _ _ us ws h1 h2 => match us, h1, ws, h2 with | [u0], _, [], _ => rfl)
theorem bd_Visit_init0_2_shift_begin_end {K : PySem.W.Frag} {fd : FuncData} (D : FunM K d_Visit_init0 fd) : ∃ g, KBn K fd ["self", "time", "shift", "begin", "end"] 2 ["shift", "begin", "end"] g (fun vs zs => [vs.getD 0 .non, vs.getD 1 .non, zs.getD 0 .non, zs.getD 1 .non, zs.getD 2 .non]) :=
  kb_plain D 2 ["shift", "begin", "end"] (fun us ws => [us.getD 0 .none, us.getD 1 .none, ws.getD 0 .none, ws.getD 1 .none, ws.getD 2 .none]) (fun vs zs => [vs.getD 0 .non, vs.getD 1 .non, zs.getD 0 .non, zs.getD 1 .non, zs.getD 2 .non]) (fun r1 r2 => .cons (Vals.at r1 0) (.cons (Vals.at r1 1) (.cons (Vals.at r2 0) (.cons (Vals.at r2 1) (.cons (Vals.at r2 2) (.nil)))))) (fun _ _ _ _ _ _ us ws h1 h2 => match us, h1, ws, h2 with | [u0, u1], _, [w0, w1, w2], _ => rfl)
theorem ar_bd_Visit_init0_2_shift_begin_end : Arr 2 3 (fun vs zs => [vs.getD 0 .non, vs.getD 1 .non, zs.getD 0 .non, zs.getD 1 .non, zs.getD 2 .non]) (fun as bs => [as.getD 0 (.dat .non), as.getD 1 (.dat .non), bs.getD 0 (.dat .non), bs.getD 1 (.dat .non), bs.getD 2 (.dat .non)]) := ⟨fun {cm K σ G vs zs as bs} l1 l2 a b => by
  match vs, l1, zs, l2, a, b with
  | [v0, v1], _, [z0, z1, z2], _, a, b => exact AvsOk.cons (a.at 0) (AvsOk.cons (a.at 1) (AvsOk.cons (b.at 0) (AvsOk.cons (b.at 1) (AvsOk.cons (b.at 2) (.nil)))))⟩
theorem as_bd_Visit_init0_2_shift_begin_end : Arr 1 3 (fun vs zs => [vs.getD 0 .non, zs.getD 0 .non, zs.getD 1 .non, zs.getD 2 .non]) (fun as bs => [as.getD 0 (.dat .non), bs.getD 0 (.dat .non), bs.getD 1 (.dat .non), bs.getD 2 (.dat .non)]) := ⟨fun {cm K σ G vs zs as bs} l1 l2 a b => by
  match vs, l1, zs, l2, a, b with
  | [v0], _, [z0, z1, z2], _, a, b => exact AvsOk.cons (a.at 0) (AvsOk.cons (b.at 0) (AvsOk.cons (b.at 1) (AvsOk.cons (b.at 2) (.nil))))⟩
theorem bd_l_made_1 {K : PySem.W.Frag} {fd : FuncData} (D : FunM K d_l_made fd) : ∃ g, KBn K fd ["_law_parts_here"] 1 [] g (fun vs zs => [vs.getD 0 .non]) :=
  kb_plain D 1 [] (fun us ws => [us.getD 0 .none]) (fun vs zs => [vs.getD 0 .non]) (fun r1 r2 => .cons (Vals.at r1 0) (.nil)) (fun _ _ _ _ _ _ us ws h1 h2 => match us, h1, ws, h2 with | [u0], _, [], _ => rfl)
theorem ar_bd_l_made_1 : Arr 1 0 (fun vs zs => [vs.getD 0 .non]) (fun as bs => [as.getD 0 (.dat .non)]) := ⟨fun {cm K σ G vs zs as bs} l1 l2 a b => by
  match vs, l1, zs, l2, a, b with
  | [v0], _, [], _, a, b => exact AvsOk.cons (a.at 0) (.nil)⟩
theorem bs_bd_l_made_1 {K : PySem.W.Frag} {fd : FuncData} (D : FunM K d_l_made fd) : ∃ g, KBn K fd ["_law_parts_here"] 1 [] g (fun vs _ => vs) :=
  kb_plain D 1 [] (fun us _ => us) (fun vs _ => vs) (fun r1 _ => r1) (fun _ _ _ _ _ _ us ws h1 h2 => match us, h1, ws, h2 with | [u0], _, [], _ => rfl)
theorem bd_l_due_3 {K : PySem.W.Frag} {fd : FuncData} (D : FunM K d_l_due fd) : ∃ g, KBn K fd ["_law_parts_here", "_law_low", "_law_high"] 3 [] g (fun vs zs => [vs.getD 0 .non, vs.getD 1 .non, vs.getD 2 .non]) :=
  kb_plain D 3 [] (fun us ws => [us.getD 0 .none, us.getD 1 .none, us.getD 2 .none]) (fun vs zs => [vs.getD 0 .non, vs.getD 1 .non, vs.getD 2 .non]) (fun r1 r2 => .cons (Vals.at r1 0) (.cons (Vals.at r1 1) (.cons (Vals.at r1 2) (.nil)))) (fun _ _ _ _ _ _ us ws h1 h2 => match us, h1, ws, h2 with | [u0, u1, u2], _, [], _ => rfl)
theorem ar_bd_l_due_3 : Arr 3 0 (fun vs zs => [vs.getD 0 .non, vs.getD 1 .non, vs.getD 2 .non]) (fun as bs => [as.getD 0 (.dat .non), as.getD 1 (.dat .non), as.getD 2 (.dat .non)]) := ⟨fun {cm K σ G vs zs as bs} l1 l2 a b => by
  match vs, l1, zs, l2, a, b with
  | [v0, v1, v2], _, [], _, a, b => exact AvsOk.cons (a.at 0) (AvsOk.cons (a.at 1) (AvsOk.cons (a.at 2) (.nil)))⟩
theorem bs_bd_l_due_3 {K : PySem.W.Frag} {fd : FuncData} (D : FunM K d_l_due fd) : ∃ g, KBn K fd ["_law_parts_here", "_law_low", "_law_high"] 3 [] g (fun vs _ => vs) :=
  kb_plain D 3 [] (fun us _ => us) (fun vs _ => vs) (fun r1 _ => r1) (fun _ _ _ _ _ _ us ws h1 h2 => match us, h1, ws, h2 with | [u0, u1, u2], _, [], _ => rfl)
theorem bd_check_window_2 {K : PySem.W.Frag} {fd : FuncData} (D : FunM K d_check_window fd) : ∃ g, KBn K fd ["start", "end"] 2 [] g (fun vs zs => [vs.getD 0 .non, vs.getD 1 .non]) :=
  kb_plain D 2 [] (fun us ws => [us.getD 0 .none, us.getD 1 .none]) (fun vs zs => [vs.getD 0 .non, vs.getD 1 .non]) (fun r1 r2 => .cons (Vals.at r1 0) (.cons (Vals.at r1 1) (.nil))) (fun _ _ _ _ _ _ us ws h1 h2 => match us, h1, ws, h2 with | [u0, u1], _, [], _ => rfl)
theorem ar_bd_check_window_2 : Arr 2 0 (fun vs zs => [vs.getD 0 .non, vs.getD 1 .non]) (fun as bs => [as.getD 0 (.dat .non), as.getD 1 (.dat .non)]) := ⟨fun {cm K σ G vs zs as bs} l1 l2 a b => by
  match vs, l1, zs, l2, a, b with
  | [v0, v1], _, [], _, a, b => exact AvsOk.cons (a.at 0) (AvsOk.cons (a.at 1) (.nil))⟩
theorem bs_bd_check_window_2 {K : PySem.W.Frag} {fd : FuncData} (D : FunM K d_check_window fd) : ∃ g, KBn K fd ["start", "end"] 2 [] g (fun vs _ => vs) :=
  kb_plain D 2 [] (fun us _ => us) (fun vs _ => vs) (fun r1 _ => r1) (fun _ _ _ _ _ _ us ws h1 h2 => match us, h1, ws, h2 with | [u0, u1], _, [], _ => rfl)
theorem bd_Visit_begin_1 {K : PySem.W.Frag} {fd : FuncData} (D : FunM K d_Visit_begin fd) : ∃ g, KBn K fd ["self"] 1 [] g (fun vs zs => [vs.getD 0 .non]) :=
  kb_plain D 1 [] (fun us ws => [us.getD 0 .none]) (fun vs zs => [vs.getD 0 .non]) (fun r1 r2 => .cons (Vals.at r1 0) (.nil)) (fun _ _ _ _ _ _ us ws h1 h2 => match us, h1, ws, h2 with | [u0], _, [], _ => rfl)
theorem ar_bd_Visit_begin_1 : Arr 1 0 (fun vs zs => [vs.getD 0 .non]) (fun as bs => [as.getD 0 (.dat .non)]) := ⟨fun {cm K σ G vs zs as bs} l1 l2 a b => by
  match vs, l1, zs, l2, a, b with
  | [v0], _, [], _, a, b => exact AvsOk.cons (a.at 0) (.nil)⟩
theorem bs_bd_Visit_begin_1 {K : PySem.W.Frag} {fd : FuncData} (D : FunM K d_Visit_begin fd) : ∃ g, KBn K fd ["self"] 1 [] g (fun vs _ => vs) :=
  kb_plain D 1 [] (fun us _ => us) (fun vs _ => vs) (fun r1 _ => r1) (fun _ _ _ _ _ _ us ws h1 h2 => match us, h1, ws, h2 with | [u0], _, [], _ => rfl)
theorem bd_Visit_end_1 {K : PySem.W.Frag} {fd : FuncData} (D : FunM K d_Visit_end fd) : ∃ g, KBn K fd ["self"] 1 [] g (fun vs zs => [vs.getD 0 .non]) :=
  kb_plain D 1 [] (fun us ws => [us.getD 0 .none]) (fun vs zs => [vs.getD 0 .non]) (fun r1 r2 => .cons (Vals.at r1 0) (.nil)) (fun _ _ _ _ _ _ us ws h1 h2 => match us, h1, ws, h2 with | [u0], _, [], _ => rfl)
theorem ar_bd_Visit_end_1 : Arr 1 0 (fun vs zs => [vs.getD 0 .non]) (fun as bs => [as.getD 0 (.dat .non)]) := ⟨fun {cm K σ G vs zs as bs} l1 l2 a b => by
  match vs, l1, zs, l2, a, b with
  | [v0], _, [], _, a, b => exact AvsOk.cons (a.at 0) (.nil)⟩
theorem bs_bd_Visit_end_1 {K : PySem.W.Frag} {fd : FuncData} (D : FunM K d_Visit_end fd) : ∃ g, KBn K fd ["self"] 1 [] g (fun vs _ => vs) :=
  kb_plain D 1 [] (fun us _ => us) (fun vs _ => vs) (fun r1 _ => r1) (fun _ _ _ _ _ _ us ws h1 h2 => match us, h1, ws, h2 with | [u0], _, [], _ => rfl)
theorem bd_cut_to_life_3 {K : PySem.W.Frag} {fd : FuncData} (D : FunM K d_cut_to_life fd) : ∃ g, KBn K fd ["visit", "first", "behind"] 3 [] g (fun vs zs => [vs.getD 0 .non, vs.getD 1 .non, vs.getD 2 .non]) :=
  kb_plain D 3 [] (fun us ws => [us.getD 0 .none, us.getD 1 .none, us.getD 2 .none]) (fun vs zs => [vs.getD 0 .non, vs.getD 1 .non, vs.getD 2 .non]) (fun r1 r2 => .cons (Vals.at r1 0) (.cons (Vals.at r1 1) (.cons (Vals.at r1 2) (.nil)))) (fun _ _ _ _ _ _ us ws h1 h2 => match us, h1, ws, h2 with | [u0, u1, u2], _, [], _ => rfl)
theorem ar_bd_cut_to_life_3 : Arr 3 0 (fun vs zs => [vs.getD 0 .non, vs.getD 1 .non, vs.getD 2 .non]) (fun as bs => [as.getD 0 (.dat .non), as.getD 1 (.dat .non), as.getD 2 (.dat .non)]) := ⟨fun {cm K σ G vs zs as bs} l1 l2 a b => by
  match vs, l1, zs, l2, a, b with
  | [v0, v1, v2], _, [], _, a, b => exact AvsOk.cons (a.at 0) (AvsOk.cons (a.at 1) (AvsOk.cons (a.at 2) (.nil)))⟩
theorem bs_bd_cut_to_life_3 {K : PySem.W.Frag} {fd : FuncData} (D : FunM K d_cut_to_life fd) : ∃ g, KBn K fd ["visit", "first", "behind"] 3 [] g (fun vs _ => vs) :=
  kb_plain D 3 [] (fun us _ => us) (fun vs _ => vs) (fun r1 _ => r1) (fun _ _ _ _ _ _ us ws h1 h2 => match us, h1, ws, h2 with | [u0, u1, u2], _, [], _ => rfl)
theorem bd_Visit_time_1 {K : PySem.W.Frag} {fd : FuncData} (D : FunM K d_Visit_time fd) : ∃ g, KBn K fd ["self"] 1 [] g (fun vs zs => [vs.getD 0 .non]) :=
  kb_plain D 1 [] (fun us ws => [us.getD 0 .none]) (fun vs zs => [vs.getD 0 .non]) (fun r1 r2 => .cons (Vals.at r1 0) (.nil)) (fun _ _ _ _ _ _ us ws h1 h2 => match us, h1, ws, h2 with | [u0], _, [], _ => rfl)
theorem ar_bd_Visit_time_1 : Arr 1 0 (fun vs zs => [vs.getD 0 .non]) (fun as bs => [as.getD 0 (.dat .non)]) := ⟨fun {cm K σ G vs zs as bs} l1 l2 a b => by
  match vs, l1, zs, l2, a, b with
  | [v0], _, [], _, a, b => exact AvsOk.cons (a.at 0) (.nil)⟩
theorem bs_bd_Visit_time_1 {K : PySem.W.Frag} {fd : FuncData} (D : FunM K d_Visit_time fd) : ∃ g, KBn K fd ["self"] 1 [] g (fun vs _ => vs) :=
  kb_plain D 1 [] (fun us _ => us) (fun vs _ => vs) (fun r1 _ => r1) (fun _ _ _ _ _ _ us ws h1 h2 => match us, h1, ws, h2 with | [u0], _, [], _ => rfl)
theorem bd_Visit_shift_1 {K : PySem.W.Frag} {fd : FuncData} (D : FunM K d_Visit_shift fd) : ∃ g, KBn K fd ["self"] 1 [] g (fun vs zs => [vs.getD 0 .non]) :=
  kb_plain D 1 [] (fun us ws => [us.getD 0 .none]) (fun vs zs => [vs.getD 0 .non]) (fun r1 r2 => .cons (Vals.at r1 0) (.nil)) (fun _ _ _ _ _ _ us ws h1 h2 => match us, h1, ws, h2 with | [u0], _, [], _ => rfl)
theorem ar_bd_Visit_shift_1 : Arr 1 0 (fun vs zs => [vs.getD 0 .non]) (fun as bs => [as.getD 0 (.dat .non)]) := ⟨fun {cm K σ G vs zs as bs} l1 l2 a b => by
  match vs, l1, zs, l2, a, b with
  | [v0], _, [], _, a, b => exact AvsOk.cons (a.at 0) (.nil)⟩
theorem bs_bd_Visit_shift_1 {K : PySem.W.Frag} {fd : FuncData} (D : FunM K d_Visit_shift fd) : ∃ g, KBn K fd ["self"] 1 [] g (fun vs _ => vs) :=
  kb_plain D 1 [] (fun us _ => us) (fun vs _ => vs) (fun r1 _ => r1) (fun _ _ _ _ _ _ us ws h1 h2 => match us, h1, ws, h2 with | [u0], _, [], _ => rfl)
theorem bd_urgent_entries_3 {K : PySem.W.Frag} {fd : FuncData} (D : FunM K d_urgent_entries fd) : ∃ g, KBn K fd ["visit", "start", "end"] 3 [] g (fun vs zs => [vs.getD 0 .non, vs.getD 1 .non, vs.getD 2 .non]) :=
  kb_plain D 3 [] (fun us ws => [us.getD 0 .none, us.getD 1 .none, us.getD 2 .none]) (fun vs zs => [vs.getD 0 .non, vs.getD 1 .non, vs.getD 2 .non]) (fun r1 r2 => .cons (Vals.at r1 0) (.cons (Vals.at r1 1) (.cons (Vals.at r1 2) (.nil)))) (fun _ _ _ _ _ _ us ws h1 h2 => match us, h1, ws, h2 with | [u0, u1, u2], _, [], _ => rfl)
theorem ar_bd_urgent_entries_3 : Arr 3 0 (fun vs zs => [vs.getD 0 .non, vs.getD 1 .non, vs.getD 2 .non]) (fun as bs => [as.getD 0 (.dat .non), as.getD 1 (.dat .non), as.getD 2 (.dat .non)]) := ⟨fun {cm K σ G vs zs as bs} l1 l2 a b => by
  match vs, l1, zs, l2, a, b with
  | [v0, v1, v2], _, [], _, a, b => exact AvsOk.cons (a.at 0) (AvsOk.cons (a.at 1) (AvsOk.cons (a.at 2) (.nil)))⟩
theorem bs_bd_urgent_entries_3 {K : PySem.W.Frag} {fd : FuncData} (D : FunM K d_urgent_entries fd) : ∃ g, KBn K fd ["visit", "start", "end"] 3 [] g (fun vs _ => vs) :=
  kb_plain D 3 [] (fun us _ => us) (fun vs _ => vs) (fun r1 _ => r1) (fun _ _ _ _ _ _ us ws h1 h2 => match us, h1, ws, h2 with | [u0, u1, u2], _, [], _ => rfl)
theorem bd_stretch_1_end_start {K : PySem.W.Frag} {fd : FuncData} (D : FunM K d_stretch fd) : ∃ g, KBn K fd ["visit", "start", "end"] 1 ["end", "start"] g (fun vs zs => [vs.getD 0 .non, zs.getD 1 .non, zs.getD 0 .non]) :=
  kb_plain D 1 ["end", "start"] (fun us ws => [us.getD 0 .none, ws.getD 1 .none, ws.getD 0 .none]) (fun vs zs => [vs.getD 0 .non, zs.getD 1 .non, zs.getD 0 .non]) (fun r1 r2 => .cons (Vals.at r1 0) (.cons (Vals.at r2 1) (.cons (Vals.at r2 0) (.nil)))) (fun _ _ _ _ _ _ us ws h1 h2 => match us, h1, ws, h2 with | [u0], _, [w0, w1], _ => rfl)
theorem ar_bd_stretch_1_end_start : Arr 1 2 (fun vs zs => [vs.getD 0 .non, zs.getD 1 .non, zs.getD 0 .non]) (fun as bs => [as.getD 0 (.dat .non), bs.getD 1 (.dat .non), bs.getD 0 (.dat .non)]) := ⟨fun {cm K σ G vs zs as bs} l1 l2 a b => by
  match vs, l1, zs, l2, a, b with
  | [v0], _, [z0, z1], _, a, b => exact AvsOk.cons (a.at 0) (AvsOk.cons (b.at 1) (AvsOk.cons (b.at 0) (.nil)))⟩
theorem bd_stretch_3 {K : PySem.W.Frag} {fd : FuncData} (D : FunM K d_stretch fd) : ∃ g, KBn K fd ["visit", "start", "end"] 3 [] g (fun vs zs => [vs.getD 0 .non, vs.getD 1 .non, vs.getD 2 .non]) :=
  kb_plain D 3 [] (fun us ws => [us.getD 0 .none, us.getD 1 .none, us.getD 2 .none]) (fun vs zs => [vs.getD 0 .non, vs.getD 1 .non, vs.getD 2 .non]) (fun r1 r2 => .cons (Vals.at r1 0) (.cons (Vals.at r1 1) (.cons (Vals.at r1 2) (.nil)))) (fun _ _ _ _ _ _ us ws h1 h2 => match us, h1, ws, h2 with | [u0, u1, u2], _, [], _ => rfl)
theorem ar_bd_stretch_3 : Arr 3 0 (fun vs zs => [vs.getD 0 .non, vs.getD 1 .non, vs.getD 2 .non]) (fun as bs => [as.getD 0 (.dat .non), as.getD 1 (.dat .non), as.getD 2 (.dat .non)]) := ⟨fun {cm K σ G vs zs as bs} l1 l2 a b => by
  match vs, l1, zs, l2, a, b with
  | [v0, v1, v2], _, [], _, a, b => exact AvsOk.cons (a.at 0) (AvsOk.cons (a.at 1) (AvsOk.cons (a.at 2) (.nil)))⟩
theorem bs_bd_stretch_3 {K : PySem.W.Frag} {fd : FuncData} (D : FunM K d_stretch fd) : ∃ g, KBn K fd ["visit", "start", "end"] 3 [] g (fun vs _ => vs) :=
  kb_plain D 3 [] (fun us _ => us) (fun vs _ => vs) (fun r1 _ => r1) (fun _ _ _ _ _ _ us ws h1 h2 => match us, h1, ws, h2 with | [u0, u1, u2], _, [], _ => rfl)
theorem bd_Visit_init0_1_time {K : PySem.W.Frag} {fd : FuncData} (D : FunM K d_Visit_init0 fd) : ∃ g, KBn K fd ["self", "time", "shift", "begin", "end"] 1 ["time"] g (fun vs zs => (vs.drop 0).take 1 ++ ((zs.drop 0).take 1 ++ (((([("shift", .int 0), ("begin", .int 0), ("end", .non)] : List (Str × V)).map (·.2)).drop 0).take 1 ++ (((([("shift", .int 0), ("begin", .int 0), ("end", .non)] : List (Str × V)).map (·.2)).drop 1).take 1 ++ (((([("shift", .int 0), ("begin", .int 0), ("end", .non)] : List (Str × V)).map (·.2)).drop 2).take 1))))) :=
  kb_kw D 1 ["time"] [("shift", .int 0), ("begin", .int 0), ("end", .non)] (fun {α} vs mz zs => (vs.drop 0).take 1 ++ ((zs.drop 0).take 1 ++ ((mz.drop 0).take 1 ++ ((mz.drop 1).take 1 ++ ((mz.drop 2).take 1))))) (List.cons_ne_nil _ _) (fun q h => by first | exact h | (simp only [List.mem_cons, List.not_mem_nil, or_false] at h; rcases h with rfl | rfl | rfl <;> simp [DefM.kws, d_Visit_init0, He.Dv.v])) (fun r1 r2 r3 => vapp (vp r1 0) (vapp (vp r3 0) (vapp (vp r2 0) (vapp (vp r2 1) (vp r2 2))))) (fun _ _ _ _ _ _ us mv ws h1 h2 h3 => match us, h1, mv, h2, ws, h3 with | [u0], _, [i0, i1, i2], _, [w0], _ => ⟨_, _, _, _, _, _, rfl, rfl, ⟨_, _, _, _, _, _, rfl, rfl, ⟨_, _, _, _, _, _, rfl, rfl, rfl⟩⟩⟩)
theorem ar_bd_Visit_init0_1_time : Arr 1 1 (fun vs zs => (vs.drop 0).take 1 ++ ((zs.drop 0).take 1 ++ (((([("shift", .int 0), ("begin", .int 0), ("end", .non)] : List (Str × V)).map (·.2)).drop 0).take 1 ++ (((([("shift", .int 0), ("begin", .int 0), ("end", .non)] : List (Str × V)).map (·.2)).drop 1).take 1 ++ (((([("shift", .int 0), ("begin", .int 0), ("end", .non)] : List (Str × V)).map (·.2)).drop 2).take 1))))) (fun as bs => [as.getD 0 (.dat .non), bs.getD 0 (.dat .non), .dat (.int 0), .dat (.int 0), .dat (.non)]) := ⟨fun {cm K σ G vs zs as bs} l1 l2 a b => by
  match vs, l1, zs, l2, a, b with
  | [v0], _, [z0], _, a, b => exact AvsOk.cons (a.at 0) (AvsOk.cons (b.at 0) (AvsOk.cons (.dat (.int 0)) (AvsOk.cons (.dat (.int 0)) (AvsOk.cons (.dat (.non)) (.nil)))))⟩
theorem as_bd_Visit_init0_1_time : Arr 0 1 (fun vs zs => (zs.drop 0).take 1 ++ (((([("shift", .int 0), ("begin", .int 0), ("end", .non)] : List (Str × V)).map (·.2)).drop 0).take 1 ++ (((([("shift", .int 0), ("begin", .int 0), ("end", .non)] : List (Str × V)).map (·.2)).drop 1).take 1 ++ (((([("shift", .int 0), ("begin", .int 0), ("end", .non)] : List (Str × V)).map (·.2)).drop 2).take 1)))) (fun as bs => [bs.getD 0 (.dat .non), .dat (.int 0), .dat (.int 0), .dat (.non)]) := ⟨fun {cm K σ G vs zs as bs} l1 l2 a b => by
  match vs, l1, zs, l2, a, b with
  | [], _, [z0], _, a, b => exact AvsOk.cons (b.at 0) (AvsOk.cons (.dat (.int 0)) (AvsOk.cons (.dat (.int 0)) (AvsOk.cons (.dat (.non)) (.nil))))⟩
theorem bd_Visit_repr0_1 {K : PySem.W.Frag} {fd : FuncData} (D : FunM K d_Visit_repr0 fd) : ∃ g, KBn K fd ["self"] 1 [] g (fun vs zs => [vs.getD 0 .non]) :=
  kb_plain D 1 [] (fun us ws => [us.getD 0 .none]) (fun vs zs => [vs.getD 0 .non]) (fun r1 r2 => .cons (Vals.at r1 0) (.nil)) (fun _ _ _ _ _ _ us ws h1 h2 => match us, h1, ws, h2 with | [u0], _, [], _ => rfl)
theorem ar_bd_Visit_repr0_1 : Arr 1 0 (fun vs zs => [vs.getD 0 .non]) (fun as bs => [as.getD 0 (.dat .non)]) := ⟨fun {cm K σ G vs zs as bs} l1 l2 a b => by
  match vs, l1, zs, l2, a, b with
  | [v0], _, [], _, a, b => exact AvsOk.cons (a.at 0) (.nil)⟩
theorem bs_bd_Visit_repr0_1 {K : PySem.W.Frag} {fd : FuncData} (D : FunM K d_Visit_repr0 fd) : ∃ g, KBn K fd ["self"] 1 [] g (fun vs _ => vs) :=
  kb_plain D 1 [] (fun us _ => us) (fun vs _ => vs) (fun r1 _ => r1) (fun _ _ _ _ _ _ us ws h1 h2 => match us, h1, ws, h2 with | [u0], _, [], _ => rfl)
theorem bd_l_told_right_2 {K : PySem.W.Frag} {fd : FuncData} (D : FunM K d_l_told_right fd) : ∃ g, KBn K fd ["_law_visit", "_law_parts_here"] 2 [] g (fun vs zs => [vs.getD 0 .non, vs.getD 1 .non]) :=
  kb_plain D 2 [] (fun us ws => [us.getD 0 .none, us.getD 1 .none]) (fun vs zs => [vs.getD 0 .non, vs.getD 1 .non]) (fun r1 r2 => .cons (Vals.at r1 0) (.cons (Vals.at r1 1) (.nil))) (fun _ _ _ _ _ _ us ws h1 h2 => match us, h1, ws, h2 with | [u0, u1], _, [], _ => rfl)
theorem ar_bd_l_told_right_2 : Arr 2 0 (fun vs zs => [vs.getD 0 .non, vs.getD 1 .non]) (fun as bs => [as.getD 0 (.dat .non), as.getD 1 (.dat .non)]) := ⟨fun {cm K σ G vs zs as bs} l1 l2 a b => by
  match vs, l1, zs, l2, a, b with
  | [v0, v1], _, [], _, a, b => exact AvsOk.cons (a.at 0) (AvsOk.cons (a.at 1) (.nil))⟩
theorem bs_bd_l_told_right_2 {K : PySem.W.Frag} {fd : FuncData} (D : FunM K d_l_told_right fd) : ∃ g, KBn K fd ["_law_visit", "_law_parts_here"] 2 [] g (fun vs _ => vs) :=
  kb_plain D 2 [] (fun us _ => us) (fun vs _ => vs) (fun r1 _ => r1) (fun _ _ _ _ _ _ us ws h1 h2 => match us, h1, ws, h2 with | [u0, u1], _, [], _ => rfl)
theorem bd_Visit_eq0_2 {K : PySem.W.Frag} {fd : FuncData} (D : FunM K d_Visit_eq0 fd) : ∃ g, KBn K fd ["self", "other"] 2 [] g (fun vs zs => [vs.getD 0 .non, vs.getD 1 .non]) :=
  kb_plain D 2 [] (fun us ws => [us.getD 0 .none, us.getD 1 .none]) (fun vs zs => [vs.getD 0 .non, vs.getD 1 .non]) (fun r1 r2 => .cons (Vals.at r1 0) (.cons (Vals.at r1 1) (.nil))) (fun _ _ _ _ _ _ us ws h1 h2 => match us, h1, ws, h2 with | [u0, u1], _, [], _ => rfl)
theorem ar_bd_Visit_eq0_2 : Arr 2 0 (fun vs zs => [vs.getD 0 .non, vs.getD 1 .non]) (fun as bs => [as.getD 0 (.dat .non), as.getD 1 (.dat .non)]) := ⟨fun {cm K σ G vs zs as bs} l1 l2 a b => by
  match vs, l1, zs, l2, a, b with
  | [v0, v1], _, [], _, a, b => exact AvsOk.cons (a.at 0) (AvsOk.cons (a.at 1) (.nil))⟩
theorem bs_bd_Visit_eq0_2 {K : PySem.W.Frag} {fd : FuncData} (D : FunM K d_Visit_eq0 fd) : ∃ g, KBn K fd ["self", "other"] 2 [] g (fun vs _ => vs) :=
  kb_plain D 2 [] (fun us _ => us) (fun vs _ => vs) (fun r1 _ => r1) (fun _ _ _ _ _ _ us ws h1 h2 => match us, h1, ws, h2 with | [u0, u1], _, [], _ => rfl)
theorem bd_l_equal_right_3 {K : PySem.W.Frag} {fd : FuncData} (D : FunM K d_l_equal_right fd) : ∃ g, KBn K fd ["_law_rng_here", "_law_visit", "_law_parts_here"] 3 [] g (fun vs zs => [vs.getD 0 .non, vs.getD 1 .non, vs.getD 2 .non]) :=
  kb_plain D 3 [] (fun us ws => [us.getD 0 .none, us.getD 1 .none, us.getD 2 .none]) (fun vs zs => [vs.getD 0 .non, vs.getD 1 .non, vs.getD 2 .non]) (fun r1 r2 => .cons (Vals.at r1 0) (.cons (Vals.at r1 1) (.cons (Vals.at r1 2) (.nil)))) (fun _ _ _ _ _ _ us ws h1 h2 => match us, h1, ws, h2 with | [u0, u1, u2], _, [], _ => rfl)
theorem ar_bd_l_equal_right_3 : Arr 3 0 (fun vs zs => [vs.getD 0 .non, vs.getD 1 .non, vs.getD 2 .non]) (fun as bs => [as.getD 0 (.dat .non), as.getD 1 (.dat .non), as.getD 2 (.dat .non)]) := ⟨fun {cm K σ G vs zs as bs} l1 l2 a b => by
  match vs, l1, zs, l2, a, b with
  | [v0, v1, v2], _, [], _, a, b => exact AvsOk.cons (a.at 0) (AvsOk.cons (a.at 1) (AvsOk.cons (a.at 2) (.nil)))⟩
theorem bs_bd_l_equal_right_3 {K : PySem.W.Frag} {fd : FuncData} (D : FunM K d_l_equal_right fd) : ∃ g, KBn K fd ["_law_rng_here", "_law_visit", "_law_parts_here"] 3 [] g (fun vs _ => vs) :=
  kb_plain D 3 [] (fun us _ => us) (fun vs _ => vs) (fun r1 _ => r1) (fun _ _ _ _ _ _ us ws h1 h2 => match us, h1, ws, h2 with | [u0, u1, u2], _, [], _ => rfl)
theorem bd_l_rng_2 {K : PySem.W.Frag} {fd : FuncData} (D : FunM K d_l_rng fd) : ∃ g, KBn K fd ["_law_script", "_law_k"] 2 [] g (fun vs zs => [vs.getD 0 .non, vs.getD 1 .non]) :=
  kb_plain D 2 [] (fun us ws => [us.getD 0 .none, us.getD 1 .none]) (fun vs zs => [vs.getD 0 .non, vs.getD 1 .non]) (fun r1 r2 => .cons (Vals.at r1 0) (.cons (Vals.at r1 1) (.nil))) (fun _ _ _ _ _ _ us ws h1 h2 => match us, h1, ws, h2 with | [u0, u1], _, [], _ => rfl)
theorem ar_bd_l_rng_2 : Arr 2 0 (fun vs zs => [vs.getD 0 .non, vs.getD 1 .non]) (fun as bs => [as.getD 0 (.dat .non), as.getD 1 (.dat .non)]) := ⟨fun {cm K σ G vs zs as bs} l1 l2 a b => by
  match vs, l1, zs, l2, a, b with
  | [v0, v1], _, [], _, a, b => exact AvsOk.cons (a.at 0) (AvsOk.cons (a.at 1) (.nil))⟩
theorem bs_bd_l_rng_2 {K : PySem.W.Frag} {fd : FuncData} (D : FunM K d_l_rng fd) : ∃ g, KBn K fd ["_law_script", "_law_k"] 2 [] g (fun vs _ => vs) :=
  kb_plain D 2 [] (fun us _ => us) (fun vs _ => vs) (fun r1 _ => r1) (fun _ _ _ _ _ _ us ws h1 h2 => match us, h1, ws, h2 with | [u0, u1], _, [], _ => rfl)
theorem bd_l_right_1 {K : PySem.W.Frag} {fd : FuncData} (D : FunM K d_l_right fd) : ∃ g, KBn K fd ["_law_rng_here"] 1 [] g (fun vs zs => [vs.getD 0 .non]) :=
  kb_plain D 1 [] (fun us ws => [us.getD 0 .none]) (fun vs zs => [vs.getD 0 .non]) (fun r1 r2 => .cons (Vals.at r1 0) (.nil)) (fun _ _ _ _ _ _ us ws h1 h2 => match us, h1, ws, h2 with | [u0], _, [], _ => rfl)
theorem ar_bd_l_right_1 : Arr 1 0 (fun vs zs => [vs.getD 0 .non]) (fun as bs => [as.getD 0 (.dat .non)]) := ⟨fun {cm K σ G vs zs as bs} l1 l2 a b => by
  match vs, l1, zs, l2, a, b with
  | [v0], _, [], _, a, b => exact AvsOk.cons (a.at 0) (.nil)⟩
theorem bs_bd_l_right_1 {K : PySem.W.Frag} {fd : FuncData} (D : FunM K d_l_right fd) : ∃ g, KBn K fd ["_law_rng_here"] 1 [] g (fun vs _ => vs) :=
  kb_plain D 1 [] (fun us _ => us) (fun vs _ => vs) (fun r1 _ => r1) (fun _ _ _ _ _ _ us ws h1 h2 => match us, h1, ws, h2 with | [u0], _, [], _ => rfl)
theorem sc_l_draw : FnScope ["_law_rng_here", "_law_many", "_law_digit"] ["_law_rng_here", "_law_many"] (defScope s_l_draw) := ⟨rfl, rfl, rfl, by decide +kernel, rfl, by decide +kernel, by decide +kernel⟩
def m_l_draw : MS :=
    mSeq (mIfS (cTruth (m2 gtD (mIxS 0 (mC (.int 0))) (mC (.int 0)))) (mSeq (mAsg (mCall divmodC (mCons (mIxS 0 (mC (.int 0))) (mCons (mVar 1) (mNil)))) (gTpN 2 (gCs (gIx 0 (mC (.int 0))) (gCs (gNm 2) (gNl)))))
    (mRet (mVar 2))) (mNext))
    (mSeq (mAsg (m2 modD (mCall intC (mCons (m2 addD (m2 mulD (mIxS 0 (mC (.int 1))) (mC (.int 48311))) (mC (.int 20011))) (mNil))) (mC (.int 2147483563))) (gIx 0 (mC (.int 1))))
    (mRet (m2 modD (m2 fdivD (m2 modD (mCall intC (mCons (m2 mulD (mIxS 0 (mC (.int 1))) (mIxS 0 (mC (.int 1)))) (mNil))) (mC (.int 2147483497))) (mC (.int 17))) (mVar 1))))
def F_l_draw : List FA → RF := runDef 2 3 m_l_draw
theorem ok_l_draw {P : Program} {w : World} {K : PySem.W.Frag} {mg : Str → Option Value} {base : Heap} (c : Kn fa fn K mg) {fd : FuncData} (D : FunM K d_l_draw fd) : FnG P w K mg base (L2.CX P w) 1 (d_l_draw.ad.a K) fd ["_law_rng_here", "_law_many"] (spF (He.ga K) K F_l_draw) := by
  exact fnG_of D sc_l_draw rfl rfl fun cdv A outer s H E hr hg =>
    gs_cons (gs_if (gt_cmp o_gt (ge_ixS (pv 0) (ge_int) (fun _ _ => rfl)) (ge_int) (nomark _)) (gs_cons (gs_asg (ge_callB c_divmod (by rfl) (c.free 4) (by decide +kernel) (ga_cons (ge_ixS (pv 0) (ge_int) (fun _ _ => rfl)) (ga_cons (ge_var (pv 1)) (ga_nil)))) (gg_tupN rfl (ggs_cons (gg_ix (pv 0) (ge_int)) (ggs_cons (gg_name (pg_name (i := 2) sc_l_draw.nd rfl (by first | exact .inl rfl | exact .inr rfl))) (ggs_nil)))))
    (gs_one (gs_ret (ge_var (pv 2))))) (gs_nil))
    (gs_cons (gs_asg (ge_op o_mod (ge_callTy c_int (by rfl) (c.free 5) (by decide +kernel) (ga_cons (ge_op o_add (ge_op o_mul (ge_ixS (pv 0) (ge_int) (fun _ _ => rfl)) (ge_int)) (ge_int)) (ga_nil))) (ge_int)) (gg_ix (pv 0) (ge_int)))
    (gs_one (gs_ret (ge_op o_mod (ge_op o_fdiv (ge_op o_mod (ge_callTy c_int (by rfl) (c.free 5) (by decide +kernel) (ga_cons (ge_op o_mul (ge_ixS (pv 0) (ge_int) (fun _ _ => rfl)) (ge_ixS (pv 0) (ge_int) (fun _ _ => rfl))) (ga_nil))) (ge_int)) (ge_int)) (ge_var (pv 1))))))
theorem sc_l_choice : FnScope ["_law_rng_here", "_law_some"] ["_law_rng_here", "_law_some"] (defScope s_l_choice) := ⟨rfl, rfl, rfl, by decide +kernel, rfl, by decide +kernel, by decide +kernel⟩
def m_l_choice : MS :=
    mRet (m2 ixD (mVar 1) (mCallF F_l_draw 2 0 (fun as bs => [as.getD 0 (.dat .non), as.getD 1 (.dat .non)]) (vSlot 0 (vDat (mCall lenC (mCons (mVar 1) (mNil))) (vNil))) vNil))
def F_l_choice : List FA → RF := runDef 2 2 m_l_choice
theorem ok_l_choice {P : Program} {w : World} {K : PySem.W.Frag} {mg : Str → Option Value} {base : Heap} (c : Kn fa fn K mg) {fd : FuncData} (D : FunM K d_l_choice fd) : FnG P w K mg base (L2.CX P w) 2 (d_l_choice.ad.a K) fd ["_law_rng_here", "_law_some"] (spF (He.ga K) K F_l_choice) := by
  obtain ⟨fd_l_draw, D_l_draw⟩ := c.def_ 0 (d := d_l_draw)
  have O_l_draw := ok_l_draw (P := P) (w := w) (base := base) c D_l_draw
  have B2_l_draw := bs_bd_l_draw_2 D_l_draw
  exact fnG_of D sc_l_choice rfl rfl fun cdv A outer s H E hr hg =>
    gs_one (gs_ret (ge_ix i_ix (ge_var (pv 1)) (ge_callF O_l_draw (hr.mono (by decide)) hg (takes_of rfl rfl rfl rfl) (by rfl) (c.glo 6) D_l_draw.kp (bd_l_draw_2 D_l_draw) ar_bd_l_draw_2 (gv_slot (pv 0) (gv_dat (ge_callB c_len (by rfl) (c.free 0) (by decide +kernel) (ga_cons (ge_var (pv 1)) (ga_nil))) (gv_nil)))) (fun _ _ => rfl)))
theorem sc_l_parts : FnScope ["_law_rng_here", "_law_parts_here"] ["_law_rng_here"] (defScope s_l_parts) := ⟨rfl, rfl, rfl, by decide +kernel, rfl, by decide +kernel, by decide +kernel⟩
def m_l_parts : MS :=
    mSeq (mSetF 1 (lLst (mCons (m2 addD (mC (.int 1)) (mCallF F_l_draw 2 0 (fun as bs => [as.getD 0 (.dat .non), as.getD 1 (.dat .non)]) (vSlot 0 (vDat (mCallF F_l_choice 2 0 (fun as bs => [as.getD 0 (.dat .non), as.getD 1 (.dat .non)]) (vSlot 0 (vDat (mLst (mCons (mC (.int 3)) (mCons (mC (.int 12)) (mNil)))) (vNil))) vNil) (vNil))) vNil)) (mCons (mCallF F_l_draw 2 0 (fun as bs => [as.getD 0 (.dat .non), as.getD 1 (.dat .non)]) (vSlot 0 (vDat (mC (.int 5)) (vNil))) vNil) (mCons (mCallF F_l_draw 2 0 (fun as bs => [as.getD 0 (.dat .non), as.getD 1 (.dat .non)]) (vSlot 0 (vDat (mC (.int 6)) (vNil))) vNil) (mCons (mC .non) (mNil)))))))
    (mSeq (mIfS (cTruth (m2 eqD (mCallF F_l_draw 2 0 (fun as bs => [as.getD 0 (.dat .non), as.getD 1 (.dat .non)]) (vSlot 0 (vDat (mC (.int 5)) (vNil))) vNil) (mC (.int 0)))) (mAsg (m2 addD (mC (.int 990)) (mCallF F_l_draw 2 0 (fun as bs => [as.getD 0 (.dat .non), as.getD 1 (.dat .non)]) (vSlot 0 (vDat (mC (.int 11)) (vNil))) vNil)) (gIx 1 (m2 addD (mC (.int 1)) (mCallF F_l_draw 2 0 (fun as bs => [as.getD 0 (.dat .non), as.getD 1 (.dat .non)]) (vSlot 0 (vDat (mC (.int 2)) (vNil))) vNil)))) (mNext))
    (mSeq (mIfS (cTruth (m2 eqD (mCallF F_l_draw 2 0 (fun as bs => [as.getD 0 (.dat .non), as.getD 1 (.dat .non)]) (vSlot 0 (vDat (mC (.int 2)) (vNil))) vNil) (mC (.int 0)))) (mAsg (mCall minC (mCons (mC (.int 1000)) (mCons (m2 addD (mIxS 1 (mC (.int 2))) (mCallF F_l_draw 2 0 (fun as bs => [as.getD 0 (.dat .non), as.getD 1 (.dat .non)]) (vSlot 0 (vDat (mC (.int 8)) (vNil))) vNil)) (mNil)))) (gIx 1 (mC (.int 3)))) (mNext))
    (mRet (mVar 1))))
def F_l_parts : List FA → RF := runDef 1 2 m_l_parts
theorem ok_l_parts {P : Program} {w : World} {K : PySem.W.Frag} {mg : Str → Option Value} {base : Heap} (c : Kn fa fn K mg) {fd : FuncData} (D : FunM K d_l_parts fd) : FnG P w K mg base (L2.CX P w) 3 (d_l_parts.ad.a K) fd ["_law_rng_here"] (spF (He.ga K) K F_l_parts) := by
  obtain ⟨fd_l_draw, D_l_draw⟩ := c.def_ 0 (d := d_l_draw)
  have O_l_draw := ok_l_draw (P := P) (w := w) (base := base) c D_l_draw
  have B2_l_draw := bs_bd_l_draw_2 D_l_draw
  obtain ⟨fd_l_choice, D_l_choice⟩ := c.def_ 1 (d := d_l_choice)
  have O_l_choice := ok_l_choice (P := P) (w := w) (base := base) c D_l_choice
  have B2_l_choice := bs_bd_l_choice_2 D_l_choice
  exact fnG_of D sc_l_parts rfl rfl fun cdv A outer s H E hr hg =>
    gs_cons (gs_setF (i := 1) sc_l_parts.nd rfl (by first | exact .inl rfl | exact .inr rfl) (gl_lst (ga_cons (ge_op o_add (ge_int) (ge_callF O_l_draw (hr.mono (by decide)) hg (takes_of rfl rfl rfl rfl) (by rfl) (c.glo 6) D_l_draw.kp (bd_l_draw_2 D_l_draw) ar_bd_l_draw_2 (gv_slot (pv 0) (gv_dat (ge_callF O_l_choice (hr.mono (by decide)) hg (takes_of rfl rfl rfl rfl) (by rfl) (c.glo 7) D_l_choice.kp (bd_l_choice_2 D_l_choice) ar_bd_l_choice_2 (gv_slot (pv 0) (gv_dat (ge_lst (ga_cons (ge_int) (ga_cons (ge_int) (ga_nil)))) (gv_nil)))) (gv_nil))))) (ga_cons (ge_callF O_l_draw (hr.mono (by decide)) hg (takes_of rfl rfl rfl rfl) (by rfl) (c.glo 6) D_l_draw.kp (bd_l_draw_2 D_l_draw) ar_bd_l_draw_2 (gv_slot (pv 0) (gv_dat (ge_int) (gv_nil)))) (ga_cons (ge_callF O_l_draw (hr.mono (by decide)) hg (takes_of rfl rfl rfl rfl) (by rfl) (c.glo 6) D_l_draw.kp (bd_l_draw_2 D_l_draw) ar_bd_l_draw_2 (gv_slot (pv 0) (gv_dat (ge_int) (gv_nil)))) (ga_cons (ge_non) (ga_nil)))))))
    (gs_cons (gs_if (gt_cmp (o_eq hr.units) (ge_callF O_l_draw (hr.mono (by decide)) hg (takes_of rfl rfl rfl rfl) (by rfl) (c.glo 6) D_l_draw.kp (bd_l_draw_2 D_l_draw) ar_bd_l_draw_2 (gv_slot (pv 0) (gv_dat (ge_int) (gv_nil)))) (ge_int) (nomark _)) (gs_one (gs_asg (ge_op o_add (ge_int) (ge_callF O_l_draw (hr.mono (by decide)) hg (takes_of rfl rfl rfl rfl) (by rfl) (c.glo 6) D_l_draw.kp (bd_l_draw_2 D_l_draw) ar_bd_l_draw_2 (gv_slot (pv 0) (gv_dat (ge_int) (gv_nil))))) (gg_ix (pv 1) (ge_op o_add (ge_int) (ge_callF O_l_draw (hr.mono (by decide)) hg (takes_of rfl rfl rfl rfl) (by rfl) (c.glo 6) D_l_draw.kp (bd_l_draw_2 D_l_draw) ar_bd_l_draw_2 (gv_slot (pv 0) (gv_dat (ge_int) (gv_nil)))))))) (gs_nil))
    (gs_cons (gs_if (gt_cmp (o_eq hr.units) (ge_callF O_l_draw (hr.mono (by decide)) hg (takes_of rfl rfl rfl rfl) (by rfl) (c.glo 6) D_l_draw.kp (bd_l_draw_2 D_l_draw) ar_bd_l_draw_2 (gv_slot (pv 0) (gv_dat (ge_int) (gv_nil)))) (ge_int) (nomark _)) (gs_one (gs_asg (ge_callB (c_min rfl) (by rfl) (c.free 1) (by decide +kernel) (ga_cons (ge_int) (ga_cons (ge_op o_add (ge_ixS (pv 1) (ge_int) (fun _ _ => rfl)) (ge_callF O_l_draw (hr.mono (by decide)) hg (takes_of rfl rfl rfl rfl) (by rfl) (c.glo 6) D_l_draw.kp (bd_l_draw_2 D_l_draw) ar_bd_l_draw_2 (gv_slot (pv 0) (gv_dat (ge_int) (gv_nil))))) (ga_nil)))) (gg_ix (pv 1) (ge_int)))) (gs_nil))
    (gs_one (gs_ret (ge_var (pv 1))))))
theorem sc_is_integer : FnScope ["value"] ["value"] (defScope s_is_integer) := ⟨rfl, rfl, rfl, by decide +kernel, rfl, by decide +kernel, by decide +kernel⟩
def m_is_integer : MS :=
    mRet (mAnd (m1 (isiT [("NoneType", false), ("bool", true), ("int", true), ("str", false), ("list", false), ("tuple", false), ("dict", false)] [("Visit", false)]) (mVar 0)) (mNot (m1 (isiT [("NoneType", false), ("bool", true), ("int", false), ("str", false), ("list", false), ("tuple", false), ("dict", false)] [("Visit", false)]) (mVar 0))))
def F_is_integer : List FA → RF := runDef 1 1 m_is_integer
theorem ok_is_integer {P : Program} {w : World} {K : PySem.W.Frag} {mg : Str → Option Value} {base : Heap} (c : Kn fa fn K mg) {fd : FuncData} (D : FunM K d_is_integer fd) : FnG P w K mg base (L2.CX P w) 1 (d_is_integer.ad.a K) fd ["value"] (spF (He.ga K) K F_is_integer) := by
  exact fnG_of D sc_is_integer rfl rfl fun cdv A outer s H E hr hg =>
    gs_one (gs_ret (ge_and (ge_isi (c.free 18) (by rfl) (ge_var (pv 0)) (pe_bltn (v := .ty "int") (by rfl) (c.free 5) (by decide +kernel) rfl) (.ty _) (aa1 (c.kit 15 (a := .b "NoneType") (b := (.b "int")) (r := false)) (aa1 (c.kit 14 (a := .b "bool") (b := (.b "int")) (r := true)) (aa1 (c.kit 13 (a := .b "int") (b := (.b "int")) (r := true)) (aa1 (c.kit 12 (a := .b "str") (b := (.b "int")) (r := false)) (aa1 (c.kit 11 (a := .b "list") (b := (.b "int")) (r := false)) (aa1 (c.kit 10 (a := .b "tuple") (b := (.b "int")) (r := false)) (aa1 (c.kit 9 (a := .b "dict") (b := (.b "int")) (r := false)) (aa0)))))))) (aa1 ⟨c.cls 16, c.kit 17 (a := .c "Visit") (b := (.b "int")) (r := false)⟩ (aa0))) (ge_one (ge_not (ge_isi (c.free 18) (by rfl) (ge_var (pv 0)) (pe_bltn (v := .ty "bool") (by rfl) (c.free 27) (by decide +kernel) rfl) (.ty _) (aa1 (c.kit 25 (a := .b "NoneType") (b := (.b "bool")) (r := false)) (aa1 (c.kit 24 (a := .b "bool") (b := (.b "bool")) (r := true)) (aa1 (c.kit 23 (a := .b "int") (b := (.b "bool")) (r := false)) (aa1 (c.kit 22 (a := .b "str") (b := (.b "bool")) (r := false)) (aa1 (c.kit 21 (a := .b "list") (b := (.b "bool")) (r := false)) (aa1 (c.kit 20 (a := .b "tuple") (b := (.b "bool")) (r := false)) (aa1 (c.kit 19 (a := .b "dict") (b := (.b "bool")) (r := false)) (aa0)))))))) (aa1 ⟨c.cls 16, c.kit 26 (a := .c "Visit") (b := (.b "bool")) (r := false)⟩ (aa0)))))))
theorem sc_is_count : FnScope ["value", "most"] ["value", "most"] (defScope s_is_count) := ⟨rfl, rfl, rfl, by decide +kernel, rfl, by decide +kernel, by decide +kernel⟩
def m_is_count : MS :=
    mRet (mAnd (mCallF F_is_integer 1 0 (fun as bs => [as.getD 0 (.dat .non)]) (vDat (mVar 0) (vNil)) vNil) (mAnd (m2 geD (mVar 0) (mC (.int 0))) (mOr (m2 isND (mVar 1) (mC .non)) (m2 leD (mVar 0) (mVar 1)))))
def F_is_count : List FA → RF := runDef 2 2 m_is_count
theorem ok_is_count {P : Program} {w : World} {K : PySem.W.Frag} {mg : Str → Option Value} {base : Heap} (c : Kn fa fn K mg) {fd : FuncData} (D : FunM K d_is_count fd) : FnG P w K mg base (L2.CX P w) 2 (d_is_count.ad.a K) fd ["value", "most"] (spF (He.ga K) K F_is_count) := by
  obtain ⟨fd_is_integer, D_is_integer⟩ := c.def_ 3 (d := d_is_integer)
  have O_is_integer := ok_is_integer (P := P) (w := w) (base := base) c D_is_integer
  have B1_is_integer := bs_bd_is_integer_1 D_is_integer
  exact fnG_of D sc_is_count rfl rfl fun cdv A outer s H E hr hg =>
    gs_one (gs_ret (ge_and (ge_callF O_is_integer (hr.mono (by decide)) hg (takes_of rfl rfl rfl rfl) (by rfl) (c.glo 28) D_is_integer.kp (bd_is_integer_1 D_is_integer) ar_bd_is_integer_1 (gv_dat (ge_var (pv 0)) (gv_nil))) (ge_and (ge_cmp o_ge (ge_var (pv 0)) (ge_int) (nomark _)) (ge_one (ge_or (ge_cmp o_isN (ge_var (pv 1)) (ge_non) (nomark _)) (ge_one (ge_cmp o_le (ge_var (pv 0)) (ge_var (pv 1)) (nomark _))))))))
theorem sc_is_tick : FnScope ["value"] ["value"] (defScope s_is_tick) := ⟨rfl, rfl, rfl, by decide +kernel, rfl, by decide +kernel, by decide +kernel⟩
def m_is_tick : MS :=
    mRet (mCallF F_is_count 2 0 (fun as bs => [as.getD 0 (.dat .non), as.getD 1 (.dat .non)]) (vDat (mVar 0) (vDat (mC (.int 1000)) (vNil))) vNil)
def F_is_tick : List FA → RF := runDef 1 1 m_is_tick
theorem ok_is_tick {P : Program} {w : World} {K : PySem.W.Frag} {mg : Str → Option Value} {base : Heap} (c : Kn fa fn K mg) {fd : FuncData} (D : FunM K d_is_tick fd) : FnG P w K mg base (L2.CX P w) 3 (d_is_tick.ad.a K) fd ["value"] (spF (He.ga K) K F_is_tick) := by
  obtain ⟨fd_is_count, D_is_count⟩ := c.def_ 4 (d := d_is_count)
  have O_is_count := ok_is_count (P := P) (w := w) (base := base) c D_is_count
  exact fnG_of D sc_is_tick rfl rfl fun cdv A outer s H E hr hg =>
    gs_one (gs_ret (ge_callF O_is_count (hr.mono (by decide)) hg (takes_of rfl rfl rfl rfl) (by rfl) (c.glo 29) D_is_count.kp (bd_is_count_2 D_is_count) ar_bd_is_count_2 (gv_dat (ge_var (pv 0)) (gv_dat (ge_gint (by rfl) (c.int 31)) (gv_nil)))))
theorem sc_Visit_init0 : FnScope ["self", "time", "shift", "begin", "end"] ["self", "time", "shift", "begin", "end"] (defScope s_Visit_init0) := ⟨rfl, rfl, rfl, by decide +kernel, rfl, by decide +kernel, by decide +kernel⟩
def m_Visit_init0 : MS :=
    mSeq (mIfS (cOr (cNot (cTruth (mCallF F_is_count 1 0 (fun as bs => [as.getD 0 (.dat .non), .dat (.non)]) (vDat (mVar 1) (vNil)) vNil))) (cNot (cTruth (mChain leD leD (mC (.int 1)) (mVar 1) (mC (.int 12)))))) (mNever) (mNext))
    (mSeq (mIfS (cNot (cTruth (mCallF F_is_tick 1 0 (fun as bs => [as.getD 0 (.dat .non)]) (vDat (mVar 2) (vNil)) vNil))) (mNever) (mNext))
    (mSeq (mIfS (cNot (cTruth (mCallF F_is_tick 1 0 (fun as bs => [as.getD 0 (.dat .non)]) (vDat (mVar 3) (vNil)) vNil))) (mNever) (mNext))
    (mSeq (mIfS (cAnd (cTruth (m2 notND (mVar 4) (mC .non))) (cOr (cNot (cTruth (mCallF F_is_tick 1 0 (fun as bs => [as.getD 0 (.dat .non)]) (vDat (mVar 4) (vNil)) vNil))) (cTruth (m2 ltD (mVar 4) (mVar 3))))) (mNever) (mNext))
    (mStF ["Visit"] 0 "kept" (mTup (mCons (mVar 1) (mCons (mVar 2) (mCons (mVar 3) (mCons (mVar 4) (mNil))))))))))
def F_Visit_init0 : List FA → RF := runDef 5 5 m_Visit_init0
theorem ok_Visit_init0 {P : Program} {w : World} {K : PySem.W.Frag} {mg : Str → Option Value} {base : Heap} (c : Kn fa fn K mg) {fd : FuncData} (D : FunM K d_Visit_init0 fd) : FnG P w K mg base (L2.CX P w) 4 (d_Visit_init0.ad.a K) fd ["self", "time", "shift", "begin", "end"] (spF (He.ga K) K F_Visit_init0) := by
  obtain ⟨fd_is_count, D_is_count⟩ := c.def_ 4 (d := d_is_count)
  have O_is_count := ok_is_count (P := P) (w := w) (base := base) c D_is_count
  obtain ⟨fd_is_tick, D_is_tick⟩ := c.def_ 5 (d := d_is_tick)
  have O_is_tick := ok_is_tick (P := P) (w := w) (base := base) c D_is_tick
  have B1_is_tick := bs_bd_is_tick_1 D_is_tick
  exact fnG_of D sc_Visit_init0 rfl rfl fun cdv A outer s H E hr hg =>
    gs_cons (gs_if ((gw_or (gt_not (gt_val (ge_callF O_is_count (hr.mono (by decide)) hg (takes_of rfl rfl rfl rfl) (by rfl) (c.glo 29) D_is_count.kp (bd_is_count_1 D_is_count) ar_bd_is_count_1 (gv_dat (ge_var (pv 1)) (gv_nil))))) (gw_or1 (gt_not (gt_chain o_le o_le (ge_int) (ge_var (pv 1)) (ge_gint (by rfl) (c.int 30)) (hbl := by intro x y z h; cases x <;> cases y <;> cases h <;> exact ⟨_, rfl⟩))))).pt) (gs_one (gs_never)) (gs_nil))
    (gs_cons (gs_if (gt_not (gt_val (ge_callF O_is_tick (hr.mono (by decide)) hg (takes_of rfl rfl rfl rfl) (by rfl) (c.glo 32) D_is_tick.kp (bd_is_tick_1 D_is_tick) ar_bd_is_tick_1 (gv_dat (ge_var (pv 2)) (gv_nil))))) (gs_one (gs_never)) (gs_nil))
    (gs_cons (gs_if (gt_not (gt_val (ge_callF O_is_tick (hr.mono (by decide)) hg (takes_of rfl rfl rfl rfl) (by rfl) (c.glo 32) D_is_tick.kp (bd_is_tick_1 D_is_tick) ar_bd_is_tick_1 (gv_dat (ge_var (pv 3)) (gv_nil))))) (gs_one (gs_never)) (gs_nil))
    (gs_cons (gs_if ((gw_and (gt_cmp o_notN (ge_var (pv 4)) (ge_non) (nomark _)) (gw_and1 ((gw_or (gt_not (gt_val (ge_callF O_is_tick (hr.mono (by decide)) hg (takes_of rfl rfl rfl rfl) (by rfl) (c.glo 32) D_is_tick.kp (bd_is_tick_1 D_is_tick) ar_bd_is_tick_1 (gv_dat (ge_var (pv 4)) (gv_nil))))) (gw_or1 (gt_cmp o_lt (ge_var (pv 4)) (ge_var (pv 3)) (nomark _)))).pt))).pt) (gs_one (gs_never)) (gs_nil))
    (gs_one (gs_fld (aa1 ⟨(c.cls 16).cl, c.noat 33⟩ aa0) (pv 0) (ge_tup (ga_cons (ge_var (pv 1)) (ga_cons (ge_var (pv 2)) (ga_cons (ge_var (pv 3)) (ga_cons (ge_var (pv 4)) (ga_nil)))))))))))
theorem sc_l_made : FnScope ["_law_parts_here"] ["_law_parts_here"] (defScope s_l_made) := ⟨rfl, rfl, rfl, by decide +kernel, rfl, by decide +kernel, by decide +kernel⟩
def m_l_made : MS :=
    mRet (mMake "Visit" F_Visit_init0 1 3 (fun as bs => [as.getD 0 (.dat .non), bs.getD 0 (.dat .non), bs.getD 1 (.dat .non), bs.getD 2 (.dat .non)]) (vDat (m2 ixD (mVar 0) (mC (.int 0))) (vNil)) (vDat (m2 ixD (mVar 0) (mC (.int 1))) (vDat (m2 ixD (mVar 0) (mC (.int 2))) (vDat (m2 ixD (mVar 0) (mC (.int 3))) (vNil)))))
def F_l_made : List FA → RF := runDef 1 1 m_l_made
theorem ok_l_made {P : Program} {w : World} {K : PySem.W.Frag} {mg : Str → Option Value} {base : Heap} (c : Kn fa fn K mg) {fd : FuncData} (D : FunM K d_l_made fd) : FnG P w K mg base (L2.CX P w) 6 (d_l_made.ad.a K) fd ["_law_parts_here"] (spF (He.ga K) K F_l_made) := by
  obtain ⟨fd_Visit_init0, D_Visit_init0⟩ := c.def_ 6 (d := d_Visit_init0)
  have O_Visit_init0 := ok_Visit_init0 (P := P) (w := w) (base := base) c D_Visit_init0
  exact fnG_of D sc_l_made rfl rfl fun cdv A outer s H E hr hg =>
    gs_one (gs_ret (ge_makeK (c.mkr 34) O_Visit_init0 (hr.mono (by decide)) hg (takes_of rfl rfl rfl rfl) (by rfl) (c.glo 35) (bd_Visit_init0_2_shift_begin_end D_Visit_init0) (fun _ _ _ => rfl) as_bd_Visit_init0_2_shift_begin_end (gv_dat (ge_ix i_ix (ge_var (pv 0)) (ge_int) (fun _ _ => rfl)) (gv_nil)) (gk_dat (ge_ix i_ix (ge_var (pv 0)) (ge_int) (fun _ _ => rfl)) (gk_dat (ge_ix i_ix (ge_var (pv 0)) (ge_int) (fun _ _ => rfl)) (gk_dat (ge_ix i_ix (ge_var (pv 0)) (ge_int) (fun _ _ => rfl)) (gk_nil))))))
theorem sc_l_due : FnScope ["_law_parts_here", "_law_low", "_law_high", "_law_found", "_law_tick", "_law_is_in"] ["_law_parts_here", "_law_low", "_law_high"] (defScope s_l_due) := ⟨rfl, rfl, rfl, by decide +kernel, rfl, by decide +kernel, by decide +kernel⟩
def m_l_due : MS :=
    mSeq (mSetF 3 (lLst (mNil)))
    (mSeq (mFor (mIts range2 (mCons (m2 ixD (mVar 0) (mC (.int 2))) (mCons (m2 addD (mCall maxC (mCons (m2 ixD (mVar 0) (mC (.int 2))) (mCons (mVar 2) (mNil)))) (mC (.int 1))) (mNil)))) (gNm 4) (mSeq (mAsg (mOr (m2 isND (m2 ixD (mVar 0) (mC (.int 3))) (mC .non)) (m2 ltD (mVar 4) (m2 ixD (mVar 0) (mC (.int 3))))) (gNm 5))
    (mIfS (cAnd (cTruth (mVar 5)) (cAnd (cTruth (m2 leD (mVar 1) (m2 addD (mVar 4) (m2 ixD (mVar 0) (mC (.int 1)))))) (cTruth (m2 leD (m2 addD (m2 addD (mVar 4) (m2 ixD (mVar 0) (mC (.int 1)))) (m2 ixD (mVar 0) (mC (.int 0)))) (mVar 2))))) (mApp 3 (mVar 4)) (mNext))))
    (mRet (mIf (cTruth (mOpP neD 3 (mLst (mNil)))) (mTup (mCons (mIxS 3 (mC (.int 0))) (mCons (m2 addD (mIxS 3 (m1 negD (mC (.int 1)))) (mC (.int 1))) (mNil)))) (mC .non))))
def F_l_due : List FA → RF := runDef 3 6 m_l_due
theorem ok_l_due {P : Program} {w : World} {K : PySem.W.Frag} {mg : Str → Option Value} {base : Heap} (c : Kn fa fn K mg) {fd : FuncData} (D : FunM K d_l_due fd) : FnG P w K mg base (L2.CX P w) 1 (d_l_due.ad.a K) fd ["_law_parts_here", "_law_low", "_law_high"] (spF (He.ga K) K F_l_due) := by
  exact fnG_of D sc_l_due rfl rfl fun cdv A outer s H E hr hg =>
    gs_cons (gs_setF (i := 3) sc_l_due.nd rfl (by first | exact .inl rfl | exact .inr rfl) (gl_lst (ga_nil)))
    (gs_cons (gs_for (passes_of rfl) rfl (gi_range2 (by rfl) (c.free 3) (ga_cons (ge_ix i_ix (ge_var (pv 0)) (ge_int) (fun _ _ => rfl)) (ga_cons (ge_op o_add (ge_callB (c_max rfl) (by rfl) (c.free 2) (by decide +kernel) (ga_cons (ge_ix i_ix (ge_var (pv 0)) (ge_int) (fun _ _ => rfl)) (ga_cons (ge_var (pv 2)) (ga_nil)))) (ge_int)) (ga_nil)))) (gg_name (pg_name (i := 4) sc_l_due.nd rfl (by first | exact .inl rfl | exact .inr rfl))) (gs_cons (gs_set (i := 5) sc_l_due.nd rfl (by first | exact .inl rfl | exact .inr rfl) (ge_or (ge_cmp o_isN (ge_ix i_ix (ge_var (pv 0)) (ge_int) (fun _ _ => rfl)) (ge_non) (nomark _)) (ge_one (ge_cmp o_lt (ge_var (pv 4)) (ge_ix i_ix (ge_var (pv 0)) (ge_int) (fun _ _ => rfl)) (nomark _)))))
    (gs_one (gs_if ((gw_and (gt_val (ge_var (pv 5))) (gw_and (gt_cmp o_le (ge_var (pv 1)) (ge_op o_add (ge_var (pv 4)) (ge_ix i_ix (ge_var (pv 0)) (ge_int) (fun _ _ => rfl))) (nomark _)) (gw_and1 (gt_cmp o_le (ge_op o_add (ge_op o_add (ge_var (pv 4)) (ge_ix i_ix (ge_var (pv 0)) (ge_int) (fun _ _ => rfl))) (ge_ix i_ix (ge_var (pv 0)) (ge_int) (fun _ _ => rfl))) (ge_var (pv 2)) (nomark _))))).pt) (gs_one (gs_app (pv 3) (ge_var (pv 4)))) (gs_nil)))))
    (gs_one (gs_ret (ge_if (gt_cmpP (o_ne hr.units) (pv 3) (ge_lst (ga_nil)) (nomark _)) (ge_tup (ga_cons (ge_ixS (pv 3) (ge_int) (fun _ _ => rfl)) (ga_cons (ge_op o_add (ge_ixS (pv 3) (ge_un u_neg (ge_int)) (fun _ _ => rfl)) (ge_int)) (ga_nil)))) (ge_non)))))
theorem sc_check_window : FnScope ["start", "end"] ["start", "end"] (defScope s_check_window) := ⟨rfl, rfl, rfl, by decide +kernel, rfl, by decide +kernel, by decide +kernel⟩
def m_check_window : MS :=
    mIfS (cOr (cNot (cTruth (mCallF F_is_count 1 0 (fun as bs => [as.getD 0 (.dat .non), .dat (.non)]) (vDat (mVar 0) (vNil)) vNil))) (cOr (cNot (cTruth (mCallF F_is_count 1 0 (fun as bs => [as.getD 0 (.dat .non), .dat (.non)]) (vDat (mVar 1) (vNil)) vNil))) (cTruth (m2 geD (mVar 0) (mVar 1))))) (mNever) (mNext)
def F_check_window : List FA → RF := runDef 2 2 m_check_window
theorem ok_check_window {P : Program} {w : World} {K : PySem.W.Frag} {mg : Str → Option Value} {base : Heap} (c : Kn fa fn K mg) {fd : FuncData} (D : FunM K d_check_window fd) : FnG P w K mg base (L2.CX P w) 3 (d_check_window.ad.a K) fd ["start", "end"] (spF (He.ga K) K F_check_window) := by
  obtain ⟨fd_is_count, D_is_count⟩ := c.def_ 4 (d := d_is_count)
  have O_is_count := ok_is_count (P := P) (w := w) (base := base) c D_is_count
  exact fnG_of D sc_check_window rfl rfl fun cdv A outer s H E hr hg =>
    gs_one (gs_if ((gw_or (gt_not (gt_val (ge_callF O_is_count (hr.mono (by decide)) hg (takes_of rfl rfl rfl rfl) (by rfl) (c.glo 29) D_is_count.kp (bd_is_count_1 D_is_count) ar_bd_is_count_1 (gv_dat (ge_var (pv 0)) (gv_nil))))) (gw_or (gt_not (gt_val (ge_callF O_is_count (hr.mono (by decide)) hg (takes_of rfl rfl rfl rfl) (by rfl) (c.glo 29) D_is_count.kp (bd_is_count_1 D_is_count) ar_bd_is_count_1 (gv_dat (ge_var (pv 1)) (gv_nil))))) (gw_or1 (gt_cmp o_ge (ge_var (pv 0)) (ge_var (pv 1)) (nomark _))))).pt) (gs_one (gs_never)) (gs_nil))
theorem sc_Visit_begin : FnScope ["self"] ["self"] (defScope s_Visit_begin) := ⟨rfl, rfl, rfl, by decide +kernel, rfl, by decide +kernel, by decide +kernel⟩
def m_Visit_begin : MS :=
    mRet (m2 ixD (m1 (fldD ["Visit"] "kept") (mVar 0)) (mC (.int 2)))
def F_Visit_begin : List FA → RF := runDef 1 1 m_Visit_begin
theorem ok_Visit_begin {P : Program} {w : World} {K : PySem.W.Frag} {mg : Str → Option Value} {base : Heap} (c : Kn fa fn K mg) {fd : FuncData} (D : FunM K d_Visit_begin fd) : FnG P w K mg base (L2.CX P w) 1 (d_Visit_begin.ad.a K) fd ["self"] (spF (He.ga K) K F_Visit_begin) := by
  exact fnG_of D sc_Visit_begin rfl rfl fun cdv A outer s H E hr hg =>
    gs_one (gs_ret (ge_ix i_ix (ge_fld (aa1 ⟨(c.cls 16).cl, c.noat 33⟩ aa0) (ge_var (pv 0))) (ge_int) (fun _ _ => rfl)))
theorem sc_Visit_end : FnScope ["self"] ["self"] (defScope s_Visit_end) := ⟨rfl, rfl, rfl, by decide +kernel, rfl, by decide +kernel, by decide +kernel⟩
def m_Visit_end : MS :=
    mRet (m2 ixD (m1 (fldD ["Visit"] "kept") (mVar 0)) (mC (.int 3)))
def F_Visit_end : List FA → RF := runDef 1 1 m_Visit_end
theorem ok_Visit_end {P : Program} {w : World} {K : PySem.W.Frag} {mg : Str → Option Value} {base : Heap} (c : Kn fa fn K mg) {fd : FuncData} (D : FunM K d_Visit_end fd) : FnG P w K mg base (L2.CX P w) 1 (d_Visit_end.ad.a K) fd ["self"] (spF (He.ga K) K F_Visit_end) := by
  exact fnG_of D sc_Visit_end rfl rfl fun cdv A outer s H E hr hg =>
    gs_one (gs_ret (ge_ix i_ix (ge_fld (aa1 ⟨(c.cls 16).cl, c.noat 33⟩ aa0) (ge_var (pv 0))) (ge_int) (fun _ _ => rfl)))
theorem sc_cut_to_life : FnScope ["visit", "first", "behind"] ["visit", "first", "behind"] (defScope s_cut_to_life) := ⟨rfl, rfl, rfl, by decide +kernel, rfl, by decide +kernel, by decide +kernel⟩
def m_cut_to_life : MS :=
    mSeq (mAsg (mCall maxC (mCons (mVar 1) (mCons (mProp ["Visit"] F_Visit_begin (mVar 0)) (mNil)))) (gNm 1))
    (mSeq (mIfS (cTruth (m2 notND (mProp ["Visit"] F_Visit_end (mVar 0)) (mC .non))) (mAsg (mCall minC (mCons (mVar 2) (mCons (mProp ["Visit"] F_Visit_end (mVar 0)) (mNil)))) (gNm 2)) (mNext))
    (mRet (mIf (cTruth (m2 gtD (mVar 2) (mVar 1))) (mTup (mCons (mVar 1) (mCons (mVar 2) (mNil)))) (mC .non))))
def F_cut_to_life : List FA → RF := runDef 3 3 m_cut_to_life
theorem ok_cut_to_life {P : Program} {w : World} {K : PySem.W.Frag} {mg : Str → Option Value} {base : Heap} (c : Kn fa fn K mg) {fd : FuncData} (D : FunM K d_cut_to_life fd) : FnG P w K mg base (L2.CX P w) 3 (d_cut_to_life.ad.a K) fd ["visit", "first", "behind"] (spF (He.ga K) K F_cut_to_life) := by
  obtain ⟨fd_Visit_begin, D_Visit_begin⟩ := c.def_ 10 (d := d_Visit_begin)
  have O_Visit_begin := ok_Visit_begin (P := P) (w := w) (base := base) c D_Visit_begin
  have B1_Visit_begin := bs_bd_Visit_begin_1 D_Visit_begin
  obtain ⟨fd_Visit_end, D_Visit_end⟩ := c.def_ 11 (d := d_Visit_end)
  have O_Visit_end := ok_Visit_end (P := P) (w := w) (base := base) c D_Visit_end
  have B1_Visit_end := bs_bd_Visit_end_1 D_Visit_end
  exact fnG_of D sc_cut_to_life rfl rfl fun cdv A outer s H E hr hg =>
    gs_cons (gs_set (i := 1) sc_cut_to_life.nd rfl (by first | exact .inl rfl | exact .inr rfl) (ge_callB (c_max rfl) (by rfl) (c.free 2) (by decide +kernel) (ga_cons (ge_var (pv 1)) (ga_cons (ge_prop (aa1 ⟨(c.cls 16).cl, c.prop 40⟩ aa0) O_Visit_begin (hr.mono (by decide)) hg B1_Visit_begin (ge_var (pv 0))) (ga_nil)))))
    (gs_cons (gs_if (gt_cmp o_notN (ge_prop (aa1 ⟨(c.cls 16).cl, c.prop 41⟩ aa0) O_Visit_end (hr.mono (by decide)) hg B1_Visit_end (ge_var (pv 0))) (ge_non) (nomark _)) (gs_one (gs_set (i := 2) sc_cut_to_life.nd rfl (by first | exact .inl rfl | exact .inr rfl) (ge_callB (c_min rfl) (by rfl) (c.free 1) (by decide +kernel) (ga_cons (ge_var (pv 2)) (ga_cons (ge_prop (aa1 ⟨(c.cls 16).cl, c.prop 41⟩ aa0) O_Visit_end (hr.mono (by decide)) hg B1_Visit_end (ge_var (pv 0))) (ga_nil)))))) (gs_nil))
    (gs_one (gs_ret (ge_if (gt_cmp o_gt (ge_var (pv 2)) (ge_var (pv 1)) (nomark _)) (ge_tup (ga_cons (ge_var (pv 1)) (ga_cons (ge_var (pv 2)) (ga_nil)))) (ge_non)))))
theorem sc_Visit_time : FnScope ["self"] ["self"] (defScope s_Visit_time) := ⟨rfl, rfl, rfl, by decide +kernel, rfl, by decide +kernel, by decide +kernel⟩
def m_Visit_time : MS :=
    mRet (m2 ixD (m1 (fldD ["Visit"] "kept") (mVar 0)) (mC (.int 0)))
def F_Visit_time : List FA → RF := runDef 1 1 m_Visit_time
theorem ok_Visit_time {P : Program} {w : World} {K : PySem.W.Frag} {mg : Str → Option Value} {base : Heap} (c : Kn fa fn K mg) {fd : FuncData} (D : FunM K d_Visit_time fd) : FnG P w K mg base (L2.CX P w) 1 (d_Visit_time.ad.a K) fd ["self"] (spF (He.ga K) K F_Visit_time) := by
  exact fnG_of D sc_Visit_time rfl rfl fun cdv A outer s H E hr hg =>
    gs_one (gs_ret (ge_ix i_ix (ge_fld (aa1 ⟨(c.cls 16).cl, c.noat 33⟩ aa0) (ge_var (pv 0))) (ge_int) (fun _ _ => rfl)))
theorem sc_Visit_shift : FnScope ["self"] ["self"] (defScope s_Visit_shift) := ⟨rfl, rfl, rfl, by decide +kernel, rfl, by decide +kernel, by decide +kernel⟩
def m_Visit_shift : MS :=
    mRet (m2 ixD (m1 (fldD ["Visit"] "kept") (mVar 0)) (mC (.int 1)))
def F_Visit_shift : List FA → RF := runDef 1 1 m_Visit_shift
theorem ok_Visit_shift {P : Program} {w : World} {K : PySem.W.Frag} {mg : Str → Option Value} {base : Heap} (c : Kn fa fn K mg) {fd : FuncData} (D : FunM K d_Visit_shift fd) : FnG P w K mg base (L2.CX P w) 1 (d_Visit_shift.ad.a K) fd ["self"] (spF (He.ga K) K F_Visit_shift) := by
  exact fnG_of D sc_Visit_shift rfl rfl fun cdv A outer s H E hr hg =>
    gs_one (gs_ret (ge_ix i_ix (ge_fld (aa1 ⟨(c.cls 16).cl, c.noat 33⟩ aa0) (ge_var (pv 0))) (ge_int) (fun _ _ => rfl)))
theorem sc_urgent_entries : FnScope ["visit", "start", "end"] ["visit", "start", "end"] (defScope s_urgent_entries) := ⟨rfl, rfl, rfl, by decide +kernel, rfl, by decide +kernel, by decide +kernel⟩
def m_urgent_entries : MS :=
    mRet (mCallF F_cut_to_life 3 0 (fun as bs => [as.getD 0 (.dat .non), as.getD 1 (.dat .non), as.getD 2 (.dat .non)]) (vDat (mVar 0) (vDat (m2 subD (mVar 1) (mProp ["Visit"] F_Visit_shift (mVar 0))) (vDat (m2 addD (m2 subD (m2 subD (mVar 2) (mProp ["Visit"] F_Visit_time (mVar 0))) (mProp ["Visit"] F_Visit_shift (mVar 0))) (mC (.int 1))) (vNil)))) vNil)
def F_urgent_entries : List FA → RF := runDef 3 3 m_urgent_entries
theorem ok_urgent_entries {P : Program} {w : World} {K : PySem.W.Frag} {mg : Str → Option Value} {base : Heap} (c : Kn fa fn K mg) {fd : FuncData} (D : FunM K d_urgent_entries fd) : FnG P w K mg base (L2.CX P w) 4 (d_urgent_entries.ad.a K) fd ["visit", "start", "end"] (spF (He.ga K) K F_urgent_entries) := by
  obtain ⟨fd_cut_to_life, D_cut_to_life⟩ := c.def_ 12 (d := d_cut_to_life)
  have O_cut_to_life := ok_cut_to_life (P := P) (w := w) (base := base) c D_cut_to_life
  have B3_cut_to_life := bs_bd_cut_to_life_3 D_cut_to_life
  obtain ⟨fd_Visit_time, D_Visit_time⟩ := c.def_ 13 (d := d_Visit_time)
  have O_Visit_time := ok_Visit_time (P := P) (w := w) (base := base) c D_Visit_time
  have B1_Visit_time := bs_bd_Visit_time_1 D_Visit_time
  obtain ⟨fd_Visit_shift, D_Visit_shift⟩ := c.def_ 14 (d := d_Visit_shift)
  have O_Visit_shift := ok_Visit_shift (P := P) (w := w) (base := base) c D_Visit_shift
  have B1_Visit_shift := bs_bd_Visit_shift_1 D_Visit_shift
  exact fnG_of D sc_urgent_entries rfl rfl fun cdv A outer s H E hr hg =>
    gs_one (gs_ret (ge_callF O_cut_to_life (hr.mono (by decide)) hg (takes_of rfl rfl rfl rfl) (by rfl) (c.glo 44) D_cut_to_life.kp (bd_cut_to_life_3 D_cut_to_life) ar_bd_cut_to_life_3 (gv_dat (ge_var (pv 0)) (gv_dat (ge_op o_sub (ge_var (pv 1)) (ge_prop (aa1 ⟨(c.cls 16).cl, c.prop 43⟩ aa0) O_Visit_shift (hr.mono (by decide)) hg B1_Visit_shift (ge_var (pv 0)))) (gv_dat (ge_op o_add (ge_op o_sub (ge_op o_sub (ge_var (pv 2)) (ge_prop (aa1 ⟨(c.cls 16).cl, c.prop 42⟩ aa0) O_Visit_time (hr.mono (by decide)) hg B1_Visit_time (ge_var (pv 0)))) (ge_prop (aa1 ⟨(c.cls 16).cl, c.prop 43⟩ aa0) O_Visit_shift (hr.mono (by decide)) hg B1_Visit_shift (ge_var (pv 0)))) (ge_int)) (gv_nil))))))
theorem sc_stretch : FnScope ["visit", "start", "end"] ["visit", "start", "end"] (defScope s_stretch) := ⟨rfl, rfl, rfl, by decide +kernel, rfl, by decide +kernel, by decide +kernel⟩
def m_stretch : MS :=
    mSeq (mDrop (mCallF F_check_window 2 0 (fun as bs => [as.getD 0 (.dat .non), as.getD 1 (.dat .non)]) (vDat (mVar 1) (vDat (mVar 2) (vNil))) vNil))
    (mRet (mCallF F_urgent_entries 3 0 (fun as bs => [as.getD 0 (.dat .non), as.getD 1 (.dat .non), as.getD 2 (.dat .non)]) (vDat (mVar 0) (vDat (mVar 1) (vDat (mVar 2) (vNil)))) vNil))
def F_stretch : List FA → RF := runDef 3 3 m_stretch
theorem ok_stretch {P : Program} {w : World} {K : PySem.W.Frag} {mg : Str → Option Value} {base : Heap} (c : Kn fa fn K mg) {fd : FuncData} (D : FunM K d_stretch fd) : FnG P w K mg base (L2.CX P w) 5 (d_stretch.ad.a K) fd ["visit", "start", "end"] (spF (He.ga K) K F_stretch) := by
  obtain ⟨fd_check_window, D_check_window⟩ := c.def_ 9 (d := d_check_window)
  have O_check_window := ok_check_window (P := P) (w := w) (base := base) c D_check_window
  have B2_check_window := bs_bd_check_window_2 D_check_window
  obtain ⟨fd_urgent_entries, D_urgent_entries⟩ := c.def_ 15 (d := d_urgent_entries)
  have O_urgent_entries := ok_urgent_entries (P := P) (w := w) (base := base) c D_urgent_entries
  have B3_urgent_entries := bs_bd_urgent_entries_3 D_urgent_entries
  exact fnG_of D sc_stretch rfl rfl fun cdv A outer s H E hr hg =>
    gs_cons (gs_expr (ge_callF O_check_window (hr.mono (by decide)) hg (takes_of rfl rfl rfl rfl) (by rfl) (c.glo 39) D_check_window.kp (bd_check_window_2 D_check_window) ar_bd_check_window_2 (gv_dat (ge_var (pv 1)) (gv_dat (ge_var (pv 2)) (gv_nil)))))
    (gs_one (gs_ret (ge_callF O_urgent_entries (hr.mono (by decide)) hg (takes_of rfl rfl rfl rfl) (by rfl) (c.glo 45) D_urgent_entries.kp (bd_urgent_entries_3 D_urgent_entries) ar_bd_urgent_entries_3 (gv_dat (ge_var (pv 0)) (gv_dat (ge_var (pv 1)) (gv_dat (ge_var (pv 2)) (gv_nil)))))))
theorem sc_Visit_repr0 : FnScope ["self"] ["self"] (defScope s_Visit_repr0) := ⟨rfl, rfl, rfl, by decide +kernel, rfl, by decide +kernel, by decide +kernel⟩
def m_Visit_repr0 : MS :=
    mRet (mFStr [mC (.str "Visit("), m1 fmtC (mProp ["Visit"] F_Visit_time (mVar 0)), mC (.str ", shift="), m1 fmtC (mProp ["Visit"] F_Visit_shift (mVar 0)), mC (.str ", begin="), m1 fmtC (mProp ["Visit"] F_Visit_begin (mVar 0)), mC (.str ", end="), m1 fmtC (mProp ["Visit"] F_Visit_end (mVar 0)), mC (.str ")")])
def F_Visit_repr0 : List FA → RF := runDef 1 1 m_Visit_repr0
theorem ok_Visit_repr0 {P : Program} {w : World} {K : PySem.W.Frag} {mg : Str → Option Value} {base : Heap} (c : Kn fa fn K mg) {fd : FuncData} (D : FunM K d_Visit_repr0 fd) : FnG P w K mg base (L2.CX P w) 3 (d_Visit_repr0.ad.a K) fd ["self"] (spF (He.ga K) K F_Visit_repr0) := by
  obtain ⟨fd_Visit_time, D_Visit_time⟩ := c.def_ 13 (d := d_Visit_time)
  have O_Visit_time := ok_Visit_time (P := P) (w := w) (base := base) c D_Visit_time
  have B1_Visit_time := bs_bd_Visit_time_1 D_Visit_time
  obtain ⟨fd_Visit_shift, D_Visit_shift⟩ := c.def_ 14 (d := d_Visit_shift)
  have O_Visit_shift := ok_Visit_shift (P := P) (w := w) (base := base) c D_Visit_shift
  have B1_Visit_shift := bs_bd_Visit_shift_1 D_Visit_shift
  obtain ⟨fd_Visit_begin, D_Visit_begin⟩ := c.def_ 10 (d := d_Visit_begin)
  have O_Visit_begin := ok_Visit_begin (P := P) (w := w) (base := base) c D_Visit_begin
  have B1_Visit_begin := bs_bd_Visit_begin_1 D_Visit_begin
  obtain ⟨fd_Visit_end, D_Visit_end⟩ := c.def_ 11 (d := d_Visit_end)
  have O_Visit_end := ok_Visit_end (P := P) (w := w) (base := base) c D_Visit_end
  have B1_Visit_end := bs_bd_Visit_end_1 D_Visit_end
  exact fnG_of D sc_Visit_repr0 rfl rfl fun cdv A outer s H E hr hg =>
    gs_one (gs_ret (ge_fstr (pj_cons (ge_str) (pj_cons (ge_fmt (ge_prop (aa1 ⟨(c.cls 16).cl, c.prop 42⟩ aa0) O_Visit_time (hr.mono (by decide)) hg B1_Visit_time (ge_var (pv 0)))) (pj_cons (ge_str) (pj_cons (ge_fmt (ge_prop (aa1 ⟨(c.cls 16).cl, c.prop 43⟩ aa0) O_Visit_shift (hr.mono (by decide)) hg B1_Visit_shift (ge_var (pv 0)))) (pj_cons (ge_str) (pj_cons (ge_fmt (ge_prop (aa1 ⟨(c.cls 16).cl, c.prop 40⟩ aa0) O_Visit_begin (hr.mono (by decide)) hg B1_Visit_begin (ge_var (pv 0)))) (pj_cons (ge_str) (pj_cons (ge_fmt (ge_prop (aa1 ⟨(c.cls 16).cl, c.prop 41⟩ aa0) O_Visit_end (hr.mono (by decide)) hg B1_Visit_end (ge_var (pv 0)))) (pj_cons (ge_str) (pj_nil))))))))))))
theorem sc_l_told_right : FnScope ["_law_visit", "_law_parts_here", "_law_words"] ["_law_visit", "_law_parts_here"] (defScope s_l_told_right) := ⟨rfl, rfl, rfl, by decide +kernel, rfl, by decide +kernel, by decide +kernel⟩
def m_l_told_right : MS :=
    mSeq (mIfS (cTruth (m2 neD (mCall reprC (mCons (mLst (mCons (mProp ["Visit"] F_Visit_time (mVar 0)) (mCons (mProp ["Visit"] F_Visit_shift (mVar 0)) (mCons (mProp ["Visit"] F_Visit_begin (mVar 0)) (mCons (mProp ["Visit"] F_Visit_end (mVar 0)) (mNil)))))) (mNil))) (mCall reprC (mCons (mVar 1) (mNil))))) (mRet (mC (.bl false))) (mNext))
    (mSeq (mAsg (mLst (mCons (mCall strC (mCons (m2 ixD (mVar 1) (mC (.int 0))) (mNil))) (mCons (m2 addD (mC (.str "shift=")) (mCall strC (mCons (m2 ixD (mVar 1) (mC (.int 1))) (mNil)))) (mCons (m2 addD (mC (.str "begin=")) (mCall strC (mCons (m2 ixD (mVar 1) (mC (.int 2))) (mNil)))) (mCons (m2 addD (mC (.str "end=")) (mCall strC (mCons (m2 ixD (mVar 1) (mC (.int 3))) (mNil)))) (mNil)))))) (gNm 2))
    (mRet (m2 eqD (mCall (reprO "Visit" F_Visit_repr0) (mCons (mVar 0) (mNil))) (m2 addD (m2 addD (mC (.str "Visit(")) (mJn (mC (.str ", ")) (mVar 2))) (mC (.str ")"))))))
def F_l_told_right : List FA → RF := runDef 2 3 m_l_told_right
theorem ok_l_told_right {P : Program} {w : World} {K : PySem.W.Frag} {mg : Str → Option Value} {base : Heap} (c : Kn fa fn K mg) {fd : FuncData} (D : FunM K d_l_told_right fd) : FnG P w K mg base (L2.CX P w) 5 (d_l_told_right.ad.a K) fd ["_law_visit", "_law_parts_here"] (spF (He.ga K) K F_l_told_right) := by
  obtain ⟨fd_Visit_end, D_Visit_end⟩ := c.def_ 11 (d := d_Visit_end)
  have O_Visit_end := ok_Visit_end (P := P) (w := w) (base := base) c D_Visit_end
  have B1_Visit_end := bs_bd_Visit_end_1 D_Visit_end
  obtain ⟨fd_Visit_begin, D_Visit_begin⟩ := c.def_ 10 (d := d_Visit_begin)
  have O_Visit_begin := ok_Visit_begin (P := P) (w := w) (base := base) c D_Visit_begin
  have B1_Visit_begin := bs_bd_Visit_begin_1 D_Visit_begin
  obtain ⟨fd_Visit_shift, D_Visit_shift⟩ := c.def_ 14 (d := d_Visit_shift)
  have O_Visit_shift := ok_Visit_shift (P := P) (w := w) (base := base) c D_Visit_shift
  have B1_Visit_shift := bs_bd_Visit_shift_1 D_Visit_shift
  obtain ⟨fd_Visit_time, D_Visit_time⟩ := c.def_ 13 (d := d_Visit_time)
  have O_Visit_time := ok_Visit_time (P := P) (w := w) (base := base) c D_Visit_time
  have B1_Visit_time := bs_bd_Visit_time_1 D_Visit_time
  obtain ⟨fd_Visit_repr0, D_Visit_repr0⟩ := c.def_ 17 (d := d_Visit_repr0)
  have O_Visit_repr0 := ok_Visit_repr0 (P := P) (w := w) (base := base) c D_Visit_repr0
  have B1_Visit_repr0 := bs_bd_Visit_repr0_1 D_Visit_repr0
  exact fnG_of D sc_l_told_right rfl rfl fun cdv A outer s H E hr hg =>
    gs_cons (gs_if (gt_cmp (o_ne hr.units) (ge_callB (c_repr hg hr.units) (by rfl) (c.free 38) (by decide +kernel) (ga_cons (ge_lst (ga_cons (ge_prop (aa1 ⟨(c.cls 16).cl, c.prop 42⟩ aa0) O_Visit_time (hr.mono (by decide)) hg B1_Visit_time (ge_var (pv 0))) (ga_cons (ge_prop (aa1 ⟨(c.cls 16).cl, c.prop 43⟩ aa0) O_Visit_shift (hr.mono (by decide)) hg B1_Visit_shift (ge_var (pv 0))) (ga_cons (ge_prop (aa1 ⟨(c.cls 16).cl, c.prop 40⟩ aa0) O_Visit_begin (hr.mono (by decide)) hg B1_Visit_begin (ge_var (pv 0))) (ga_cons (ge_prop (aa1 ⟨(c.cls 16).cl, c.prop 41⟩ aa0) O_Visit_end (hr.mono (by decide)) hg B1_Visit_end (ge_var (pv 0))) (ga_nil)))))) (ga_nil))) (ge_callB (c_repr hg hr.units) (by rfl) (c.free 38) (by decide +kernel) (ga_cons (ge_var (pv 1)) (ga_nil))) (nomark _)) (gs_one (gs_ret (ge_bl))) (gs_nil))
    (gs_cons (gs_set (i := 2) sc_l_told_right.nd rfl (by first | exact .inl rfl | exact .inr rfl) (ge_lst (ga_cons (ge_callTy c_str (by rfl) (c.free 48) (by decide +kernel) (ga_cons (ge_ix i_ix (ge_var (pv 1)) (ge_int) (fun _ _ => rfl)) (ga_nil))) (ga_cons (ge_op o_add (ge_str) (ge_callTy c_str (by rfl) (c.free 48) (by decide +kernel) (ga_cons (ge_ix i_ix (ge_var (pv 1)) (ge_int) (fun _ _ => rfl)) (ga_nil)))) (ga_cons (ge_op o_add (ge_str) (ge_callTy c_str (by rfl) (c.free 48) (by decide +kernel) (ga_cons (ge_ix i_ix (ge_var (pv 1)) (ge_int) (fun _ _ => rfl)) (ga_nil)))) (ga_cons (ge_op o_add (ge_str) (ge_callTy c_str (by rfl) (c.free 48) (by decide +kernel) (ga_cons (ge_ix i_ix (ge_var (pv 1)) (ge_int) (fun _ _ => rfl)) (ga_nil)))) (ga_nil)))))))
    (gs_one (gs_ret (ge_cmp (o_eq hr.units) (ge_callB (c_reprO (c.rep 47).1 (c.rep 47).2 O_Visit_repr0 B1_Visit_repr0 (hr.mono (by decide)) hg) (by rfl) (c.free 38) (by decide +kernel) (ga_cons (ge_var (pv 0)) (ga_nil))) (ge_op o_add (ge_op o_add (ge_str) (ge_join (ge_str) (ge_var (pv 2)))) (ge_str)) (nomark _)))))
theorem sc_Visit_eq0 : FnScope ["self", "other"] ["self", "other"] (defScope s_Visit_eq0) := ⟨rfl, rfl, rfl, by decide +kernel, rfl, by decide +kernel, by decide +kernel⟩
def m_Visit_eq0 : MS :=
    mRet (mAnd (m1 (isiT [("NoneType", false), ("bool", false), ("int", false), ("str", false), ("list", false), ("tuple", false), ("dict", false)] [("Visit", true)]) (mVar 1)) (m2 eqD (m1 (fldD ["Visit"] "kept") (mVar 0)) (m1 (fldD ["Visit"] "kept") (mVar 1))))
def F_Visit_eq0 : List FA → RF := runDef 2 2 m_Visit_eq0
theorem ok_Visit_eq0 {P : Program} {w : World} {K : PySem.W.Frag} {mg : Str → Option Value} {base : Heap} (c : Kn fa fn K mg) {fd : FuncData} (D : FunM K d_Visit_eq0 fd) : FnG P w K mg base (L2.CX P w) 1 (d_Visit_eq0.ad.a K) fd ["self", "other"] (spF (He.ga K) K F_Visit_eq0) := by
  exact fnG_of D sc_Visit_eq0 rfl rfl fun cdv A outer s H E hr hg =>
    gs_one (gs_ret (ge_and (ge_isi (c.free 18) (by rfl) (ge_var (pv 1)) (pe_glob (v := .ref _) (by rfl) (c.glo 35) rfl) (.own _) (aa1 (c.kit 57 (a := .b "NoneType") (b := (.c "Visit")) (r := false)) (aa1 (c.kit 56 (a := .b "bool") (b := (.c "Visit")) (r := false)) (aa1 (c.kit 55 (a := .b "int") (b := (.c "Visit")) (r := false)) (aa1 (c.kit 54 (a := .b "str") (b := (.c "Visit")) (r := false)) (aa1 (c.kit 53 (a := .b "list") (b := (.c "Visit")) (r := false)) (aa1 (c.kit 52 (a := .b "tuple") (b := (.c "Visit")) (r := false)) (aa1 (c.kit 51 (a := .b "dict") (b := (.c "Visit")) (r := false)) (aa0)))))))) (aa1 ⟨c.cls 16, c.kit 58 (a := .c "Visit") (b := (.c "Visit")) (r := true)⟩ (aa0))) (ge_one (ge_cmp (o_eq hr.units) (ge_fld (aa1 ⟨(c.cls 16).cl, c.noat 33⟩ aa0) (ge_var (pv 0))) (ge_fld (aa1 ⟨(c.cls 16).cl, c.noat 33⟩ aa0) (ge_var (pv 1))) (nomark _)))))
theorem sc_l_equal_right : FnScope ["_law_rng_here", "_law_visit", "_law_parts_here", "_law_other", "_law_place", "_law_thing", "_law_twin", "_law_near"] ["_law_rng_here", "_law_visit", "_law_parts_here"] (defScope s_l_equal_right) := ⟨rfl, rfl, rfl, by decide +kernel, rfl, by decide +kernel, by decide +kernel⟩
def m_l_equal_right : MS :=
    mSeq (mSetF 3 (lList (mVar 2)))
    (mSeq (mAsg (mCallF F_l_draw 2 0 (fun as bs => [as.getD 0 (.dat .non), as.getD 1 (.dat .non)]) (vSlot 0 (vDat (mC (.int 4)) (vNil))) vNil) (gNm 4))
    (mSeq (mAsg (m2 ixD (mLst (mCons (m2 addD (m2 modD (mCall intC (mCons (mIxS 3 (mC (.int 0))) (mNil))) (mC (.int 12))) (mC (.int 1))) (mCons (m2 subD (mC (.int 1001)) (mCall maxC (mCons (mC (.int 1)) (mCons (mIxS 3 (mC (.int 1))) (mNil))))) (mCons (mCall maxC (mCons (mC (.int 0)) (mCons (m2 subD (mIxS 3 (mC (.int 2))) (mC (.int 1))) (mNil)))) (mCons (mC .non) (mNil)))))) (mVar 4)) (gIx 3 (mVar 4)))
    (mSeq (mPar 6 7 (mCons (mCallF F_l_made 1 0 (fun as bs => [as.getD 0 (.dat .non)]) (vDat (mVar 2) (vNil)) vNil) (mCons (mCallF F_l_made 1 0 (fun as bs => [as.getD 0 (.dat .non)]) (vDat (mVar 3) (vNil)) vNil) (mNil))))
    (mSeq (mIfS (cOr (cNot (cTruth (m2 (eqO "Visit" ["Visit"] F_Visit_eq0) (mVar 1) (mVar 6)))) (cOr (cTruth (m2 (neO "Visit" ["Visit"] F_Visit_eq0) (mVar 1) (mVar 6))) (cTruth (m2 neD (m2 (eqO "Visit" ["Visit"] F_Visit_eq0) (mVar 1) (mVar 7)) (mOpP eqD 3 (mVar 2)))))) (mRet (mC (.bl false))) (mNext))
    (mSeq (mFor (mItems (mLst (mCons (mC .non) (mCons (mC (.int 0)) (mCons (mC (.str "")) (mCons (mVar 2) (mCons (mCall tupleC (mCons (mVar 2) (mNil))) (mCons (mCall (reprO "Visit" F_Visit_repr0) (mCons (mVar 1) (mNil))) (mCons (mC (.dic [])) (mNil)))))))))) (gNm 5) (mIfS (cOr (cTruth (m2 (eqO "Visit" ["Visit"] F_Visit_eq0) (mVar 1) (mVar 5))) (cNot (cTruth (m2 (neO "Visit" ["Visit"] F_Visit_eq0) (mVar 1) (mVar 5))))) (mRet (mC (.bl false))) (mNext)))
    (mRet (mC (.bl true))))))))
def F_l_equal_right : List FA → RF := runDef 3 8 m_l_equal_right
theorem ok_l_equal_right {P : Program} {w : World} {K : PySem.W.Frag} {mg : Str → Option Value} {base : Heap} (c : Kn fa fn K mg) {fd : FuncData} (D : FunM K d_l_equal_right fd) : FnG P w K mg base (L2.CX P w) 7 (d_l_equal_right.ad.a K) fd ["_law_rng_here", "_law_visit", "_law_parts_here"] (spF (He.ga K) K F_l_equal_right) := by
  obtain ⟨fd_l_draw, D_l_draw⟩ := c.def_ 0 (d := d_l_draw)
  have O_l_draw := ok_l_draw (P := P) (w := w) (base := base) c D_l_draw
  have B2_l_draw := bs_bd_l_draw_2 D_l_draw
  obtain ⟨fd_l_made, D_l_made⟩ := c.def_ 7 (d := d_l_made)
  have O_l_made := ok_l_made (P := P) (w := w) (base := base) c D_l_made
  have B1_l_made := bs_bd_l_made_1 D_l_made
  obtain ⟨fd_Visit_eq0, D_Visit_eq0⟩ := c.def_ 19 (d := d_Visit_eq0)
  have O_Visit_eq0 := ok_Visit_eq0 (P := P) (w := w) (base := base) c D_Visit_eq0
  have B2_Visit_eq0 := bs_bd_Visit_eq0_2 D_Visit_eq0
  obtain ⟨fd_Visit_repr0, D_Visit_repr0⟩ := c.def_ 17 (d := d_Visit_repr0)
  have O_Visit_repr0 := ok_Visit_repr0 (P := P) (w := w) (base := base) c D_Visit_repr0
  have B1_Visit_repr0 := bs_bd_Visit_repr0_1 D_Visit_repr0
  exact fnG_of D sc_l_equal_right rfl rfl fun cdv A outer s H E hr hg =>
    gs_cons (gs_setF (i := 3) sc_l_equal_right.nd rfl (by first | exact .inl rfl | exact .inr rfl) (gl_list (by rfl) (c.free 50) (ge_var (pv 2))))
    (gs_cons (gs_set (i := 4) sc_l_equal_right.nd rfl (by first | exact .inl rfl | exact .inr rfl) (ge_callF O_l_draw (hr.mono (by decide)) hg (takes_of rfl rfl rfl rfl) (by rfl) (c.glo 6) D_l_draw.kp (bd_l_draw_2 D_l_draw) ar_bd_l_draw_2 (gv_slot (pv 0) (gv_dat (ge_int) (gv_nil)))))
    (gs_cons (gs_asg (ge_ix i_ix (ge_lst (ga_cons (ge_op o_add (ge_op o_mod (ge_callTy c_int (by rfl) (c.free 5) (by decide +kernel) (ga_cons (ge_ixS (pv 3) (ge_int) (fun _ _ => rfl)) (ga_nil))) (ge_int)) (ge_int)) (ga_cons (ge_op o_sub (ge_int) (ge_callB (c_max rfl) (by rfl) (c.free 2) (by decide +kernel) (ga_cons (ge_int) (ga_cons (ge_ixS (pv 3) (ge_int) (fun _ _ => rfl)) (ga_nil))))) (ga_cons (ge_callB (c_max rfl) (by rfl) (c.free 2) (by decide +kernel) (ga_cons (ge_int) (ga_cons (ge_op o_sub (ge_ixS (pv 3) (ge_int) (fun _ _ => rfl)) (ge_int)) (ga_nil)))) (ga_cons (ge_non) (ga_nil)))))) (ge_var (pv 4)) (fun _ _ => rfl)) (gg_ix (pv 3) (ge_var (pv 4))))
    (gs_cons (gs_par (i := 6) (j := 7) rfl sc_l_equal_right.nd rfl rfl (by decide) rfl rfl (ga_cons (ge_callF O_l_made (hr.mono (by decide)) hg (takes_of rfl rfl rfl rfl) (by rfl) (c.glo 36) D_l_made.kp (bd_l_made_1 D_l_made) ar_bd_l_made_1 (gv_dat (ge_var (pv 2)) (gv_nil))) (ga_cons (ge_callF O_l_made (hr.mono (by decide)) hg (takes_of rfl rfl rfl rfl) (by rfl) (c.glo 36) D_l_made.kp (bd_l_made_1 D_l_made) ar_bd_l_made_1 (gv_dat (ge_var (pv 3)) (gv_nil))) (ga_nil))) rfl)
    (gs_cons (gs_if ((gw_or (gt_not (gt_cmp (o_eqO (c.eqf 60) (aa1 ⟨c.cls 16, c.nf 59⟩ aa0) O_Visit_eq0 B2_Visit_eq0 (hr.mono (by decide)) hg) (ge_var (pv 1)) (ge_var (pv 6)) (nomark _))) (gw_or (gt_cmp (o_neO (c.eqf 60) (aa1 ⟨c.cls 16, c.nf 59⟩ aa0) O_Visit_eq0 B2_Visit_eq0 (hr.mono (by decide)) hg) (ge_var (pv 1)) (ge_var (pv 6)) (nomark _)) (gw_or1 (gt_cmp (o_ne hr.units) (ge_cmp (o_eqO (c.eqf 60) (aa1 ⟨c.cls 16, c.nf 59⟩ aa0) O_Visit_eq0 B2_Visit_eq0 (hr.mono (by decide)) hg) (ge_var (pv 1)) (ge_var (pv 7)) (nomark _)) (ge_cmpP (o_eq hr.units) (pv 3) (ge_var (pv 2)) (nomark _)) (nomark _))))).pt) (gs_one (gs_ret (ge_bl))) (gs_nil))
    (gs_cons (gs_for (passes_of rfl) rfl (gi_seq (ge_lst (ga_cons (ge_non) (ga_cons (ge_int) (ga_cons (ge_str) (ga_cons (ge_var (pv 2)) (ga_cons (ge_callTy c_tuple (by rfl) (c.free 61) (by decide +kernel) (ga_cons (ge_var (pv 2)) (ga_nil))) (ga_cons (ge_callB (c_reprO (c.rep 47).1 (c.rep 47).2 O_Visit_repr0 B1_Visit_repr0 (hr.mono (by decide)) hg) (by rfl) (c.free 38) (by decide +kernel) (ga_cons (ge_var (pv 1)) (ga_nil))) (ga_cons (ge_dic0) (ga_nil)))))))))) (gg_name (pg_name (i := 5) sc_l_equal_right.nd rfl (by first | exact .inl rfl | exact .inr rfl))) (gs_one (gs_if ((gw_or (gt_cmp (o_eqO (c.eqf 60) (aa1 ⟨c.cls 16, c.nf 59⟩ aa0) O_Visit_eq0 B2_Visit_eq0 (hr.mono (by decide)) hg) (ge_var (pv 1)) (ge_var (pv 5)) (nomark _)) (gw_or1 (gt_not (gt_cmp (o_neO (c.eqf 60) (aa1 ⟨c.cls 16, c.nf 59⟩ aa0) O_Visit_eq0 B2_Visit_eq0 (hr.mono (by decide)) hg) (ge_var (pv 1)) (ge_var (pv 5)) (nomark _))))).pt) (gs_one (gs_ret (ge_bl))) (gs_nil))))
    (gs_one (gs_ret (ge_bl))))))))
theorem sc_l_right : FnScope ["_law_rng_here", "_law_parts_here", "_law_visit", "_law_turn", "_law_plain", "_law_low", "_law_high", "_law_due_here"] ["_law_rng_here"] (defScope s_l_right) := ⟨rfl, rfl, rfl, by decide +kernel, rfl, by decide +kernel, by decide +kernel⟩
def m_l_right : MS :=
    mSeq (mAsg (mCallF F_l_parts 1 0 (fun as bs => [as.getD 0 (.dat .non)]) (vSlot 0 (vNil)) vNil) (gNm 1))
    (mSeq (mAsg (mCallF F_l_made 1 0 (fun as bs => [as.getD 0 (.dat .non)]) (vDat (mVar 1) (vNil)) vNil) (gNm 2))
    (mSeq (mFor (mIts range1 (mCons (mC (.int 4)) (mNil))) (gNm 3) (mSeq (mAsg (mCall maxC (mCons (mC (.int 0)) (mCons (m2 addD (m2 subD (m2 addD (m2 ixD (mVar 1) (mC (.int 1))) (m2 ixD (mVar 1) (mC (.int 2)))) (mC (.int 4))) (mCallF F_l_draw 2 0 (fun as bs => [as.getD 0 (.dat .non), as.getD 1 (.dat .non)]) (vSlot 0 (vDat (mC (.int 12)) (vNil))) vNil)) (mNil)))) (gNm 5))
    (mSeq (mAsg (m2 addD (m2 addD (mVar 5) (mC (.int 1))) (mCallF F_l_draw 2 0 (fun as bs => [as.getD 0 (.dat .non), as.getD 1 (.dat .non)]) (vSlot 0 (vDat (mC (.int 16)) (vNil))) vNil)) (gNm 6))
    (mSeq (mAsg (mCallF F_l_due 3 0 (fun as bs => [as.getD 0 (.dat .non), as.getD 1 (.dat .non), as.getD 2 (.dat .non)]) (vDat (mVar 1) (vDat (mVar 5) (vDat (mVar 6) (vNil)))) vNil) (gNm 7))
    (mIfS (cTruth (m2 neD (mCall reprC (mCons (mLst (mCons (mCallF F_stretch 3 0 (fun as bs => [as.getD 0 (.dat .non), as.getD 1 (.dat .non), as.getD 2 (.dat .non)]) (vDat (mVar 2) (vDat (mVar 5) (vDat (mVar 6) (vNil)))) vNil) (mCons (mCallF F_stretch 1 2 (fun as bs => [as.getD 0 (.dat .non), bs.getD 1 (.dat .non), bs.getD 0 (.dat .non)]) (vDat (mVar 2) (vNil)) (vDat (mVar 6) (vDat (mVar 5) (vNil)))) (mNil)))) (mNil))) (mCall reprC (mCons (mLst (mCons (mVar 7) (mCons (mVar 7) (mNil)))) (mNil))))) (mRet (mC (.bl false))) (mNext))))))
    (mSeq (mAsg (mMake "Visit" F_Visit_init0 0 1 (fun as bs => [bs.getD 0 (.dat .non), .dat (.int 0), .dat (.int 0), .dat (.non)]) (vNil) (vDat (m2 ixD (mVar 1) (mC (.int 0))) (vNil))) (gNm 4))
    (mSeq (mIfS (cOr (cTruth (m2 neD (mCall (reprO "Visit" F_Visit_repr0) (mCons (mVar 4) (mNil))) (mCall (reprO "Visit" F_Visit_repr0) (mCons (mMake "Visit" F_Visit_init0 1 3 (fun as bs => [as.getD 0 (.dat .non), bs.getD 0 (.dat .non), bs.getD 1 (.dat .non), bs.getD 2 (.dat .non)]) (vDat (m2 ixD (mVar 1) (mC (.int 0))) (vNil)) (vDat (mC (.int 0)) (vDat (mC (.int 0)) (vDat (mC .non) (vNil))))) (mNil))))) (cTruth (m2 neD (mLst (mCons (mProp ["Visit"] F_Visit_begin (mVar 4)) (mCons (mProp ["Visit"] F_Visit_end (mVar 4)) (mNil)))) (mLst (mCons (mC (.int 0)) (mCons (mC .non) (mNil))))))) (mRet (mC (.bl false))) (mNext))
    (mRet (mAnd (mCallF F_l_told_right 2 0 (fun as bs => [as.getD 0 (.dat .non), as.getD 1 (.dat .non)]) (vDat (mVar 2) (vDat (mVar 1) (vNil))) vNil) (mCallF F_l_equal_right 3 0 (fun as bs => [as.getD 0 (.dat .non), as.getD 1 (.dat .non), as.getD 2 (.dat .non)]) (vSlot 0 (vDat (mVar 2) (vDat (mVar 1) (vNil)))) vNil)))))))
def F_l_right : List FA → RF := runDef 1 8 m_l_right
theorem ok_l_right {P : Program} {w : World} {K : PySem.W.Frag} {mg : Str → Option Value} {base : Heap} (c : Kn fa fn K mg) {fd : FuncData} (D : FunM K d_l_right fd) : FnG P w K mg base (L2.CX P w) 8 (d_l_right.ad.a K) fd ["_law_rng_here"] (spF (He.ga K) K F_l_right) := by
  obtain ⟨fd_l_parts, D_l_parts⟩ := c.def_ 2 (d := d_l_parts)
  have O_l_parts := ok_l_parts (P := P) (w := w) (base := base) c D_l_parts
  have B1_l_parts := bs_bd_l_parts_1 D_l_parts
  obtain ⟨fd_l_made, D_l_made⟩ := c.def_ 7 (d := d_l_made)
  have O_l_made := ok_l_made (P := P) (w := w) (base := base) c D_l_made
  have B1_l_made := bs_bd_l_made_1 D_l_made
  obtain ⟨fd_l_draw, D_l_draw⟩ := c.def_ 0 (d := d_l_draw)
  have O_l_draw := ok_l_draw (P := P) (w := w) (base := base) c D_l_draw
  have B2_l_draw := bs_bd_l_draw_2 D_l_draw
  obtain ⟨fd_l_due, D_l_due⟩ := c.def_ 8 (d := d_l_due)
  have O_l_due := ok_l_due (P := P) (w := w) (base := base) c D_l_due
  have B3_l_due := bs_bd_l_due_3 D_l_due
  obtain ⟨fd_stretch, D_stretch⟩ := c.def_ 16 (d := d_stretch)
  have O_stretch := ok_stretch (P := P) (w := w) (base := base) c D_stretch
  have B3_stretch := bs_bd_stretch_3 D_stretch
  obtain ⟨fd_Visit_init0, D_Visit_init0⟩ := c.def_ 6 (d := d_Visit_init0)
  have O_Visit_init0 := ok_Visit_init0 (P := P) (w := w) (base := base) c D_Visit_init0
  obtain ⟨fd_Visit_repr0, D_Visit_repr0⟩ := c.def_ 17 (d := d_Visit_repr0)
  have O_Visit_repr0 := ok_Visit_repr0 (P := P) (w := w) (base := base) c D_Visit_repr0
  have B1_Visit_repr0 := bs_bd_Visit_repr0_1 D_Visit_repr0
  obtain ⟨fd_Visit_end, D_Visit_end⟩ := c.def_ 11 (d := d_Visit_end)
  have O_Visit_end := ok_Visit_end (P := P) (w := w) (base := base) c D_Visit_end
  have B1_Visit_end := bs_bd_Visit_end_1 D_Visit_end
  obtain ⟨fd_Visit_begin, D_Visit_begin⟩ := c.def_ 10 (d := d_Visit_begin)
  have O_Visit_begin := ok_Visit_begin (P := P) (w := w) (base := base) c D_Visit_begin
  have B1_Visit_begin := bs_bd_Visit_begin_1 D_Visit_begin
  obtain ⟨fd_l_told_right, D_l_told_right⟩ := c.def_ 18 (d := d_l_told_right)
  have O_l_told_right := ok_l_told_right (P := P) (w := w) (base := base) c D_l_told_right
  have B2_l_told_right := bs_bd_l_told_right_2 D_l_told_right
  obtain ⟨fd_l_equal_right, D_l_equal_right⟩ := c.def_ 20 (d := d_l_equal_right)
  have O_l_equal_right := ok_l_equal_right (P := P) (w := w) (base := base) c D_l_equal_right
  have B3_l_equal_right := bs_bd_l_equal_right_3 D_l_equal_right
  exact fnG_of D sc_l_right rfl rfl fun cdv A outer s H E hr hg =>
    gs_cons (gs_set (i := 1) sc_l_right.nd rfl (by first | exact .inl rfl | exact .inr rfl) (ge_callF O_l_parts (hr.mono (by decide)) hg (takes_of rfl rfl rfl rfl) (by rfl) (c.glo 8) D_l_parts.kp (bd_l_parts_1 D_l_parts) ar_bd_l_parts_1 (gv_slot (pv 0) (gv_nil))))
    (gs_cons (gs_set (i := 2) sc_l_right.nd rfl (by first | exact .inl rfl | exact .inr rfl) (ge_callF O_l_made (hr.mono (by decide)) hg (takes_of rfl rfl rfl rfl) (by rfl) (c.glo 36) D_l_made.kp (bd_l_made_1 D_l_made) ar_bd_l_made_1 (gv_dat (ge_var (pv 1)) (gv_nil))))
    (gs_cons (gs_for (passes_of rfl) rfl (gi_range1 (by rfl) (c.free 3) (ga_cons (ge_int) (ga_nil))) (gg_name (pg_name (i := 3) sc_l_right.nd rfl (by first | exact .inl rfl | exact .inr rfl))) (gs_cons (gs_set (i := 5) sc_l_right.nd rfl (by first | exact .inl rfl | exact .inr rfl) (ge_callB (c_max rfl) (by rfl) (c.free 2) (by decide +kernel) (ga_cons (ge_int) (ga_cons (ge_op o_add (ge_op o_sub (ge_op o_add (ge_ix i_ix (ge_var (pv 1)) (ge_int) (fun _ _ => rfl)) (ge_ix i_ix (ge_var (pv 1)) (ge_int) (fun _ _ => rfl))) (ge_int)) (ge_callF O_l_draw (hr.mono (by decide)) hg (takes_of rfl rfl rfl rfl) (by rfl) (c.glo 6) D_l_draw.kp (bd_l_draw_2 D_l_draw) ar_bd_l_draw_2 (gv_slot (pv 0) (gv_dat (ge_int) (gv_nil))))) (ga_nil)))))
    (gs_cons (gs_set (i := 6) sc_l_right.nd rfl (by first | exact .inl rfl | exact .inr rfl) (ge_op o_add (ge_op o_add (ge_var (pv 5)) (ge_int)) (ge_callF O_l_draw (hr.mono (by decide)) hg (takes_of rfl rfl rfl rfl) (by rfl) (c.glo 6) D_l_draw.kp (bd_l_draw_2 D_l_draw) ar_bd_l_draw_2 (gv_slot (pv 0) (gv_dat (ge_int) (gv_nil))))))
    (gs_cons (gs_set (i := 7) sc_l_right.nd rfl (by first | exact .inl rfl | exact .inr rfl) (ge_callF O_l_due (hr.mono (by decide)) hg (takes_of rfl rfl rfl rfl) (by rfl) (c.glo 37) D_l_due.kp (bd_l_due_3 D_l_due) ar_bd_l_due_3 (gv_dat (ge_var (pv 1)) (gv_dat (ge_var (pv 5)) (gv_dat (ge_var (pv 6)) (gv_nil))))))
    (gs_one (gs_if (gt_cmp (o_ne hr.units) (ge_callB (c_repr hg hr.units) (by rfl) (c.free 38) (by decide +kernel) (ga_cons (ge_lst (ga_cons (ge_callF O_stretch (hr.mono (by decide)) hg (takes_of rfl rfl rfl rfl) (by rfl) (c.glo 46) D_stretch.kp (bd_stretch_3 D_stretch) ar_bd_stretch_3 (gv_dat (ge_var (pv 2)) (gv_dat (ge_var (pv 5)) (gv_dat (ge_var (pv 6)) (gv_nil))))) (ga_cons (ge_callFK O_stretch (hr.mono (by decide)) hg (takes_of rfl rfl rfl rfl) (by rfl) (c.glo 46) D_stretch.kp (bd_stretch_1_end_start D_stretch) ar_bd_stretch_1_end_start (gv_dat (ge_var (pv 2)) (gv_nil)) (gk_dat (ge_var (pv 6)) (gk_dat (ge_var (pv 5)) (gk_nil)))) (ga_nil)))) (ga_nil))) (ge_callB (c_repr hg hr.units) (by rfl) (c.free 38) (by decide +kernel) (ga_cons (ge_lst (ga_cons (ge_var (pv 7)) (ga_cons (ge_var (pv 7)) (ga_nil)))) (ga_nil))) (nomark _)) (gs_one (gs_ret (ge_bl))) (gs_nil)))))))
    (gs_cons (gs_set (i := 4) sc_l_right.nd rfl (by first | exact .inl rfl | exact .inr rfl) (ge_makeK0 (c.mkr 34) O_Visit_init0 (hr.mono (by decide)) hg (takes_of rfl rfl rfl rfl) (by rfl) (c.glo 35) (bd_Visit_init0_1_time D_Visit_init0) (fun _ _ _ => rfl) as_bd_Visit_init0_1_time (gk_dat (ge_ix i_ix (ge_var (pv 1)) (ge_int) (fun _ _ => rfl)) (gk_nil))))
    (gs_cons (gs_if ((gw_or (gt_cmp (o_ne hr.units) (ge_callB (c_reprO (c.rep 47).1 (c.rep 47).2 O_Visit_repr0 B1_Visit_repr0 (hr.mono (by decide)) hg) (by rfl) (c.free 38) (by decide +kernel) (ga_cons (ge_var (pv 4)) (ga_nil))) (ge_callB (c_reprO (c.rep 47).1 (c.rep 47).2 O_Visit_repr0 B1_Visit_repr0 (hr.mono (by decide)) hg) (by rfl) (c.free 38) (by decide +kernel) (ga_cons (ge_makeK (c.mkr 34) O_Visit_init0 (hr.mono (by decide)) hg (takes_of rfl rfl rfl rfl) (by rfl) (c.glo 35) (bd_Visit_init0_2_shift_begin_end D_Visit_init0) (fun _ _ _ => rfl) as_bd_Visit_init0_2_shift_begin_end (gv_dat (ge_ix i_ix (ge_var (pv 1)) (ge_int) (fun _ _ => rfl)) (gv_nil)) (gk_dat (ge_int) (gk_dat (ge_int) (gk_dat (ge_non) (gk_nil))))) (ga_nil))) (nomark _)) (gw_or1 (gt_cmp (o_ne hr.units) (ge_lst (ga_cons (ge_prop (aa1 ⟨(c.cls 16).cl, c.prop 40⟩ aa0) O_Visit_begin (hr.mono (by decide)) hg B1_Visit_begin (ge_var (pv 4))) (ga_cons (ge_prop (aa1 ⟨(c.cls 16).cl, c.prop 41⟩ aa0) O_Visit_end (hr.mono (by decide)) hg B1_Visit_end (ge_var (pv 4))) (ga_nil)))) (ge_lst (ga_cons (ge_int) (ga_cons (ge_non) (ga_nil)))) (nomark _)))).pt) (gs_one (gs_ret (ge_bl))) (gs_nil))
    (gs_one (gs_ret (ge_and (ge_callF O_l_told_right (hr.mono (by decide)) hg (takes_of rfl rfl rfl rfl) (by rfl) (c.glo 49) D_l_told_right.kp (bd_l_told_right_2 D_l_told_right) ar_bd_l_told_right_2 (gv_dat (ge_var (pv 2)) (gv_dat (ge_var (pv 1)) (gv_nil)))) (ge_one (ge_callF O_l_equal_right (hr.mono (by decide)) hg (takes_of rfl rfl rfl rfl) (by rfl) (c.glo 62) D_l_equal_right.kp (bd_l_equal_right_3 D_l_equal_right) ar_bd_l_equal_right_3 (gv_slot (pv 0) (gv_dat (ge_var (pv 2)) (gv_dat (ge_var (pv 1)) (gv_nil)))))))))))))
theorem sc_l_rng : FnScope ["_law_script", "_law_k", "_law_cell"] ["_law_script", "_law_k"] (defScope s_l_rng) := ⟨rfl, rfl, rfl, by decide +kernel, rfl, by decide +kernel, by decide +kernel⟩
def m_l_rng : Sg → Rs (List Dat) :=
    mSeqL (mAsg (m2 addD (m2 mulD (mC (.int 7)) (mVar 1)) (mC (.int 3))) (gNm 2))
    (mSeqL (mIfS (cTruth (m2 ltD (mVar 1) (mCall lenC (mCons (mVar 0) (mNil))))) (mAsg (m2 ixD (mVar 0) (mVar 1)) (gNm 2)) (mNext))
    (lLst (mCons (mCall maxC (mCons (mC (.int 0)) (mCons (m2 subD (mCall absC (mCons (mVar 2) (mNil))) (m2 powD (mC (.int 10)) (mC (.int 18)))) (mNil)))) (mCons (m2 addD (m2 modD (m2 mulD (mCall intC (mCons (m2 addD (m2 modD (mCall intC (mCons (mCall absC (mCons (mVar 2) (mNil))) (mNil))) (mC (.int 2147483549))) (mC (.int 1))) (mNil))) (m2 powD (m2 addD (m2 mulD (mC (.int 2)) (mVar 1)) (mC (.int 5))) (mC (.int 3)))) (mC (.int 2147483543))) (mC (.int 1))) (mNil)))))
def F_l_rng : List Dat → Option (List Dat) := runL 2 3 m_l_rng
theorem ok_l_rng {P : Program} {w : World} {K : PySem.W.Frag} {mg : Str → Option Value} {base : Heap} (c : Kn fa fn K mg) {fd : FuncData} (D : FunM K d_l_rng fd) : FnG P w K mg base (L2.CX P w) 1 (d_l_rng.ad.a K) fd ["_law_script", "_law_k"] (spL (He.ga K) K F_l_rng) := by
  exact fnL_of D sc_l_rng rfl rfl fun cdv A outer s H E hr hg =>
    gs_consL (gs_set (i := 2) sc_l_rng.nd rfl (by first | exact .inl rfl | exact .inr rfl) (ge_op o_add (ge_op o_mul (ge_int) (ge_var (pv 1))) (ge_int)))
    (gs_consL (gs_if (gt_cmp o_lt (ge_var (pv 1)) (ge_callB c_len (by rfl) (c.free 0) (by decide +kernel) (ga_cons (ge_var (pv 0)) (ga_nil))) (nomark _)) (gs_one (gs_set (i := 2) sc_l_rng.nd rfl (by first | exact .inl rfl | exact .inr rfl) (ge_ix i_ix (ge_var (pv 0)) (ge_var (pv 1)) (fun _ _ => rfl)))) (gs_nil))
    (gs_oneL (gs_retL (gl_lst (ga_cons (ge_callB (c_max rfl) (by rfl) (c.free 2) (by decide +kernel) (ga_cons (ge_int) (ga_cons (ge_op o_sub (ge_callB c_abs (by rfl) (c.free 63) (by decide +kernel) (ga_cons (ge_var (pv 2)) (ga_nil))) (ge_op o_pow (ge_int) (ge_int))) (ga_nil)))) (ga_cons (ge_op o_add (ge_op o_mod (ge_op o_mul (ge_callTy c_int (by rfl) (c.free 5) (by decide +kernel) (ga_cons (ge_op o_add (ge_op o_mod (ge_callTy c_int (by rfl) (c.free 5) (by decide +kernel) (ga_cons (ge_callB c_abs (by rfl) (c.free 63) (by decide +kernel) (ga_cons (ge_var (pv 2)) (ga_nil))) (ga_nil))) (ge_int)) (ge_int)) (ga_nil))) (ge_op o_pow (ge_op o_add (ge_op o_mul (ge_int) (ge_var (pv 1))) (ge_int)) (ge_int))) (ge_int)) (ge_int)) (ga_nil)))))))
theorem sc_law : FnScope ["_law_script", "_law_k"] ["_law_script"] (defScope s_law) := ⟨rfl, rfl, rfl, by decide +kernel, rfl, by decide +kernel, by decide +kernel⟩
def m_law : MS :=
    mRet (mCall allC (mCons (mLc (mIts range1 (mCons (mCall maxC (mCons (mC (.int 1)) (mCons (mCall minC (mCons (mCall lenC (mCons (mVar 0) (mNil))) (mCons (mC (.int 4)) (mNil)))) (mNil)))) (mNil))) (cgN 1) (cYes) (mLend F_l_right (lCall F_l_rng 2 (vDat (mVar 0) (vDat (mVar 1) (vNil))))) [1]) (mNil)))
def F_law : List FA → RF := runDef 1 2 m_law
theorem ok_law {P : Program} {w : World} {K : PySem.W.Frag} {mg : Str → Option Value} {base : Heap} (c : Kn fa fn K mg) {fd : FuncData} (D : FunM K d_law fd) : FnG P w K mg base (L2.CX P w) 9 (d_law.ad.a K) fd ["_law_script"] (spF (He.ga K) K F_law) := by
  obtain ⟨fd_l_right, D_l_right⟩ := c.def_ 21 (d := d_l_right)
  have O_l_right := ok_l_right (P := P) (w := w) (base := base) c D_l_right
  have B1_l_right := bs_bd_l_right_1 D_l_right
  obtain ⟨fd_l_rng, D_l_rng⟩ := c.def_ 22 (d := d_l_rng)
  have O_l_rng := ok_l_rng (P := P) (w := w) (base := base) c D_l_rng
  have B2_l_rng := bs_bd_l_rng_2 D_l_rng
  exact fnG_of D sc_law rfl rfl fun cdv A outer s H E hr hg =>
    gs_one (gs_ret (ge_callB (c_all rfl) (by rfl) (c.free 66) (by decide +kernel) (ga_cons (ge_lc (own := [("_law_k", 1)]) rfl sc_law.nd (gi_range1 (by rfl) (c.free 3) (ga_cons (ge_callB (c_max rfl) (by rfl) (c.free 2) (by decide +kernel) (ga_cons (ge_int) (ga_cons (ge_callB (c_min rfl) (by rfl) (c.free 1) (by decide +kernel) (ga_cons (ge_callB c_len (by rfl) (c.free 0) (by decide +kernel) (ga_cons (ge_var (pv 0)) (ga_nil))) (ga_cons (ge_int) (ga_nil)))) (ga_nil)))) (ga_nil))) (blkOk_by (by rfl)) (tg_name 1) (fun _ _ _ _ _ => pg_name (i := 1) sc_law.nd rfl (by first | exact .inl rfl | exact .inr rfl)) (fun _ _ _ _ _ => pts_of rfl) (fun _ _ _ _ _ => ge_lend O_l_right (hr.mono (by decide)) hg Mir.takes0 (by rfl) (c.glo 65) D_l_right.kp B1_l_right (gl_call O_l_rng (hr.mono (by decide)) hg Mir.takes0 (by rfl) (c.glo 64) D_l_rng.kp B2_l_rng (gv_dat (ge_var (pv 0)) (gv_dat (ge_var (pv 1)) (gv_nil)))))) (ga_nil))))
end K31
-- level 9, facts 68

namespace K31
open PySem PySem.Spec PyProof.Rows L2 Mir
def nm0 : List PySem.Str := ["__name__", "DueError", "InvalidVisit", "InvalidWindow", "MAX_TICK", "is_integer", "is_count", "is_tick", "MAX_TIME", "check_window", "Visit", "cut_to_life", "urgent_entries", "stretch", "_law_rng", "_law_draw", "_law_choice", "_law_parts", "_law_made", "_law_due", "_law_told_right", "_law_equal_right", "_law_right"]
def nms : List PySem.Str := nm0
abbrev R : PySem.W.OpenRow := PySem.W.OpenLaw.row PySem.Challenge.rw_dueways_k31_stretches
abbrev hk : PySem.W.Hook := hookM 6 fa fn
def ob (s : PySem.W.SharedT) : He.AlD := obsMG 6 fa fn (HandSHeadRun.getT s)
theorem ob_eq (s : PySem.W.SharedT) : ob s = hk.obs s.abs := obsMG_eq (HandSHeadRun.getT_eq s)
theorem run (w : World) : HandSHeadRun.RunEq R (PySem.W.view R.prog [26]) hk ob 20000 nms w := by
  intro os
  kernel_rfl
theorem facts {P : Program} {w : World} {K : PySem.W.Frag} {h : Heap} {mg : Str → Option Value} {f : Addr} (X : K.In h) (G : h.Ns mainGlobals mg) (hf : mg ("law" : Str) = some (.ref f)) (z : SaysM fa fn K) :
    ∃ (fd : FuncData), (∀ (s : Shared) (v : Value), BindsTo s fd ⟨[v], []⟩ [("_law_script", v)]) ∧ ∀ base : Heap, K.In base → base.Ns mainGlobals mg → FnG P w K mg base (L2.CX P w) 9 f fd ["_law_script"] (spF (He.ga K) K F_law) := by
  have c : Kn fa fn K mg := ⟨⟨h, X, G⟩, z⟩
  obtain ⟨fd, D⟩ := c.def_ 23 (d := d_law)
  cases hf.symm.trans (c.glo 67)
  have b := FunD.bindsA (ps := ["_law_script"]) D fun _ _ _ _ _ _ us hl => match us, hl with | [_], _ => rfl
  exact ⟨fd, fun s v => b s [v] rfl, fun base _ _ => ok_law c D⟩
end K31
open PySem PySem.W PySem.Calls PyProof.Rows in
theorem K31.closed (good : ∀ ns : List Int, ns.length ≤ 63 → K31.F_law [.dat (.ro (ns.map .int))] = .ok (.bl true) []) : PySem.Challenge.rw_dueways_k31_stretches.Holds := by
  w_on; o_law
  refine HandSHeadRun.head_any (r := OpenLaw.row PySem.Challenge.rw_dueways_k31_stretches) (q := view (OpenLaw.row PySem.Challenge.rw_dueways_k31_stretches).prog [26]) (H := K31.hk) (ob := K31.ob) (M := 20000) (loose := K31.nms) (d := HandSHeadRun.topDef (OpenLaw.row PySem.Challenge.rw_dueways_k31_stretches).prog 26) (kwd := []) K31.ob_eq
    (by kernel_rfl) (fun s => by kernel_rfl) K31.run (by kernel_rfl) (by kernel_rfl) (by kernel_rfl) (by rfl) (by first | assumption | decide +kernel) (by decide +kernel) ⟨rfl, rfl, rfl, rfl, rfl, by decide +kernel⟩ ?hw ?hc
  case hw => w_witness2
  case hc =>
    refine Mir.end_ofM (l := PySem.Challenge.rw_dueways_k31_stretches) (n := 63) (k := 9) (x := "_law_script") (Fn := K31.F_law) rfl (by decide) (by kernel_rfl) ⟨rfl, by decide, by decide⟩ ?F good
    intro w mg fa h Y G hm
    obtain ⟨K, KX, z⟩ := Y
    have hm2 : mg ("law" : PySem.Str) = some (.ref fa) := by
      have e : (HandSHeadRun.topDef (OpenLaw.row PySem.Challenge.rw_dueways_k31_stretches).prog 26).name = ("law" : PySem.Str) := by kernel_rfl
      rw [← e]
      exact hm
    obtain ⟨fd, hb, hF⟩ := K31.facts (P := (PySem.Challenge.rw_dueways_k31_stretches).prog) (w := w) KX G hm2 z
    exact ⟨K, fd, He.ga K, KX, hb, hF⟩
-- level 9, facts 68

namespace K31
open PySem Mir
/-! ### the draws -/
structure Rg where
  a : Int
  b : Int
  a0 : 0 ≤ a
  b0 : 0 ≤ b
  b1 : b < 2147483648
def Rg.own (s : Rg) : Own := .lst [.int s.a, .int s.b]
def Rg.nb (s : Rg) : Int := (s.b * 48311 + 20011) % 2147483563
def Rg.val (s : Rg) (n : Int) : Int := if 0 < s.a then s.a % n else s.nb * s.nb % 2147483497 / 17 % n
def Rg.next (s : Rg) (n : Int) : Rg := if z : 0 < s.a ∧ 0 < n then ⟨s.a / n, s.b, Int.ediv_nonneg s.a0 (Int.le_of_lt z.2), s.b0, s.b1⟩ else ⟨s.a, s.nb, s.a0, Int.emod_nonneg _ (by decide), Int.lt_trans (Int.emod_lt_of_pos _ (by decide)) (by decide)⟩
theorem Rg.val0 (s : Rg) {n : Int} (h : 0 < n) : 0 ≤ s.val n := by
  unfold Rg.val
  split
  · exact Int.emod_nonneg _ (by omega)
  · exact Int.emod_nonneg _ (by omega)
theorem Rg.val1 (s : Rg) {n : Int} (h : 0 < n) : s.val n < n := by
  unfold Rg.val
  split
  · exact Int.emod_lt_of_pos _ h
  · exact Int.emod_lt_of_pos _ h
theorem small_of {i : Int} (h0 : 0 ≤ i) (h1 : i < 2147483648) : small64 i = true := by
  unfold small64
  simp only [Bool.and_eq_true, decide_eq_true_eq]
  omega
theorem nb_small (s : Rg) : small64 s.nb = true := small_of (Int.emod_nonneg _ (by decide)) (Int.lt_trans (Int.emod_lt_of_pos _ (by decide)) (by decide))
theorem draw_run (s : Rg) {n : Int} (h : 0 < n) (h2 : n < 1073741824) : F_l_draw [.own s.own, .dat (.int n)] = .ok (.int (s.val n)) [(s.next n).own] := by
  have nb := nb_small s
  have sm := small_of s.b0 s.b1
  by_cases hz : 0 < s.a
  · simp [F_l_draw, m_l_draw, Rg.own, r_seq, r_next, r_retN, r_break, r_cont, r_never, r_ret, r_drop, r_ifS, r_asg, r_nm, r_setF', r_lLst, r_lList, r_par, r_app, r_for, r_its, r_items, r_gIx, r_tpN, r_gcs, r_gnl, r_stF, r_C, r_2, r_1, r_nil, r_cons, r_call, r_lst, r_tup, r_if, r_and, r_or, r_not, r_truth, r_cand, r_cor, r_cnot, r_chain, r_ixS, r_opP, r_jn, r_callF, r_apply, r_vnil, r_vdat, r_vslot, r_make, r_prop, seqK_nx, seqK_rt, seqK_bk, seqK_ct, seqK_exc, seqK_bad, seqK_ite, retK_ok, retK_ite, dropK_ok, ifSK_ok, ifSK_ite, asgK_ok, asgK_ite, stK_ok, setFK_ok, lLstK_ok, lListK_lst, lListK_tup, lListK_ro, parK_ok, appK_ok, forK_ok, ofK_ok, itemsK_ok, gIxK_ok, gCsK_ok, stFK_ok, k2_ok, k2b_ok, k2_ite, k2b_ite, k1_ok, kc_ok, kc2_ok, kc_ite, kc2_ite, kf_ok, kf_ite, kIf_ok, kIf_ite, kAnd_bl, kOr_bl, kAnd_ite, kOr_ite, kNot_bl, kNot_ite, kTr_bl, kTr_ite, cAndK_ok, cOrK_ok, cNotK_ok, cAndK_ite, cOrK_ite, cNotK_ite, kCh_ok, kCh2_ok, kCh3_bl, ixSK_ok, opPK_ok, jnK_ok, fFK_ok, apK_some, cfK_ok, cfK2_ok, vd_ok, vd2_ok, vd_ite, vs2_ok, mkK_ok, mkK2_ok, propK_ok, Rs.of_some, Rs.of_none, Rs.bind_ok, Rs.bind_bad, Rs.bind_exc, Rs.calm_ok, mVar, isMut, listAt, isLent, fetch, wb, putS, nodupB, setAt, appAt, mkSlots, nOwn, runDef, endF, outsFrom, findOwn, L2.ixN, L2.atI, intD, ixD, List.getElem?_cons_zero, List.getElem?_cons_succ, List.set_cons_zero, List.set_cons_succ, List.length_cons, List.length_nil, List.replicate, List.cons_append, List.nil_append, List.append_nil, List.getD_cons_zero, List.getD_cons_succ, List.contains_cons, List.contains_nil, hz, h, h2, divmodC, Rg.val, Rg.next]
  · have nb2 : small64 ((s.b * 48311 + 20011) % 2147483563) = true := nb
    simp [F_l_draw, m_l_draw, Rg.own, r_seq, r_next, r_retN, r_break, r_cont, r_never, r_ret, r_drop, r_ifS, r_asg, r_nm, r_setF', r_lLst, r_lList, r_par, r_app, r_for, r_its, r_items, r_gIx, r_tpN, r_gcs, r_gnl, r_stF, r_C, r_2, r_1, r_nil, r_cons, r_call, r_lst, r_tup, r_if, r_and, r_or, r_not, r_truth, r_cand, r_cor, r_cnot, r_chain, r_ixS, r_opP, r_jn, r_callF, r_apply, r_vnil, r_vdat, r_vslot, r_make, r_prop, seqK_nx, seqK_rt, seqK_bk, seqK_ct, seqK_exc, seqK_bad, seqK_ite, retK_ok, retK_ite, dropK_ok, ifSK_ok, ifSK_ite, asgK_ok, asgK_ite, stK_ok, setFK_ok, lLstK_ok, lListK_lst, lListK_tup, lListK_ro, parK_ok, appK_ok, forK_ok, ofK_ok, itemsK_ok, gIxK_ok, gCsK_ok, stFK_ok, k2_ok, k2b_ok, k2_ite, k2b_ite, k1_ok, kc_ok, kc2_ok, kc_ite, kc2_ite, kf_ok, kf_ite, kIf_ok, kIf_ite, kAnd_bl, kOr_bl, kAnd_ite, kOr_ite, kNot_bl, kNot_ite, kTr_bl, kTr_ite, cAndK_ok, cOrK_ok, cNotK_ok, cAndK_ite, cOrK_ite, cNotK_ite, kCh_ok, kCh2_ok, kCh3_bl, ixSK_ok, opPK_ok, jnK_ok, fFK_ok, apK_some, cfK_ok, cfK2_ok, vd_ok, vd2_ok, vd_ite, vs2_ok, mkK_ok, mkK2_ok, propK_ok, Rs.of_some, Rs.of_none, Rs.bind_ok, Rs.bind_bad, Rs.bind_exc, Rs.calm_ok, mVar, isMut, listAt, isLent, fetch, wb, putS, nodupB, setAt, appAt, mkSlots, nOwn, runDef, endF, outsFrom, findOwn, L2.ixN, L2.atI, intD, ixD, List.getElem?_cons_zero, List.getElem?_cons_succ, List.set_cons_zero, List.set_cons_succ, List.length_cons, List.length_nil, List.replicate, List.cons_append, List.nil_append, List.append_nil, List.getD_cons_zero, List.getD_cons_succ, List.contains_cons, List.contains_nil, hz, h, h2, Rg.val, Rg.next, Rg.nb, addD, mulD, mulI, intC, sm, nb2]
theorem choice_run (s : Rg) : F_l_choice [.own s.own, .dat (.lst [.int 3, .int 12])] = .ok (.int (if s.val 2 = 0 then 3 else 12)) [(s.next 2).own] := by
  have h0 := s.val0 (n := 2) (by decide)
  have h1 := s.val1 (n := 2) (by decide)
  have d := draw_run s (n := 2) (by decide) (by decide)
  rcases (show s.val 2 = 0 ∨ s.val 2 = 1 by omega) with h | h <;> simp [F_l_choice, m_l_choice, r_seq, r_next, r_retN, r_break, r_cont, r_never, r_ret, r_drop, r_ifS, r_asg, r_nm, r_setF', r_lLst, r_lList, r_par, r_app, r_for, r_its, r_items, r_gIx, r_tpN, r_gcs, r_gnl, r_stF, r_C, r_2, r_1, r_nil, r_cons, r_call, r_lst, r_tup, r_if, r_and, r_or, r_not, r_truth, r_cand, r_cor, r_cnot, r_chain, r_ixS, r_opP, r_jn, r_callF, r_apply, r_vnil, r_vdat, r_vslot, r_make, r_prop, seqK_nx, seqK_rt, seqK_bk, seqK_ct, seqK_exc, seqK_bad, seqK_ite, retK_ok, retK_ite, dropK_ok, ifSK_ok, ifSK_ite, asgK_ok, asgK_ite, stK_ok, setFK_ok, lLstK_ok, lListK_lst, lListK_tup, lListK_ro, parK_ok, appK_ok, forK_ok, ofK_ok, itemsK_ok, gIxK_ok, gCsK_ok, stFK_ok, k2_ok, k2b_ok, k2_ite, k2b_ite, k1_ok, kc_ok, kc2_ok, kc_ite, kc2_ite, kf_ok, kf_ite, kIf_ok, kIf_ite, kAnd_bl, kOr_bl, kAnd_ite, kOr_ite, kNot_bl, kNot_ite, kTr_bl, kTr_ite, cAndK_ok, cOrK_ok, cNotK_ok, cAndK_ite, cOrK_ite, cNotK_ite, kCh_ok, kCh2_ok, kCh3_bl, ixSK_ok, opPK_ok, jnK_ok, fFK_ok, apK_some, cfK_ok, cfK2_ok, vd_ok, vd2_ok, vd_ite, vs2_ok, mkK_ok, mkK2_ok, propK_ok, Rs.of_some, Rs.of_none, Rs.bind_ok, Rs.bind_bad, Rs.bind_exc, Rs.calm_ok, mVar, isMut, listAt, isLent, fetch, wb, putS, nodupB, setAt, appAt, mkSlots, nOwn, runDef, endF, outsFrom, findOwn, L2.ixN, L2.atI, intD, ixD, List.getElem?_cons_zero, List.getElem?_cons_succ, List.set_cons_zero, List.set_cons_succ, List.length_cons, List.length_nil, List.replicate, List.cons_append, List.nil_append, List.append_nil, List.getD_cons_zero, List.getD_cons_succ, List.contains_cons, List.contains_nil, lenC, d, h]
/-! ### the parts -/
structure Pt where
  t : Int
  s : Int
  b : Int
  e : Option Int
  t1 : 1 ≤ t
  t2 : t ≤ 12
  s1 : 0 ≤ s
  s2 : s ≤ 1000
  b1 : 0 ≤ b
  b2 : b ≤ 1000
  e1 : ∀ x, e = some x → b ≤ x ∧ x ≤ 1000
def eD : Option Int → Dat
  | none => .non
  | some x => .int x
def Pt.ds (p : Pt) : List Dat := [.int p.t, .int p.s, .int p.b, eD p.e]
def Pt.dat (p : Pt) : Dat := .lst p.ds
def Pt.vis (p : Pt) : Dat := .ins "Visit" [("kept", .tup p.ds)]
theorem min_run (x y : Int) : minC [.int x, .int y] = some (.int (if y < x then y else x)) := by
  rfl
theorem max_run (x y : Int) : maxC [.int x, .int y] = some (.int (if x < y then y else x)) := by
  rfl
theorem vb (s : Rg) (n : Int) (h : 0 < n) : 0 ≤ s.val n ∧ s.val n < n := ⟨s.val0 h, s.val1 h⟩
theorem parts_run (s : Rg) : ∃ (p : Pt) (s' : Rg), F_l_parts [.own s.own] = .ok p.dat [s'.own] := by
  obtain ⟨n, hn, hn1, hn2, hc⟩ : ∃ n : Int, (if s.val 2 = 0 then (3 : Int) else 12) = n ∧ 1 ≤ n ∧ n ≤ 12 ∧ F_l_choice [.own s.own, .dat (.lst [.int 3, .int 12])] = .ok (.int n) [(s.next 2).own] := by
    refine ⟨_, rfl, ?_, ?_, choice_run s⟩ <;> split <;> decide
  have d1 := draw_run (s.next 2) (n := n) (by omega) (by omega)
  have b1 := vb (s.next 2) n (by omega)
  generalize (s.next 2).val n = v1 at *
  generalize (s.next 2).next n = s2 at *
  have d2 := draw_run s2 (n := 5) (by decide) (by decide)
  have b2 := vb s2 5 (by decide)
  generalize s2.val 5 = v2 at *
  generalize s2.next 5 = s3 at *
  have d3 := draw_run s3 (n := 6) (by decide) (by decide)
  have b3 := vb s3 6 (by decide)
  generalize s3.val 6 = v3 at *
  generalize s3.next 6 = s4 at *
  have d4 := draw_run s4 (n := 5) (by decide) (by decide)
  generalize s4.val 5 = v4 at *
  generalize s4.next 5 = s5 at *
  have d5 := draw_run s5 (n := 11) (by decide) (by decide)
  have b5 := vb s5 11 (by decide)
  generalize s5.val 11 = v5 at *
  generalize s5.next 11 = s6 at *
  have d6 := draw_run s6 (n := 2) (by decide) (by decide)
  have b6 := vb s6 2 (by decide)
  generalize s6.val 2 = v6 at *
  generalize s6.next 2 = s7 at *
  have fin : ∀ (sx : Rg) (S : Sg) (t sh be : Int), 1 ≤ t → t ≤ 12 → 0 ≤ sh → sh ≤ 1000 → 0 ≤ be → be ≤ 1000 → S = [.own 0 sx.own, .loc [.int t, .int sh, .int be, .non]] →
      ∃ (p : Pt) (s' : Rg), endF 1 ((mSeq (mIfS (cTruth (m2 eqD (mCallF F_l_draw 2 0 (fun as bs => [as.getD 0 (.dat .non), as.getD 1 (.dat .non)]) (vSlot 0 (vDat (mC (.int 2)) (vNil))) vNil) (mC (.int 0)))) (mAsg (mCall minC (mCons (mC (.int 1000)) (mCons (m2 addD (mIxS 1 (mC (.int 2))) (mCallF F_l_draw 2 0 (fun as bs => [as.getD 0 (.dat .non), as.getD 1 (.dat .non)]) (vSlot 0 (vDat (mC (.int 8)) (vNil))) vNil)) (mNil)))) (gIx 1 (mC (.int 3)))) (mNext)) (mRet (mVar 1))) S) = .ok p.dat [s'.own] := by
    intro sx S t sh be h1 h2 h3 h4 h5 h6 rfl
    have e1 := draw_run sx (n := 2) (by decide) (by decide)
    generalize sx.val 2 = w1 at *
    generalize sx.next 2 = x1 at *
    have e2 := draw_run x1 (n := 8) (by decide) (by decide)
    have c2 := vb x1 8 (by decide)
    generalize x1.val 8 = w2 at *
    generalize x1.next 8 = x2 at *
    by_cases hz : w1 = 0
    · refine ⟨⟨t, sh, be, some (if be + w2 < 1000 then be + w2 else 1000), h1, h2, h3, h4, h5, h6, fun x hx => ?_⟩, x2, ?_⟩
      · cases hx; split <;> omega
      · simp [r_seq, r_next, r_retN, r_break, r_cont, r_never, r_ret, r_drop, r_ifS, r_asg, r_nm, r_setF', r_lLst, r_lList, r_par, r_app, r_for, r_its, r_items, r_gIx, r_tpN, r_gcs, r_gnl, r_stF, r_C, r_2, r_1, r_nil, r_cons, r_call, r_lst, r_tup, r_if, r_and, r_or, r_not, r_truth, r_cand, r_cor, r_cnot, r_chain, r_ixS, r_opP, r_jn, r_callF, r_apply, r_vnil, r_vdat, r_vslot, r_make, r_prop, seqK_nx, seqK_rt, seqK_bk, seqK_ct, seqK_exc, seqK_bad, seqK_ite, retK_ok, retK_ite, dropK_ok, ifSK_ok, ifSK_ite, asgK_ok, asgK_ite, stK_ok, setFK_ok, lLstK_ok, lListK_lst, lListK_tup, lListK_ro, parK_ok, appK_ok, forK_ok, ofK_ok, itemsK_ok, gIxK_ok, gCsK_ok, stFK_ok, k2_ok, k2b_ok, k2_ite, k2b_ite, k1_ok, kc_ok, kc2_ok, kc_ite, kc2_ite, kf_ok, kf_ite, kIf_ok, kIf_ite, kAnd_bl, kOr_bl, kAnd_ite, kOr_ite, kNot_bl, kNot_ite, kTr_bl, kTr_ite, cAndK_ok, cOrK_ok, cNotK_ok, cAndK_ite, cOrK_ite, cNotK_ite, kCh_ok, kCh2_ok, kCh3_bl, ixSK_ok, opPK_ok, jnK_ok, fFK_ok, apK_some, cfK_ok, cfK2_ok, vd_ok, vd2_ok, vd_ite, vs2_ok, mkK_ok, mkK2_ok, propK_ok, Rs.of_some, Rs.of_none, Rs.bind_ok, Rs.bind_bad, Rs.bind_exc, Rs.calm_ok, mVar, isMut, listAt, isLent, fetch, wb, putS, nodupB, setAt, appAt, mkSlots, nOwn, runDef, endF, outsFrom, findOwn, L2.ixN, L2.atI, intD, ixD, List.getElem?_cons_zero, List.getElem?_cons_succ, List.set_cons_zero, List.set_cons_succ, List.length_cons, List.length_nil, List.replicate, List.cons_append, List.nil_append, List.append_nil, List.getD_cons_zero, List.getD_cons_succ, List.contains_cons, List.contains_nil, eqD, eqB, e1, e2, hz, addD, min_run, Pt.dat, Pt.ds, eD]
    · refine ⟨⟨t, sh, be, none, h1, h2, h3, h4, h5, h6, fun x hx => by cases hx⟩, x1, ?_⟩
      simp [r_seq, r_next, r_retN, r_break, r_cont, r_never, r_ret, r_drop, r_ifS, r_asg, r_nm, r_setF', r_lLst, r_lList, r_par, r_app, r_for, r_its, r_items, r_gIx, r_tpN, r_gcs, r_gnl, r_stF, r_C, r_2, r_1, r_nil, r_cons, r_call, r_lst, r_tup, r_if, r_and, r_or, r_not, r_truth, r_cand, r_cor, r_cnot, r_chain, r_ixS, r_opP, r_jn, r_callF, r_apply, r_vnil, r_vdat, r_vslot, r_make, r_prop, seqK_nx, seqK_rt, seqK_bk, seqK_ct, seqK_exc, seqK_bad, seqK_ite, retK_ok, retK_ite, dropK_ok, ifSK_ok, ifSK_ite, asgK_ok, asgK_ite, stK_ok, setFK_ok, lLstK_ok, lListK_lst, lListK_tup, lListK_ro, parK_ok, appK_ok, forK_ok, ofK_ok, itemsK_ok, gIxK_ok, gCsK_ok, stFK_ok, k2_ok, k2b_ok, k2_ite, k2b_ite, k1_ok, kc_ok, kc2_ok, kc_ite, kc2_ite, kf_ok, kf_ite, kIf_ok, kIf_ite, kAnd_bl, kOr_bl, kAnd_ite, kOr_ite, kNot_bl, kNot_ite, kTr_bl, kTr_ite, cAndK_ok, cOrK_ok, cNotK_ok, cAndK_ite, cOrK_ite, cNotK_ite, kCh_ok, kCh2_ok, kCh3_bl, ixSK_ok, opPK_ok, jnK_ok, fFK_ok, apK_some, cfK_ok, cfK2_ok, vd_ok, vd2_ok, vd_ite, vs2_ok, mkK_ok, mkK2_ok, propK_ok, Rs.of_some, Rs.of_none, Rs.bind_ok, Rs.bind_bad, Rs.bind_exc, Rs.calm_ok, mVar, isMut, listAt, isLent, fetch, wb, putS, nodupB, setAt, appAt, mkSlots, nOwn, runDef, endF, outsFrom, findOwn, L2.ixN, L2.atI, intD, ixD, List.getElem?_cons_zero, List.getElem?_cons_succ, List.set_cons_zero, List.set_cons_succ, List.length_cons, List.length_nil, List.replicate, List.cons_append, List.nil_append, List.append_nil, List.getD_cons_zero, List.getD_cons_succ, List.contains_cons, List.contains_nil, eqD, eqB, e1, hz, Pt.dat, Pt.ds, eD]
  have go : ∀ (sx : Rg) (t sh be : Int), 1 ≤ t → t ≤ 12 → 0 ≤ sh → sh ≤ 1000 → 0 ≤ be → be ≤ 1000 → F_l_parts [.own s.own] = endF 1 ((mSeq (mIfS (cTruth (m2 eqD (mCallF F_l_draw 2 0 (fun as bs => [as.getD 0 (.dat .non), as.getD 1 (.dat .non)]) (vSlot 0 (vDat (mC (.int 2)) (vNil))) vNil) (mC (.int 0)))) (mAsg (mCall minC (mCons (mC (.int 1000)) (mCons (m2 addD (mIxS 1 (mC (.int 2))) (mCallF F_l_draw 2 0 (fun as bs => [as.getD 0 (.dat .non), as.getD 1 (.dat .non)]) (vSlot 0 (vDat (mC (.int 8)) (vNil))) vNil)) (mNil)))) (gIx 1 (mC (.int 3)))) (mNext)) (mRet (mVar 1))) [.own 0 sx.own, .loc [.int t, .int sh, .int be, .non]]) → ∃ (p : Pt) (s' : Rg), F_l_parts [.own s.own] = .ok p.dat [s'.own] := fun sx t sh be h1 h2 h3 h4 h5 h6 e => by
    rw [e]; exact fin sx _ t sh be h1 h2 h3 h4 h5 h6 rfl
  by_cases hz : v4 = 0
  · rcases (show v6 = 0 ∨ v6 = 1 by omega) with h6 | h6
    · refine go s7 (1 + v1) (990 + v5) v3 (by omega) (by omega) (by omega) (by omega) (by omega) (by omega) ?_
      simp [F_l_parts, m_l_parts, runDef, nOwn, mkSlots, r_seq, r_next, r_retN, r_break, r_cont, r_never, r_ret, r_drop, r_ifS, r_asg, r_nm, r_setF', r_lLst, r_lList, r_par, r_app, r_for, r_its, r_items, r_gIx, r_tpN, r_gcs, r_gnl, r_stF, r_C, r_2, r_1, r_nil, r_cons, r_call, r_lst, r_tup, r_if, r_and, r_or, r_not, r_truth, r_cand, r_cor, r_cnot, r_chain, r_ixS, r_opP, r_jn, r_callF, r_apply, r_vnil, r_vdat, r_vslot, r_make, r_prop, seqK_nx, seqK_rt, seqK_bk, seqK_ct, seqK_exc, seqK_bad, seqK_ite, retK_ok, retK_ite, dropK_ok, ifSK_ok, ifSK_ite, asgK_ok, asgK_ite, stK_ok, setFK_ok, lLstK_ok, lListK_lst, lListK_tup, lListK_ro, parK_ok, appK_ok, forK_ok, ofK_ok, itemsK_ok, gIxK_ok, gCsK_ok, stFK_ok, k2_ok, k2b_ok, k2_ite, k2b_ite, k1_ok, kc_ok, kc2_ok, kc_ite, kc2_ite, kf_ok, kf_ite, kIf_ok, kIf_ite, kAnd_bl, kOr_bl, kAnd_ite, kOr_ite, kNot_bl, kNot_ite, kTr_bl, kTr_ite, cAndK_ok, cOrK_ok, cNotK_ok, cAndK_ite, cOrK_ite, cNotK_ite, kCh_ok, kCh2_ok, kCh3_bl, ixSK_ok, opPK_ok, jnK_ok, fFK_ok, apK_some, cfK_ok, cfK2_ok, vd_ok, vd2_ok, vd_ite, vs2_ok, mkK_ok, mkK2_ok, propK_ok, Rs.of_some, Rs.of_none, Rs.bind_ok, Rs.bind_bad, Rs.bind_exc, Rs.calm_ok, eqD, eqB, mkLst, lim, hc, d1, d2, d3, d4, d5, d6, hz, h6, addD, mVar, isMut, isLent, fetch, nodupB, wb, putS, setAt, L2.ixN]
    · refine go s7 (1 + v1) v2 (990 + v5) (by omega) (by omega) (by omega) (by omega) (by omega) (by omega) ?_
      simp [F_l_parts, m_l_parts, runDef, nOwn, mkSlots, r_seq, r_next, r_retN, r_break, r_cont, r_never, r_ret, r_drop, r_ifS, r_asg, r_nm, r_setF', r_lLst, r_lList, r_par, r_app, r_for, r_its, r_items, r_gIx, r_tpN, r_gcs, r_gnl, r_stF, r_C, r_2, r_1, r_nil, r_cons, r_call, r_lst, r_tup, r_if, r_and, r_or, r_not, r_truth, r_cand, r_cor, r_cnot, r_chain, r_ixS, r_opP, r_jn, r_callF, r_apply, r_vnil, r_vdat, r_vslot, r_make, r_prop, seqK_nx, seqK_rt, seqK_bk, seqK_ct, seqK_exc, seqK_bad, seqK_ite, retK_ok, retK_ite, dropK_ok, ifSK_ok, ifSK_ite, asgK_ok, asgK_ite, stK_ok, setFK_ok, lLstK_ok, lListK_lst, lListK_tup, lListK_ro, parK_ok, appK_ok, forK_ok, ofK_ok, itemsK_ok, gIxK_ok, gCsK_ok, stFK_ok, k2_ok, k2b_ok, k2_ite, k2b_ite, k1_ok, kc_ok, kc2_ok, kc_ite, kc2_ite, kf_ok, kf_ite, kIf_ok, kIf_ite, kAnd_bl, kOr_bl, kAnd_ite, kOr_ite, kNot_bl, kNot_ite, kTr_bl, kTr_ite, cAndK_ok, cOrK_ok, cNotK_ok, cAndK_ite, cOrK_ite, cNotK_ite, kCh_ok, kCh2_ok, kCh3_bl, ixSK_ok, opPK_ok, jnK_ok, fFK_ok, apK_some, cfK_ok, cfK2_ok, vd_ok, vd2_ok, vd_ite, vs2_ok, mkK_ok, mkK2_ok, propK_ok, Rs.of_some, Rs.of_none, Rs.bind_ok, Rs.bind_bad, Rs.bind_exc, Rs.calm_ok, eqD, eqB, mkLst, lim, hc, d1, d2, d3, d4, d5, d6, hz, h6, addD, mVar, isMut, isLent, fetch, nodupB, wb, putS, setAt, L2.ixN]
  · refine go s5 (1 + v1) v2 v3 (by omega) (by omega) (by omega) (by omega) (by omega) (by omega) ?_
    simp [F_l_parts, m_l_parts, runDef, nOwn, mkSlots, r_seq, r_next, r_retN, r_break, r_cont, r_never, r_ret, r_drop, r_ifS, r_asg, r_nm, r_setF', r_lLst, r_lList, r_par, r_app, r_for, r_its, r_items, r_gIx, r_tpN, r_gcs, r_gnl, r_stF, r_C, r_2, r_1, r_nil, r_cons, r_call, r_lst, r_tup, r_if, r_and, r_or, r_not, r_truth, r_cand, r_cor, r_cnot, r_chain, r_ixS, r_opP, r_jn, r_callF, r_apply, r_vnil, r_vdat, r_vslot, r_make, r_prop, seqK_nx, seqK_rt, seqK_bk, seqK_ct, seqK_exc, seqK_bad, seqK_ite, retK_ok, retK_ite, dropK_ok, ifSK_ok, ifSK_ite, asgK_ok, asgK_ite, stK_ok, setFK_ok, lLstK_ok, lListK_lst, lListK_tup, lListK_ro, parK_ok, appK_ok, forK_ok, ofK_ok, itemsK_ok, gIxK_ok, gCsK_ok, stFK_ok, k2_ok, k2b_ok, k2_ite, k2b_ite, k1_ok, kc_ok, kc2_ok, kc_ite, kc2_ite, kf_ok, kf_ite, kIf_ok, kIf_ite, kAnd_bl, kOr_bl, kAnd_ite, kOr_ite, kNot_bl, kNot_ite, kTr_bl, kTr_ite, cAndK_ok, cOrK_ok, cNotK_ok, cAndK_ite, cOrK_ite, cNotK_ite, kCh_ok, kCh2_ok, kCh3_bl, ixSK_ok, opPK_ok, jnK_ok, fFK_ok, apK_some, cfK_ok, cfK2_ok, vd_ok, vd2_ok, vd_ite, vs2_ok, mkK_ok, mkK2_ok, propK_ok, Rs.of_some, Rs.of_none, Rs.bind_ok, Rs.bind_bad, Rs.bind_exc, Rs.calm_ok, eqD, eqB, mkLst, lim, hc, d1, d2, d3, d4, hz, addD, mVar, isMut, isLent, fetch, nodupB, wb, putS, setAt, L2.ixN]
/-! ### the package -/
theorem integer_run (v : Int) : F_is_integer [.dat (.int v)] = .ok (.bl true) [] := by
  simp [F_is_integer, m_is_integer, r_seq, r_next, r_retN, r_break, r_cont, r_never, r_ret, r_drop, r_ifS, r_asg, r_nm, r_setF', r_lLst, r_lList, r_par, r_app, r_for, r_its, r_items, r_gIx, r_tpN, r_gcs, r_gnl, r_stF, r_C, r_2, r_1, r_nil, r_cons, r_call, r_lst, r_tup, r_if, r_and, r_or, r_not, r_truth, r_cand, r_cor, r_cnot, r_chain, r_ixS, r_opP, r_jn, r_callF, r_apply, r_vnil, r_vdat, r_vslot, r_make, r_prop, seqK_nx, seqK_rt, seqK_bk, seqK_ct, seqK_exc, seqK_bad, seqK_ite, retK_ok, retK_ite, dropK_ok, ifSK_ok, ifSK_ite, asgK_ok, asgK_ite, stK_ok, setFK_ok, lLstK_ok, lListK_lst, lListK_tup, lListK_ro, parK_ok, appK_ok, forK_ok, ofK_ok, itemsK_ok, gIxK_ok, gCsK_ok, stFK_ok, k2_ok, k2b_ok, k2_ite, k2b_ite, k1_ok, kc_ok, kc2_ok, kc_ite, kc2_ite, kf_ok, kf_ite, kIf_ok, kIf_ite, kAnd_bl, kOr_bl, kAnd_ite, kOr_ite, kNot_bl, kNot_ite, kTr_bl, kTr_ite, cAndK_ok, cOrK_ok, cNotK_ok, cAndK_ite, cOrK_ite, cNotK_ite, kCh_ok, kCh2_ok, kCh3_bl, ixSK_ok, opPK_ok, jnK_ok, fFK_ok, apK_some, cfK_ok, cfK2_ok, vd_ok, vd2_ok, vd_ite, vs2_ok, mkK_ok, mkK2_ok, propK_ok, Rs.of_some, Rs.of_none, Rs.bind_ok, Rs.bind_bad, Rs.bind_exc, Rs.calm_ok, mVar, isMut, listAt, isLent, fetch, wb, putS, nodupB, setAt, appAt, mkSlots, nOwn, runDef, endF, outsFrom, findOwn, L2.ixN, L2.atI, intD, ixD, List.getElem?_cons_zero, List.getElem?_cons_succ, List.set_cons_zero, List.set_cons_succ, List.length_cons, List.length_nil, List.replicate, List.cons_append, List.nil_append, List.append_nil, List.getD_cons_zero, List.getD_cons_succ, List.contains_cons, List.contains_nil, isiT, List.lookup]
theorem count1_run {v : Int} (h : 0 ≤ v) : F_is_count [.dat (.int v), .dat .non] = .ok (.bl true) [] := by
  simp [F_is_count, m_is_count, r_seq, r_next, r_retN, r_break, r_cont, r_never, r_ret, r_drop, r_ifS, r_asg, r_nm, r_setF', r_lLst, r_lList, r_par, r_app, r_for, r_its, r_items, r_gIx, r_tpN, r_gcs, r_gnl, r_stF, r_C, r_2, r_1, r_nil, r_cons, r_call, r_lst, r_tup, r_if, r_and, r_or, r_not, r_truth, r_cand, r_cor, r_cnot, r_chain, r_ixS, r_opP, r_jn, r_callF, r_apply, r_vnil, r_vdat, r_vslot, r_make, r_prop, seqK_nx, seqK_rt, seqK_bk, seqK_ct, seqK_exc, seqK_bad, seqK_ite, retK_ok, retK_ite, dropK_ok, ifSK_ok, ifSK_ite, asgK_ok, asgK_ite, stK_ok, setFK_ok, lLstK_ok, lListK_lst, lListK_tup, lListK_ro, parK_ok, appK_ok, forK_ok, ofK_ok, itemsK_ok, gIxK_ok, gCsK_ok, stFK_ok, k2_ok, k2b_ok, k2_ite, k2b_ite, k1_ok, kc_ok, kc2_ok, kc_ite, kc2_ite, kf_ok, kf_ite, kIf_ok, kIf_ite, kAnd_bl, kOr_bl, kAnd_ite, kOr_ite, kNot_bl, kNot_ite, kTr_bl, kTr_ite, cAndK_ok, cOrK_ok, cNotK_ok, cAndK_ite, cOrK_ite, cNotK_ite, kCh_ok, kCh2_ok, kCh3_bl, ixSK_ok, opPK_ok, jnK_ok, fFK_ok, apK_some, cfK_ok, cfK2_ok, vd_ok, vd2_ok, vd_ite, vs2_ok, mkK_ok, mkK2_ok, propK_ok, Rs.of_some, Rs.of_none, Rs.bind_ok, Rs.bind_bad, Rs.bind_exc, Rs.calm_ok, mVar, isMut, listAt, isLent, fetch, wb, putS, nodupB, setAt, appAt, mkSlots, nOwn, runDef, endF, outsFrom, findOwn, L2.ixN, L2.atI, intD, ixD, List.getElem?_cons_zero, List.getElem?_cons_succ, List.set_cons_zero, List.set_cons_succ, List.length_cons, List.length_nil, List.replicate, List.cons_append, List.nil_append, List.append_nil, List.getD_cons_zero, List.getD_cons_succ, List.contains_cons, List.contains_nil, integer_run, h, isND]
theorem count2_run {v m : Int} (h : 0 ≤ v) (h2 : v ≤ m) : F_is_count [.dat (.int v), .dat (.int m)] = .ok (.bl true) [] := by
  simp [F_is_count, m_is_count, r_seq, r_next, r_retN, r_break, r_cont, r_never, r_ret, r_drop, r_ifS, r_asg, r_nm, r_setF', r_lLst, r_lList, r_par, r_app, r_for, r_its, r_items, r_gIx, r_tpN, r_gcs, r_gnl, r_stF, r_C, r_2, r_1, r_nil, r_cons, r_call, r_lst, r_tup, r_if, r_and, r_or, r_not, r_truth, r_cand, r_cor, r_cnot, r_chain, r_ixS, r_opP, r_jn, r_callF, r_apply, r_vnil, r_vdat, r_vslot, r_make, r_prop, seqK_nx, seqK_rt, seqK_bk, seqK_ct, seqK_exc, seqK_bad, seqK_ite, retK_ok, retK_ite, dropK_ok, ifSK_ok, ifSK_ite, asgK_ok, asgK_ite, stK_ok, setFK_ok, lLstK_ok, lListK_lst, lListK_tup, lListK_ro, parK_ok, appK_ok, forK_ok, ofK_ok, itemsK_ok, gIxK_ok, gCsK_ok, stFK_ok, k2_ok, k2b_ok, k2_ite, k2b_ite, k1_ok, kc_ok, kc2_ok, kc_ite, kc2_ite, kf_ok, kf_ite, kIf_ok, kIf_ite, kAnd_bl, kOr_bl, kAnd_ite, kOr_ite, kNot_bl, kNot_ite, kTr_bl, kTr_ite, cAndK_ok, cOrK_ok, cNotK_ok, cAndK_ite, cOrK_ite, cNotK_ite, kCh_ok, kCh2_ok, kCh3_bl, ixSK_ok, opPK_ok, jnK_ok, fFK_ok, apK_some, cfK_ok, cfK2_ok, vd_ok, vd2_ok, vd_ite, vs2_ok, mkK_ok, mkK2_ok, propK_ok, Rs.of_some, Rs.of_none, Rs.bind_ok, Rs.bind_bad, Rs.bind_exc, Rs.calm_ok, mVar, isMut, listAt, isLent, fetch, wb, putS, nodupB, setAt, appAt, mkSlots, nOwn, runDef, endF, outsFrom, findOwn, L2.ixN, L2.atI, intD, ixD, List.getElem?_cons_zero, List.getElem?_cons_succ, List.set_cons_zero, List.set_cons_succ, List.length_cons, List.length_nil, List.replicate, List.cons_append, List.nil_append, List.append_nil, List.getD_cons_zero, List.getD_cons_succ, List.contains_cons, List.contains_nil, integer_run, h, h2, isND]
theorem tick_run {v : Int} (h : 0 ≤ v) (h2 : v ≤ 1000) : F_is_tick [.dat (.int v)] = .ok (.bl true) [] := by
  simp [F_is_tick, m_is_tick, r_seq, r_next, r_retN, r_break, r_cont, r_never, r_ret, r_drop, r_ifS, r_asg, r_nm, r_setF', r_lLst, r_lList, r_par, r_app, r_for, r_its, r_items, r_gIx, r_tpN, r_gcs, r_gnl, r_stF, r_C, r_2, r_1, r_nil, r_cons, r_call, r_lst, r_tup, r_if, r_and, r_or, r_not, r_truth, r_cand, r_cor, r_cnot, r_chain, r_ixS, r_opP, r_jn, r_callF, r_apply, r_vnil, r_vdat, r_vslot, r_make, r_prop, seqK_nx, seqK_rt, seqK_bk, seqK_ct, seqK_exc, seqK_bad, seqK_ite, retK_ok, retK_ite, dropK_ok, ifSK_ok, ifSK_ite, asgK_ok, asgK_ite, stK_ok, setFK_ok, lLstK_ok, lListK_lst, lListK_tup, lListK_ro, parK_ok, appK_ok, forK_ok, ofK_ok, itemsK_ok, gIxK_ok, gCsK_ok, stFK_ok, k2_ok, k2b_ok, k2_ite, k2b_ite, k1_ok, kc_ok, kc2_ok, kc_ite, kc2_ite, kf_ok, kf_ite, kIf_ok, kIf_ite, kAnd_bl, kOr_bl, kAnd_ite, kOr_ite, kNot_bl, kNot_ite, kTr_bl, kTr_ite, cAndK_ok, cOrK_ok, cNotK_ok, cAndK_ite, cOrK_ite, cNotK_ite, kCh_ok, kCh2_ok, kCh3_bl, ixSK_ok, opPK_ok, jnK_ok, fFK_ok, apK_some, cfK_ok, cfK2_ok, vd_ok, vd2_ok, vd_ite, vs2_ok, mkK_ok, mkK2_ok, propK_ok, Rs.of_some, Rs.of_none, Rs.bind_ok, Rs.bind_bad, Rs.bind_exc, Rs.calm_ok, mVar, isMut, listAt, isLent, fetch, wb, putS, nodupB, setAt, appAt, mkSlots, nOwn, runDef, endF, outsFrom, findOwn, L2.ixN, L2.atI, intD, ixD, List.getElem?_cons_zero, List.getElem?_cons_succ, List.set_cons_zero, List.set_cons_succ, List.length_cons, List.length_nil, List.replicate, List.cons_append, List.nil_append, List.append_nil, List.getD_cons_zero, List.getD_cons_succ, List.contains_cons, List.contains_nil, count2_run h h2]
theorem init_run (p : Pt) : F_Visit_init0 [.own (.obj "Visit" []), .dat (.int p.t), .dat (.int p.s), .dat (.int p.b), .dat (eD p.e)] = .ok .non [.obj "Visit" [("kept", .tup p.ds)]] := by
  have c := count1_run (v := p.t) (by have := p.t1; omega)
  have t1 := tick_run p.s1 p.s2
  have t2 := tick_run p.b1 p.b2
  have h1 := p.t1
  have h2 := p.t2
  cases he : p.e with
  | none => simp [F_Visit_init0, m_Visit_init0, r_seq, r_next, r_retN, r_break, r_cont, r_never, r_ret, r_drop, r_ifS, r_asg, r_nm, r_setF', r_lLst, r_lList, r_par, r_app, r_for, r_its, r_items, r_gIx, r_tpN, r_gcs, r_gnl, r_stF, r_C, r_2, r_1, r_nil, r_cons, r_call, r_lst, r_tup, r_if, r_and, r_or, r_not, r_truth, r_cand, r_cor, r_cnot, r_chain, r_ixS, r_opP, r_jn, r_callF, r_apply, r_vnil, r_vdat, r_vslot, r_make, r_prop, seqK_nx, seqK_rt, seqK_bk, seqK_ct, seqK_exc, seqK_bad, seqK_ite, retK_ok, retK_ite, dropK_ok, ifSK_ok, ifSK_ite, asgK_ok, asgK_ite, stK_ok, setFK_ok, lLstK_ok, lListK_lst, lListK_tup, lListK_ro, parK_ok, appK_ok, forK_ok, ofK_ok, itemsK_ok, gIxK_ok, gCsK_ok, stFK_ok, k2_ok, k2b_ok, k2_ite, k2b_ite, k1_ok, kc_ok, kc2_ok, kc_ite, kc2_ite, kf_ok, kf_ite, kIf_ok, kIf_ite, kAnd_bl, kOr_bl, kAnd_ite, kOr_ite, kNot_bl, kNot_ite, kTr_bl, kTr_ite, cAndK_ok, cOrK_ok, cNotK_ok, cAndK_ite, cOrK_ite, cNotK_ite, kCh_ok, kCh2_ok, kCh3_bl, ixSK_ok, opPK_ok, jnK_ok, fFK_ok, apK_some, cfK_ok, cfK2_ok, vd_ok, vd2_ok, vd_ite, vs2_ok, mkK_ok, mkK2_ok, propK_ok, Rs.of_some, Rs.of_none, Rs.bind_ok, Rs.bind_bad, Rs.bind_exc, Rs.calm_ok, mVar, isMut, listAt, isLent, fetch, wb, putS, nodupB, setAt, appAt, mkSlots, nOwn, runDef, endF, outsFrom, findOwn, L2.ixN, L2.atI, intD, ixD, List.getElem?_cons_zero, List.getElem?_cons_succ, List.set_cons_zero, List.set_cons_succ, List.length_cons, List.length_nil, List.replicate, List.cons_append, List.nil_append, List.append_nil, List.getD_cons_zero, List.getD_cons_succ, List.contains_cons, List.contains_nil, c, t1, t2, h1, h2, he, eD, notND, mkTup, lim, stF, putD, Pt.ds]
  | some x =>
    obtain ⟨e1, e2⟩ := p.e1 x he
    have t3 := tick_run (v := x) (by have := p.b1; omega) e2
    have e3 : ¬ x < p.b := by omega
    simp [F_Visit_init0, m_Visit_init0, r_seq, r_next, r_retN, r_break, r_cont, r_never, r_ret, r_drop, r_ifS, r_asg, r_nm, r_setF', r_lLst, r_lList, r_par, r_app, r_for, r_its, r_items, r_gIx, r_tpN, r_gcs, r_gnl, r_stF, r_C, r_2, r_1, r_nil, r_cons, r_call, r_lst, r_tup, r_if, r_and, r_or, r_not, r_truth, r_cand, r_cor, r_cnot, r_chain, r_ixS, r_opP, r_jn, r_callF, r_apply, r_vnil, r_vdat, r_vslot, r_make, r_prop, seqK_nx, seqK_rt, seqK_bk, seqK_ct, seqK_exc, seqK_bad, seqK_ite, retK_ok, retK_ite, dropK_ok, ifSK_ok, ifSK_ite, asgK_ok, asgK_ite, stK_ok, setFK_ok, lLstK_ok, lListK_lst, lListK_tup, lListK_ro, parK_ok, appK_ok, forK_ok, ofK_ok, itemsK_ok, gIxK_ok, gCsK_ok, stFK_ok, k2_ok, k2b_ok, k2_ite, k2b_ite, k1_ok, kc_ok, kc2_ok, kc_ite, kc2_ite, kf_ok, kf_ite, kIf_ok, kIf_ite, kAnd_bl, kOr_bl, kAnd_ite, kOr_ite, kNot_bl, kNot_ite, kTr_bl, kTr_ite, cAndK_ok, cOrK_ok, cNotK_ok, cAndK_ite, cOrK_ite, cNotK_ite, kCh_ok, kCh2_ok, kCh3_bl, ixSK_ok, opPK_ok, jnK_ok, fFK_ok, apK_some, cfK_ok, cfK2_ok, vd_ok, vd2_ok, vd_ite, vs2_ok, mkK_ok, mkK2_ok, propK_ok, Rs.of_some, Rs.of_none, Rs.bind_ok, Rs.bind_bad, Rs.bind_exc, Rs.calm_ok, mVar, isMut, listAt, isLent, fetch, wb, putS, nodupB, setAt, appAt, mkSlots, nOwn, runDef, endF, outsFrom, findOwn, L2.ixN, L2.atI, intD, ixD, List.getElem?_cons_zero, List.getElem?_cons_succ, List.set_cons_zero, List.set_cons_succ, List.length_cons, List.length_nil, List.replicate, List.cons_append, List.nil_append, List.append_nil, List.getD_cons_zero, List.getD_cons_succ, List.contains_cons, List.contains_nil, c, t1, t2, t3, h1, h2, he, e3, eD, notND, mkTup, lim, stF, putD, Pt.ds]
theorem made_run (p : Pt) : F_l_made [.dat p.dat] = .ok p.vis [] := by
  have i := init_run p
  simp [F_l_made, m_l_made, r_seq, r_next, r_retN, r_break, r_cont, r_never, r_ret, r_drop, r_ifS, r_asg, r_nm, r_setF', r_lLst, r_lList, r_par, r_app, r_for, r_its, r_items, r_gIx, r_tpN, r_gcs, r_gnl, r_stF, r_C, r_2, r_1, r_nil, r_cons, r_call, r_lst, r_tup, r_if, r_and, r_or, r_not, r_truth, r_cand, r_cor, r_cnot, r_chain, r_ixS, r_opP, r_jn, r_callF, r_apply, r_vnil, r_vdat, r_vslot, r_make, r_prop, seqK_nx, seqK_rt, seqK_bk, seqK_ct, seqK_exc, seqK_bad, seqK_ite, retK_ok, retK_ite, dropK_ok, ifSK_ok, ifSK_ite, asgK_ok, asgK_ite, stK_ok, setFK_ok, lLstK_ok, lListK_lst, lListK_tup, lListK_ro, parK_ok, appK_ok, forK_ok, ofK_ok, itemsK_ok, gIxK_ok, gCsK_ok, stFK_ok, k2_ok, k2b_ok, k2_ite, k2b_ite, k1_ok, kc_ok, kc2_ok, kc_ite, kc2_ite, kf_ok, kf_ite, kIf_ok, kIf_ite, kAnd_bl, kOr_bl, kAnd_ite, kOr_ite, kNot_bl, kNot_ite, kTr_bl, kTr_ite, cAndK_ok, cOrK_ok, cNotK_ok, cAndK_ite, cOrK_ite, cNotK_ite, kCh_ok, kCh2_ok, kCh3_bl, ixSK_ok, opPK_ok, jnK_ok, fFK_ok, apK_some, cfK_ok, cfK2_ok, vd_ok, vd2_ok, vd_ite, vs2_ok, mkK_ok, mkK2_ok, propK_ok, Rs.of_some, Rs.of_none, Rs.bind_ok, Rs.bind_bad, Rs.bind_exc, Rs.calm_ok, mVar, isMut, listAt, isLent, fetch, wb, putS, nodupB, setAt, appAt, mkSlots, nOwn, runDef, endF, outsFrom, findOwn, L2.ixN, L2.atI, intD, ixD, List.getElem?_cons_zero, List.getElem?_cons_succ, List.set_cons_zero, List.set_cons_succ, List.length_cons, List.length_nil, List.replicate, List.cons_append, List.nil_append, List.append_nil, List.getD_cons_zero, List.getD_cons_succ, List.contains_cons, List.contains_nil, Pt.dat, Pt.ds, datsOf, makeF, i, Pt.vis]
theorem begin_run (p : Pt) : F_Visit_begin [.dat p.vis] = .ok (.int p.b) [] := by simp [F_Visit_begin, m_Visit_begin, r_seq, r_next, r_retN, r_break, r_cont, r_never, r_ret, r_drop, r_ifS, r_asg, r_nm, r_setF', r_lLst, r_lList, r_par, r_app, r_for, r_its, r_items, r_gIx, r_tpN, r_gcs, r_gnl, r_stF, r_C, r_2, r_1, r_nil, r_cons, r_call, r_lst, r_tup, r_if, r_and, r_or, r_not, r_truth, r_cand, r_cor, r_cnot, r_chain, r_ixS, r_opP, r_jn, r_callF, r_apply, r_vnil, r_vdat, r_vslot, r_make, r_prop, seqK_nx, seqK_rt, seqK_bk, seqK_ct, seqK_exc, seqK_bad, seqK_ite, retK_ok, retK_ite, dropK_ok, ifSK_ok, ifSK_ite, asgK_ok, asgK_ite, stK_ok, setFK_ok, lLstK_ok, lListK_lst, lListK_tup, lListK_ro, parK_ok, appK_ok, forK_ok, ofK_ok, itemsK_ok, gIxK_ok, gCsK_ok, stFK_ok, k2_ok, k2b_ok, k2_ite, k2b_ite, k1_ok, kc_ok, kc2_ok, kc_ite, kc2_ite, kf_ok, kf_ite, kIf_ok, kIf_ite, kAnd_bl, kOr_bl, kAnd_ite, kOr_ite, kNot_bl, kNot_ite, kTr_bl, kTr_ite, cAndK_ok, cOrK_ok, cNotK_ok, cAndK_ite, cOrK_ite, cNotK_ite, kCh_ok, kCh2_ok, kCh3_bl, ixSK_ok, opPK_ok, jnK_ok, fFK_ok, apK_some, cfK_ok, cfK2_ok, vd_ok, vd2_ok, vd_ite, vs2_ok, mkK_ok, mkK2_ok, propK_ok, Rs.of_some, Rs.of_none, Rs.bind_ok, Rs.bind_bad, Rs.bind_exc, Rs.calm_ok, mVar, isMut, listAt, isLent, fetch, wb, putS, nodupB, setAt, appAt, mkSlots, nOwn, runDef, endF, outsFrom, findOwn, L2.ixN, L2.atI, intD, ixD, List.getElem?_cons_zero, List.getElem?_cons_succ, List.set_cons_zero, List.set_cons_succ, List.length_cons, List.length_nil, List.replicate, List.cons_append, List.nil_append, List.append_nil, List.getD_cons_zero, List.getD_cons_succ, List.contains_cons, List.contains_nil, Pt.vis, fldD, List.lookup, Pt.ds]
theorem end_run (p : Pt) : F_Visit_end [.dat p.vis] = .ok (eD p.e) [] := by simp [F_Visit_end, m_Visit_end, r_seq, r_next, r_retN, r_break, r_cont, r_never, r_ret, r_drop, r_ifS, r_asg, r_nm, r_setF', r_lLst, r_lList, r_par, r_app, r_for, r_its, r_items, r_gIx, r_tpN, r_gcs, r_gnl, r_stF, r_C, r_2, r_1, r_nil, r_cons, r_call, r_lst, r_tup, r_if, r_and, r_or, r_not, r_truth, r_cand, r_cor, r_cnot, r_chain, r_ixS, r_opP, r_jn, r_callF, r_apply, r_vnil, r_vdat, r_vslot, r_make, r_prop, seqK_nx, seqK_rt, seqK_bk, seqK_ct, seqK_exc, seqK_bad, seqK_ite, retK_ok, retK_ite, dropK_ok, ifSK_ok, ifSK_ite, asgK_ok, asgK_ite, stK_ok, setFK_ok, lLstK_ok, lListK_lst, lListK_tup, lListK_ro, parK_ok, appK_ok, forK_ok, ofK_ok, itemsK_ok, gIxK_ok, gCsK_ok, stFK_ok, k2_ok, k2b_ok, k2_ite, k2b_ite, k1_ok, kc_ok, kc2_ok, kc_ite, kc2_ite, kf_ok, kf_ite, kIf_ok, kIf_ite, kAnd_bl, kOr_bl, kAnd_ite, kOr_ite, kNot_bl, kNot_ite, kTr_bl, kTr_ite, cAndK_ok, cOrK_ok, cNotK_ok, cAndK_ite, cOrK_ite, cNotK_ite, kCh_ok, kCh2_ok, kCh3_bl, ixSK_ok, opPK_ok, jnK_ok, fFK_ok, apK_some, cfK_ok, cfK2_ok, vd_ok, vd2_ok, vd_ite, vs2_ok, mkK_ok, mkK2_ok, propK_ok, Rs.of_some, Rs.of_none, Rs.bind_ok, Rs.bind_bad, Rs.bind_exc, Rs.calm_ok, mVar, isMut, listAt, isLent, fetch, wb, putS, nodupB, setAt, appAt, mkSlots, nOwn, runDef, endF, outsFrom, findOwn, L2.ixN, L2.atI, intD, ixD, List.getElem?_cons_zero, List.getElem?_cons_succ, List.set_cons_zero, List.set_cons_succ, List.length_cons, List.length_nil, List.replicate, List.cons_append, List.nil_append, List.append_nil, List.getD_cons_zero, List.getD_cons_succ, List.contains_cons, List.contains_nil, Pt.vis, fldD, List.lookup, Pt.ds]
theorem time_run (p : Pt) : F_Visit_time [.dat p.vis] = .ok (.int p.t) [] := by simp [F_Visit_time, m_Visit_time, r_seq, r_next, r_retN, r_break, r_cont, r_never, r_ret, r_drop, r_ifS, r_asg, r_nm, r_setF', r_lLst, r_lList, r_par, r_app, r_for, r_its, r_items, r_gIx, r_tpN, r_gcs, r_gnl, r_stF, r_C, r_2, r_1, r_nil, r_cons, r_call, r_lst, r_tup, r_if, r_and, r_or, r_not, r_truth, r_cand, r_cor, r_cnot, r_chain, r_ixS, r_opP, r_jn, r_callF, r_apply, r_vnil, r_vdat, r_vslot, r_make, r_prop, seqK_nx, seqK_rt, seqK_bk, seqK_ct, seqK_exc, seqK_bad, seqK_ite, retK_ok, retK_ite, dropK_ok, ifSK_ok, ifSK_ite, asgK_ok, asgK_ite, stK_ok, setFK_ok, lLstK_ok, lListK_lst, lListK_tup, lListK_ro, parK_ok, appK_ok, forK_ok, ofK_ok, itemsK_ok, gIxK_ok, gCsK_ok, stFK_ok, k2_ok, k2b_ok, k2_ite, k2b_ite, k1_ok, kc_ok, kc2_ok, kc_ite, kc2_ite, kf_ok, kf_ite, kIf_ok, kIf_ite, kAnd_bl, kOr_bl, kAnd_ite, kOr_ite, kNot_bl, kNot_ite, kTr_bl, kTr_ite, cAndK_ok, cOrK_ok, cNotK_ok, cAndK_ite, cOrK_ite, cNotK_ite, kCh_ok, kCh2_ok, kCh3_bl, ixSK_ok, opPK_ok, jnK_ok, fFK_ok, apK_some, cfK_ok, cfK2_ok, vd_ok, vd2_ok, vd_ite, vs2_ok, mkK_ok, mkK2_ok, propK_ok, Rs.of_some, Rs.of_none, Rs.bind_ok, Rs.bind_bad, Rs.bind_exc, Rs.calm_ok, mVar, isMut, listAt, isLent, fetch, wb, putS, nodupB, setAt, appAt, mkSlots, nOwn, runDef, endF, outsFrom, findOwn, L2.ixN, L2.atI, intD, ixD, List.getElem?_cons_zero, List.getElem?_cons_succ, List.set_cons_zero, List.set_cons_succ, List.length_cons, List.length_nil, List.replicate, List.cons_append, List.nil_append, List.append_nil, List.getD_cons_zero, List.getD_cons_succ, List.contains_cons, List.contains_nil, Pt.vis, fldD, List.lookup, Pt.ds]
theorem shift_run (p : Pt) : F_Visit_shift [.dat p.vis] = .ok (.int p.s) [] := by simp [F_Visit_shift, m_Visit_shift, r_seq, r_next, r_retN, r_break, r_cont, r_never, r_ret, r_drop, r_ifS, r_asg, r_nm, r_setF', r_lLst, r_lList, r_par, r_app, r_for, r_its, r_items, r_gIx, r_tpN, r_gcs, r_gnl, r_stF, r_C, r_2, r_1, r_nil, r_cons, r_call, r_lst, r_tup, r_if, r_and, r_or, r_not, r_truth, r_cand, r_cor, r_cnot, r_chain, r_ixS, r_opP, r_jn, r_callF, r_apply, r_vnil, r_vdat, r_vslot, r_make, r_prop, seqK_nx, seqK_rt, seqK_bk, seqK_ct, seqK_exc, seqK_bad, seqK_ite, retK_ok, retK_ite, dropK_ok, ifSK_ok, ifSK_ite, asgK_ok, asgK_ite, stK_ok, setFK_ok, lLstK_ok, lListK_lst, lListK_tup, lListK_ro, parK_ok, appK_ok, forK_ok, ofK_ok, itemsK_ok, gIxK_ok, gCsK_ok, stFK_ok, k2_ok, k2b_ok, k2_ite, k2b_ite, k1_ok, kc_ok, kc2_ok, kc_ite, kc2_ite, kf_ok, kf_ite, kIf_ok, kIf_ite, kAnd_bl, kOr_bl, kAnd_ite, kOr_ite, kNot_bl, kNot_ite, kTr_bl, kTr_ite, cAndK_ok, cOrK_ok, cNotK_ok, cAndK_ite, cOrK_ite, cNotK_ite, kCh_ok, kCh2_ok, kCh3_bl, ixSK_ok, opPK_ok, jnK_ok, fFK_ok, apK_some, cfK_ok, cfK2_ok, vd_ok, vd2_ok, vd_ite, vs2_ok, mkK_ok, mkK2_ok, propK_ok, Rs.of_some, Rs.of_none, Rs.bind_ok, Rs.bind_bad, Rs.bind_exc, Rs.calm_ok, mVar, isMut, listAt, isLent, fetch, wb, putS, nodupB, setAt, appAt, mkSlots, nOwn, runDef, endF, outsFrom, findOwn, L2.ixN, L2.atI, intD, ixD, List.getElem?_cons_zero, List.getElem?_cons_succ, List.set_cons_zero, List.set_cons_succ, List.length_cons, List.length_nil, List.replicate, List.cons_append, List.nil_append, List.append_nil, List.getD_cons_zero, List.getD_cons_succ, List.contains_cons, List.contains_nil, Pt.vis, fldD, List.lookup, Pt.ds]
/-- first, behind -/
def Pt.lo (p : Pt) (f : Int) : Int := if f < p.b then p.b else f
def Pt.hi (p : Pt) (k : Int) : Int := match p.e with
  | none => k
  | some x => if x < k then x else k
def pair (f k : Int) : Dat := if f < k then .tup [.int f, .int k] else .non
theorem isVis (p : Pt) : p.vis = .ins "Visit" [("kept", .tup p.ds)] := rfl
theorem prop_run (p : Pt) (S : Sg) (Fn : List FA → RF) (d : Dat) (h : Fn [.dat p.vis] = .ok d []) : propK ["Visit"] Fn (.ok p.vis S) = .ok d S := by
  unfold Pt.vis at h ⊢
  simp [r_seq, r_next, r_retN, r_break, r_cont, r_never, r_ret, r_drop, r_ifS, r_asg, r_nm, r_setF', r_lLst, r_lList, r_par, r_app, r_for, r_its, r_items, r_gIx, r_tpN, r_gcs, r_gnl, r_stF, r_C, r_2, r_1, r_nil, r_cons, r_call, r_lst, r_tup, r_if, r_and, r_or, r_not, r_truth, r_cand, r_cor, r_cnot, r_chain, r_ixS, r_opP, r_jn, r_callF, r_apply, r_vnil, r_vdat, r_vslot, r_make, r_prop, seqK_nx, seqK_rt, seqK_bk, seqK_ct, seqK_exc, seqK_bad, seqK_ite, retK_ok, retK_ite, dropK_ok, ifSK_ok, ifSK_ite, asgK_ok, asgK_ite, stK_ok, setFK_ok, lLstK_ok, lListK_lst, lListK_tup, lListK_ro, parK_ok, appK_ok, forK_ok, ofK_ok, itemsK_ok, gIxK_ok, gCsK_ok, stFK_ok, k2_ok, k2b_ok, k2_ite, k2b_ite, k1_ok, kc_ok, kc2_ok, kc_ite, kc2_ite, kf_ok, kf_ite, kIf_ok, kIf_ite, kAnd_bl, kOr_bl, kAnd_ite, kOr_ite, kNot_bl, kNot_ite, kTr_bl, kTr_ite, cAndK_ok, cOrK_ok, cNotK_ok, cAndK_ite, cOrK_ite, cNotK_ite, kCh_ok, kCh2_ok, kCh3_bl, ixSK_ok, opPK_ok, jnK_ok, fFK_ok, apK_some, cfK_ok, cfK2_ok, vd_ok, vd2_ok, vd_ite, vs2_ok, mkK_ok, mkK2_ok, propK_ok, Rs.of_some, Rs.of_none, Rs.bind_ok, Rs.bind_bad, Rs.bind_exc, Rs.calm_ok, mVar, isMut, listAt, isLent, fetch, wb, putS, nodupB, setAt, appAt, mkSlots, nOwn, runDef, endF, outsFrom, findOwn, L2.ixN, L2.atI, intD, ixD, List.getElem?_cons_zero, List.getElem?_cons_succ, List.set_cons_zero, List.set_cons_succ, List.length_cons, List.length_nil, List.replicate, List.cons_append, List.nil_append, List.append_nil, List.getD_cons_zero, List.getD_cons_succ, List.contains_cons, List.contains_nil, h]
theorem lo_eq (p : Pt) (f : Int) : (if f < p.b then p.b else f) = p.lo f := rfl
theorem cut_run (p : Pt) (f k : Int) : F_cut_to_life [.dat p.vis, .dat (.int f), .dat (.int k)] = .ok (pair (p.lo f) (p.hi k)) [] := by
  have q1 := begin_run p
  have q2 := end_run p
  cases he : p.e with
  | none =>
    rw [he] at q2
    by_cases hz : p.lo f < k <;> simp [F_cut_to_life, m_cut_to_life, r_seq, r_next, r_retN, r_break, r_cont, r_never, r_ret, r_drop, r_ifS, r_asg, r_nm, r_setF', r_lLst, r_lList, r_par, r_app, r_for, r_its, r_items, r_gIx, r_tpN, r_gcs, r_gnl, r_stF, r_C, r_2, r_1, r_nil, r_cons, r_call, r_lst, r_tup, r_if, r_and, r_or, r_not, r_truth, r_cand, r_cor, r_cnot, r_chain, r_ixS, r_opP, r_jn, r_callF, r_apply, r_vnil, r_vdat, r_vslot, r_make, r_prop, seqK_nx, seqK_rt, seqK_bk, seqK_ct, seqK_exc, seqK_bad, seqK_ite, retK_ok, retK_ite, dropK_ok, ifSK_ok, ifSK_ite, asgK_ok, asgK_ite, stK_ok, setFK_ok, lLstK_ok, lListK_lst, lListK_tup, lListK_ro, parK_ok, appK_ok, forK_ok, ofK_ok, itemsK_ok, gIxK_ok, gCsK_ok, stFK_ok, k2_ok, k2b_ok, k2_ite, k2b_ite, k1_ok, kc_ok, kc2_ok, kc_ite, kc2_ite, kf_ok, kf_ite, kIf_ok, kIf_ite, kAnd_bl, kOr_bl, kAnd_ite, kOr_ite, kNot_bl, kNot_ite, kTr_bl, kTr_ite, cAndK_ok, cOrK_ok, cNotK_ok, cAndK_ite, cOrK_ite, cNotK_ite, kCh_ok, kCh2_ok, kCh3_bl, ixSK_ok, opPK_ok, jnK_ok, fFK_ok, apK_some, cfK_ok, cfK2_ok, vd_ok, vd2_ok, vd_ite, vs2_ok, mkK_ok, mkK2_ok, propK_ok, Rs.of_some, Rs.of_none, Rs.bind_ok, Rs.bind_bad, Rs.bind_exc, Rs.calm_ok, mVar, isMut, listAt, isLent, fetch, wb, putS, nodupB, setAt, appAt, mkSlots, nOwn, runDef, endF, outsFrom, findOwn, L2.ixN, L2.atI, intD, ixD, List.getElem?_cons_zero, List.getElem?_cons_succ, List.set_cons_zero, List.set_cons_succ, List.length_cons, List.length_nil, List.replicate, List.cons_append, List.nil_append, List.append_nil, List.getD_cons_zero, List.getD_cons_succ, List.contains_cons, List.contains_nil, prop_run p _ _ _ q1, prop_run p _ _ _ q2, max_run, min_run, notND, eD, mkTup, lim, Pt.hi, he, pair, lo_eq, hz]
  | some x =>
    rw [he] at q2
    have e2 : p.hi k = if x < k then x else k := by unfold Pt.hi; rw [he]
    rw [e2]
    obtain ⟨m, hm⟩ : ∃ m, (if x < k then x else k) = m := ⟨_, rfl⟩
    rw [hm]
    by_cases hz : p.lo f < m <;> simp [F_cut_to_life, m_cut_to_life, r_seq, r_next, r_retN, r_break, r_cont, r_never, r_ret, r_drop, r_ifS, r_asg, r_nm, r_setF', r_lLst, r_lList, r_par, r_app, r_for, r_its, r_items, r_gIx, r_tpN, r_gcs, r_gnl, r_stF, r_C, r_2, r_1, r_nil, r_cons, r_call, r_lst, r_tup, r_if, r_and, r_or, r_not, r_truth, r_cand, r_cor, r_cnot, r_chain, r_ixS, r_opP, r_jn, r_callF, r_apply, r_vnil, r_vdat, r_vslot, r_make, r_prop, seqK_nx, seqK_rt, seqK_bk, seqK_ct, seqK_exc, seqK_bad, seqK_ite, retK_ok, retK_ite, dropK_ok, ifSK_ok, ifSK_ite, asgK_ok, asgK_ite, stK_ok, setFK_ok, lLstK_ok, lListK_lst, lListK_tup, lListK_ro, parK_ok, appK_ok, forK_ok, ofK_ok, itemsK_ok, gIxK_ok, gCsK_ok, stFK_ok, k2_ok, k2b_ok, k2_ite, k2b_ite, k1_ok, kc_ok, kc2_ok, kc_ite, kc2_ite, kf_ok, kf_ite, kIf_ok, kIf_ite, kAnd_bl, kOr_bl, kAnd_ite, kOr_ite, kNot_bl, kNot_ite, kTr_bl, kTr_ite, cAndK_ok, cOrK_ok, cNotK_ok, cAndK_ite, cOrK_ite, cNotK_ite, kCh_ok, kCh2_ok, kCh3_bl, ixSK_ok, opPK_ok, jnK_ok, fFK_ok, apK_some, cfK_ok, cfK2_ok, vd_ok, vd2_ok, vd_ite, vs2_ok, mkK_ok, mkK2_ok, propK_ok, Rs.of_some, Rs.of_none, Rs.bind_ok, Rs.bind_bad, Rs.bind_exc, Rs.calm_ok, mVar, isMut, listAt, isLent, fetch, wb, putS, nodupB, setAt, appAt, mkSlots, nOwn, runDef, endF, outsFrom, findOwn, L2.ixN, L2.atI, intD, ixD, List.getElem?_cons_zero, List.getElem?_cons_succ, List.set_cons_zero, List.set_cons_succ, List.length_cons, List.length_nil, List.replicate, List.cons_append, List.nil_append, List.append_nil, List.getD_cons_zero, List.getD_cons_succ, List.contains_cons, List.contains_nil, prop_run p _ _ _ q1, prop_run p _ _ _ q2, max_run, min_run, notND, eD, mkTup, lim, pair, lo_eq, hm, hz]
theorem window_run {a b : Int} (h1 : 0 ≤ a) (h2 : a < b) : F_check_window [.dat (.int a), .dat (.int b)] = .ok .non [] := by
  have c1 := count1_run h1
  have c2 := count1_run (v := b) (by omega)
  have e : ¬ b ≤ a := by omega
  simp [F_check_window, m_check_window, r_seq, r_next, r_retN, r_break, r_cont, r_never, r_ret, r_drop, r_ifS, r_asg, r_nm, r_setF', r_lLst, r_lList, r_par, r_app, r_for, r_its, r_items, r_gIx, r_tpN, r_gcs, r_gnl, r_stF, r_C, r_2, r_1, r_nil, r_cons, r_call, r_lst, r_tup, r_if, r_and, r_or, r_not, r_truth, r_cand, r_cor, r_cnot, r_chain, r_ixS, r_opP, r_jn, r_callF, r_apply, r_vnil, r_vdat, r_vslot, r_make, r_prop, seqK_nx, seqK_rt, seqK_bk, seqK_ct, seqK_exc, seqK_bad, seqK_ite, retK_ok, retK_ite, dropK_ok, ifSK_ok, ifSK_ite, asgK_ok, asgK_ite, stK_ok, setFK_ok, lLstK_ok, lListK_lst, lListK_tup, lListK_ro, parK_ok, appK_ok, forK_ok, ofK_ok, itemsK_ok, gIxK_ok, gCsK_ok, stFK_ok, k2_ok, k2b_ok, k2_ite, k2b_ite, k1_ok, kc_ok, kc2_ok, kc_ite, kc2_ite, kf_ok, kf_ite, kIf_ok, kIf_ite, kAnd_bl, kOr_bl, kAnd_ite, kOr_ite, kNot_bl, kNot_ite, kTr_bl, kTr_ite, cAndK_ok, cOrK_ok, cNotK_ok, cAndK_ite, cOrK_ite, cNotK_ite, kCh_ok, kCh2_ok, kCh3_bl, ixSK_ok, opPK_ok, jnK_ok, fFK_ok, apK_some, cfK_ok, cfK2_ok, vd_ok, vd2_ok, vd_ite, vs2_ok, mkK_ok, mkK2_ok, propK_ok, Rs.of_some, Rs.of_none, Rs.bind_ok, Rs.bind_bad, Rs.bind_exc, Rs.calm_ok, mVar, isMut, listAt, isLent, fetch, wb, putS, nodupB, setAt, appAt, mkSlots, nOwn, runDef, endF, outsFrom, findOwn, L2.ixN, L2.atI, intD, ixD, List.getElem?_cons_zero, List.getElem?_cons_succ, List.set_cons_zero, List.set_cons_succ, List.length_cons, List.length_nil, List.replicate, List.cons_append, List.nil_append, List.append_nil, List.getD_cons_zero, List.getD_cons_succ, List.contains_cons, List.contains_nil, c1, c2, e]
theorem urgent_run (p : Pt) (a b : Int) : F_urgent_entries [.dat p.vis, .dat (.int a), .dat (.int b)] = .ok (pair (p.lo (a - p.s)) (p.hi (b - p.t - p.s + 1))) [] := by
  have q1 := shift_run p
  have q2 := time_run p
  have q3 := cut_run p (a - p.s) (b - p.t - p.s + 1)
  simp [F_urgent_entries, m_urgent_entries, r_seq, r_next, r_retN, r_break, r_cont, r_never, r_ret, r_drop, r_ifS, r_asg, r_nm, r_setF', r_lLst, r_lList, r_par, r_app, r_for, r_its, r_items, r_gIx, r_tpN, r_gcs, r_gnl, r_stF, r_C, r_2, r_1, r_nil, r_cons, r_call, r_lst, r_tup, r_if, r_and, r_or, r_not, r_truth, r_cand, r_cor, r_cnot, r_chain, r_ixS, r_opP, r_jn, r_callF, r_apply, r_vnil, r_vdat, r_vslot, r_make, r_prop, seqK_nx, seqK_rt, seqK_bk, seqK_ct, seqK_exc, seqK_bad, seqK_ite, retK_ok, retK_ite, dropK_ok, ifSK_ok, ifSK_ite, asgK_ok, asgK_ite, stK_ok, setFK_ok, lLstK_ok, lListK_lst, lListK_tup, lListK_ro, parK_ok, appK_ok, forK_ok, ofK_ok, itemsK_ok, gIxK_ok, gCsK_ok, stFK_ok, k2_ok, k2b_ok, k2_ite, k2b_ite, k1_ok, kc_ok, kc2_ok, kc_ite, kc2_ite, kf_ok, kf_ite, kIf_ok, kIf_ite, kAnd_bl, kOr_bl, kAnd_ite, kOr_ite, kNot_bl, kNot_ite, kTr_bl, kTr_ite, cAndK_ok, cOrK_ok, cNotK_ok, cAndK_ite, cOrK_ite, cNotK_ite, kCh_ok, kCh2_ok, kCh3_bl, ixSK_ok, opPK_ok, jnK_ok, fFK_ok, apK_some, cfK_ok, cfK2_ok, vd_ok, vd2_ok, vd_ite, vs2_ok, mkK_ok, mkK2_ok, propK_ok, Rs.of_some, Rs.of_none, Rs.bind_ok, Rs.bind_bad, Rs.bind_exc, Rs.calm_ok, mVar, isMut, listAt, isLent, fetch, wb, putS, nodupB, setAt, appAt, mkSlots, nOwn, runDef, endF, outsFrom, findOwn, L2.ixN, L2.atI, intD, ixD, List.getElem?_cons_zero, List.getElem?_cons_succ, List.set_cons_zero, List.set_cons_succ, List.length_cons, List.length_nil, List.replicate, List.cons_append, List.nil_append, List.append_nil, List.getD_cons_zero, List.getD_cons_succ, List.contains_cons, List.contains_nil, prop_run p _ _ _ q1, prop_run p _ _ _ q2, addD, q3]
theorem stretch_run (p : Pt) {a b : Int} (h1 : 0 ≤ a) (h2 : a < b) : F_stretch [.dat p.vis, .dat (.int a), .dat (.int b)] = .ok (pair (p.lo (a - p.s)) (p.hi (b - p.t - p.s + 1))) [] := by
  have q1 := window_run h1 h2
  have q2 := urgent_run p a b
  simp [F_stretch, m_stretch, r_seq, r_next, r_retN, r_break, r_cont, r_never, r_ret, r_drop, r_ifS, r_asg, r_nm, r_setF', r_lLst, r_lList, r_par, r_app, r_for, r_its, r_items, r_gIx, r_tpN, r_gcs, r_gnl, r_stF, r_C, r_2, r_1, r_nil, r_cons, r_call, r_lst, r_tup, r_if, r_and, r_or, r_not, r_truth, r_cand, r_cor, r_cnot, r_chain, r_ixS, r_opP, r_jn, r_callF, r_apply, r_vnil, r_vdat, r_vslot, r_make, r_prop, seqK_nx, seqK_rt, seqK_bk, seqK_ct, seqK_exc, seqK_bad, seqK_ite, retK_ok, retK_ite, dropK_ok, ifSK_ok, ifSK_ite, asgK_ok, asgK_ite, stK_ok, setFK_ok, lLstK_ok, lListK_lst, lListK_tup, lListK_ro, parK_ok, appK_ok, forK_ok, ofK_ok, itemsK_ok, gIxK_ok, gCsK_ok, stFK_ok, k2_ok, k2b_ok, k2_ite, k2b_ite, k1_ok, kc_ok, kc2_ok, kc_ite, kc2_ite, kf_ok, kf_ite, kIf_ok, kIf_ite, kAnd_bl, kOr_bl, kAnd_ite, kOr_ite, kNot_bl, kNot_ite, kTr_bl, kTr_ite, cAndK_ok, cOrK_ok, cNotK_ok, cAndK_ite, cOrK_ite, cNotK_ite, kCh_ok, kCh2_ok, kCh3_bl, ixSK_ok, opPK_ok, jnK_ok, fFK_ok, apK_some, cfK_ok, cfK2_ok, vd_ok, vd2_ok, vd_ite, vs2_ok, mkK_ok, mkK2_ok, propK_ok, Rs.of_some, Rs.of_none, Rs.bind_ok, Rs.bind_bad, Rs.bind_exc, Rs.calm_ok, mVar, isMut, listAt, isLent, fetch, wb, putS, nodupB, setAt, appAt, mkSlots, nOwn, runDef, endF, outsFrom, findOwn, L2.ixN, L2.atI, intD, ixD, List.getElem?_cons_zero, List.getElem?_cons_succ, List.set_cons_zero, List.set_cons_succ, List.length_cons, List.length_nil, List.replicate, List.cons_append, List.nil_append, List.append_nil, List.getD_cons_zero, List.getD_cons_succ, List.contains_cons, List.contains_nil, q1, q2]
/-! ### what the law finds -/
def Pt.hit (p : Pt) (a b t : Int) : Bool := (match p.e with | none => true | some x => decide (t < x)) && (decide (a ≤ t + p.s) && decide (t + p.s + p.t ≤ b))
def dueB : MS := (mSeq (mAsg (mOr (m2 isND (m2 ixD (mVar 0) (mC (.int 3))) (mC .non)) (m2 ltD (mVar 4) (m2 ixD (mVar 0) (mC (.int 3))))) (gNm 5))
    (mIfS (cAnd (cTruth (mVar 5)) (cAnd (cTruth (m2 leD (mVar 1) (m2 addD (mVar 4) (m2 ixD (mVar 0) (mC (.int 1)))))) (cTruth (m2 leD (m2 addD (m2 addD (mVar 4) (m2 ixD (mVar 0) (mC (.int 1)))) (m2 ixD (mVar 0) (mC (.int 0)))) (mVar 2))))) (mApp 3 (mVar 4)) (mNext)))
theorem dueB_run (p : Pt) (a b t : Int) (ds : List Dat) (hl : ds.length < 5000) (x4 x5 : Slot) : ∃ y5, dueB [.dat p.dat, .dat (.int a), .dat (.int b), .loc ds, .dat (.int t), x5] = .ok .nx [.dat p.dat, .dat (.int a), .dat (.int b), .loc (if p.hit a b t = true then ds ++ [.int t] else ds), .dat (.int t), y5] := by
  have hl2 : ds.length < 1000000 := by omega
  cases he : p.e with
  | none =>
    refine ⟨.dat (.bl true), ?_⟩
    by_cases h1 : a ≤ t + p.s <;> by_cases h2 : t + p.s + p.t ≤ b <;> simp [dueB, r_seq, r_next, r_retN, r_break, r_cont, r_never, r_ret, r_drop, r_ifS, r_asg, r_nm, r_setF', r_lLst, r_lList, r_par, r_app, r_for, r_its, r_items, r_gIx, r_tpN, r_gcs, r_gnl, r_stF, r_C, r_2, r_1, r_nil, r_cons, r_call, r_lst, r_tup, r_if, r_and, r_or, r_not, r_truth, r_cand, r_cor, r_cnot, r_chain, r_ixS, r_opP, r_jn, r_callF, r_apply, r_vnil, r_vdat, r_vslot, r_make, r_prop, seqK_nx, seqK_rt, seqK_bk, seqK_ct, seqK_exc, seqK_bad, seqK_ite, retK_ok, retK_ite, dropK_ok, ifSK_ok, ifSK_ite, asgK_ok, asgK_ite, stK_ok, setFK_ok, lLstK_ok, lListK_lst, lListK_tup, lListK_ro, parK_ok, appK_ok, forK_ok, ofK_ok, itemsK_ok, gIxK_ok, gCsK_ok, stFK_ok, k2_ok, k2b_ok, k2_ite, k2b_ite, k1_ok, kc_ok, kc2_ok, kc_ite, kc2_ite, kf_ok, kf_ite, kIf_ok, kIf_ite, kAnd_bl, kOr_bl, kAnd_ite, kOr_ite, kNot_bl, kNot_ite, kTr_bl, kTr_ite, cAndK_ok, cOrK_ok, cNotK_ok, cAndK_ite, cOrK_ite, cNotK_ite, kCh_ok, kCh2_ok, kCh3_bl, ixSK_ok, opPK_ok, jnK_ok, fFK_ok, apK_some, cfK_ok, cfK2_ok, vd_ok, vd2_ok, vd_ite, vs2_ok, mkK_ok, mkK2_ok, propK_ok, Rs.of_some, Rs.of_none, Rs.bind_ok, Rs.bind_bad, Rs.bind_exc, Rs.calm_ok, mVar, isMut, listAt, isLent, fetch, wb, putS, nodupB, setAt, appAt, mkSlots, nOwn, runDef, endF, outsFrom, findOwn, L2.ixN, L2.atI, intD, ixD, List.getElem?_cons_zero, List.getElem?_cons_succ, List.set_cons_zero, List.set_cons_succ, List.length_cons, List.length_nil, List.replicate, List.cons_append, List.nil_append, List.append_nil, List.getD_cons_zero, List.getD_cons_succ, List.contains_cons, List.contains_nil, Pt.dat, Pt.ds, he, eD, isND, addD, h1, h2, Pt.hit, lim, hl2]
  | some x =>
    refine ⟨.dat (.bl (decide (t < x))), ?_⟩
    by_cases h0 : t < x <;> by_cases h1 : a ≤ t + p.s <;> by_cases h2 : t + p.s + p.t ≤ b <;> simp [dueB, r_seq, r_next, r_retN, r_break, r_cont, r_never, r_ret, r_drop, r_ifS, r_asg, r_nm, r_setF', r_lLst, r_lList, r_par, r_app, r_for, r_its, r_items, r_gIx, r_tpN, r_gcs, r_gnl, r_stF, r_C, r_2, r_1, r_nil, r_cons, r_call, r_lst, r_tup, r_if, r_and, r_or, r_not, r_truth, r_cand, r_cor, r_cnot, r_chain, r_ixS, r_opP, r_jn, r_callF, r_apply, r_vnil, r_vdat, r_vslot, r_make, r_prop, seqK_nx, seqK_rt, seqK_bk, seqK_ct, seqK_exc, seqK_bad, seqK_ite, retK_ok, retK_ite, dropK_ok, ifSK_ok, ifSK_ite, asgK_ok, asgK_ite, stK_ok, setFK_ok, lLstK_ok, lListK_lst, lListK_tup, lListK_ro, parK_ok, appK_ok, forK_ok, ofK_ok, itemsK_ok, gIxK_ok, gCsK_ok, stFK_ok, k2_ok, k2b_ok, k2_ite, k2b_ite, k1_ok, kc_ok, kc2_ok, kc_ite, kc2_ite, kf_ok, kf_ite, kIf_ok, kIf_ite, kAnd_bl, kOr_bl, kAnd_ite, kOr_ite, kNot_bl, kNot_ite, kTr_bl, kTr_ite, cAndK_ok, cOrK_ok, cNotK_ok, cAndK_ite, cOrK_ite, cNotK_ite, kCh_ok, kCh2_ok, kCh3_bl, ixSK_ok, opPK_ok, jnK_ok, fFK_ok, apK_some, cfK_ok, cfK2_ok, vd_ok, vd2_ok, vd_ite, vs2_ok, mkK_ok, mkK2_ok, propK_ok, Rs.of_some, Rs.of_none, Rs.bind_ok, Rs.bind_bad, Rs.bind_exc, Rs.calm_ok, mVar, isMut, listAt, isLent, fetch, wb, putS, nodupB, setAt, appAt, mkSlots, nOwn, runDef, endF, outsFrom, findOwn, L2.ixN, L2.atI, intD, ixD, List.getElem?_cons_zero, List.getElem?_cons_succ, List.set_cons_zero, List.set_cons_succ, List.length_cons, List.length_nil, List.replicate, List.cons_append, List.nil_append, List.append_nil, List.getD_cons_zero, List.getD_cons_succ, List.contains_cons, List.contains_nil, Pt.dat, Pt.ds, he, eD, isND, addD, h0, h1, h2, Pt.hit, lim, hl2]
theorem loop_run (p : Pt) (a b : Int) : ∀ (ts : List Int) (ds : List Dat) (x4 x5 : Slot), ds.length + ts.length < 5000 →
    ∃ y4 y5, loopS (gNm 4) dueB (ts.map Dat.int) [.dat p.dat, .dat (.int a), .dat (.int b), .loc ds, x4, x5] = .ok .nx [.dat p.dat, .dat (.int a), .dat (.int b), .loc (ds ++ (ts.filter (p.hit a b)).map Dat.int), y4, y5]
  | [], ds, x4, x5, _ => ⟨x4, x5, by simp [loopS]⟩
  | t :: ts, ds, x4, x5, h => by
    rw [List.length_cons] at h
    obtain ⟨y5, e⟩ := dueB_run p a b t ds (by omega) x4 x5
    obtain ⟨z4, z5, e2⟩ := loop_run p a b ts (if p.hit a b t = true then ds ++ [.int t] else ds) (.dat (.int t)) y5 (by split <;> (try simp only [List.length_append, List.length_cons, List.length_nil]) <;> omega)
    refine ⟨z4, z5, ?_⟩
    rw [List.map_cons]
    unfold loopS
    rw [r_nm]
    simp only [Rs.bind_ok, List.set_cons_zero, List.set_cons_succ]
    rw [e]
    simp only [e2]
    by_cases hz : p.hit a b t = true
    · simp [hz]
    · simp [hz]
def iv (lo hi : Int) : List Int := (List.range (hi - lo).toNat).map fun (k : Nat) => lo + (k : Int)
theorem iv_nil {lo hi : Int} (h : hi ≤ lo) : iv lo hi = [] := by
  unfold iv
  rw [show (hi - lo).toNat = 0 by omega]
  rfl
theorem iv_succ {lo t : Int} (h : lo ≤ t) : iv lo (t + 1) = iv lo t ++ [t] := by
  unfold iv
  rw [show (t + 1 - lo).toNat = (t - lo).toNat + 1 by omega, List.range_succ, List.map_append]
  congr 1
  simp only [List.map_cons, List.map_nil]
  congr 1
  omega
theorem iv_cons {lo hi : Int} (h : lo < hi) : ∃ r, iv lo hi = lo :: r := by
  unfold iv
  rw [show (hi - lo).toNat = (hi - lo - 1).toNat + 1 by omega, List.range_succ_eq_map]
  exact ⟨_, by simp only [List.map_cons]; congr 1; omega⟩
theorem filt (i lo hi : Int) (q : Int → Bool) (hq : ∀ t, i ≤ t → (q t = true ↔ lo ≤ t ∧ t < hi)) (hi0 : i ≤ lo) : ∀ n : Nat, ((List.range n).map fun (k : Nat) => i + (k : Int)).filter q = iv lo (if hi < i + n then hi else i + n)
  | 0 => by
    rw [iv_nil]
    · rfl
    · split <;> omega
  | n + 1 => by
    rw [List.range_succ, List.map_append, List.filter_append, filt i lo hi q hq hi0 n]
    simp only [List.map_cons, List.map_nil]
    have hq' := hq (i + n) (by omega)
    by_cases hz : q (i + n) = true
    · obtain ⟨h1, h2⟩ := hq'.mp hz
      rw [List.filter_cons_of_pos hz, List.filter_nil, if_neg (by omega)]
      rw [← iv_succ h1]
      congr 1
      split <;> omega
    · rw [List.filter_cons_of_neg hz, List.filter_nil, List.append_nil]
      have : ¬ (lo ≤ i + n ∧ i + n < hi) := fun z => hz (hq'.mpr z)
      by_cases h1 : i + n < lo
      · rw [iv_nil, iv_nil]
        · split <;> omega
        · split <;> omega
      · congr 1
        split <;> split <;> omega
theorem hit_iff (p : Pt) (a b t : Int) (h : p.b ≤ t) : p.hit a b t = true ↔ p.lo (a - p.s) ≤ t ∧ t < p.hi (b - p.t - p.s + 1) := by
  unfold Pt.hit Pt.lo Pt.hi
  cases p.e with
  | none => simp only [Bool.true_and, Bool.and_eq_true, decide_eq_true_eq]; constructor <;> intro z <;> (split at * <;> omega)
  | some x => simp only [Bool.and_eq_true, decide_eq_true_eq]; constructor <;> intro z <;> (repeat' split at *) <;> omega
theorem py_ints : ∀ xs : List Int, toPyAll (xs.map Dat.int) = some (xs.map PyData.int)
  | [] => rfl
  | x :: r => by simp [toPyAll, toPy, py_ints r]
theorem lay_ints : ∀ xs : List Int, PyData.canLayAll0 (xs.map PyData.int) = true
  | [] => rfl
  | x :: r => by simp [PyData.canLayAll0, PyData.canLay0, lay_ints r]
theorem deep_ints : ∀ xs : List Int, PyData.depthAll (xs.map PyData.int) = 0
  | [] => rfl
  | x :: r => by simp [PyData.depthAll, PyData.depth, deep_ints r]
theorem ne_nil (xs : List Int) : neD (.lst (xs.map Dat.int)) (.lst []) = some (.bl (!xs.isEmpty)) := by
  have s1 : SeqAt.shaped (.list (xs.map PyData.int)) = true := by
    unfold SeqAt.shaped
    simp [PyData.canLay0, PyData.depth, lay_ints, deep_ints]
  have s2 : SeqAt.shaped (.list []) = true := by
    unfold SeqAt.shaped
    simp [PyData.canLay0, PyData.depth, PyData.canLayAll0, PyData.depthAll]
  have e : eqB (.lst (xs.map Dat.int)) (.lst []) = eqP (.lst (xs.map Dat.int)) (.lst []) := rfl
  unfold neD
  rw [e]
  unfold eqP
  have t1 : toPy (.lst (xs.map Dat.int)) = some (.list (xs.map PyData.int)) := by simp [toPy, py_ints]
  have t2 : toPy (.lst []) = some (.list []) := by simp [toPy, toPyAll]
  rw [t1, t2]
  simp only [s1, s2, Bool.and_self, if_true]
  cases xs with
  | nil => simp [PyData.eqv, PyData.eqvAll]
  | cons x r => simp [PyData.eqv, PyData.eqvAll]
theorem ix0 (p : Pt) : ixD p.dat (.int 0) = some (.int p.t) := rfl
theorem ix1 (p : Pt) : ixD p.dat (.int 1) = some (.int p.s) := rfl
theorem ix2 (p : Pt) : ixD p.dat (.int 2) = some (.int p.b) := rfl
theorem ix3 (p : Pt) : ixD p.dat (.int 3) = some (eD p.e) := rfl
theorem ix_l (ds : List Dat) (i : Int) : ixD (.lst ds) (.int i) = L2.atI ds i := rfl
theorem due_run (p : Pt) {a b : Int} (ha : 0 ≤ a) (hab : a < b) (hb : b ≤ 3000) : F_l_due [.dat p.dat, .dat (.int a), .dat (.int b)] = .ok (pair (p.lo (a - p.s)) (p.hi (b - p.t - p.s + 1))) [] := by
  have pb1 := p.b1
  have pb2 := p.b2
  have ps1 := p.s1
  have pt1 := p.t1
  obtain ⟨m, hm⟩ : ∃ m, (if p.b < b then b else p.b) = m := ⟨_, rfl⟩
  have hm1 : p.b ≤ m ∧ b ≤ m ∧ m ≤ 3000 := by subst hm; split <;> omega
  have rg : range2 [.int p.b, .int (m + 1)] = some (((List.range (m + 1 - p.b).toNat).map fun (k : Nat) => p.b + (k : Int)).map Dat.int) := by
    unfold range2
    dsimp only
    rw [if_pos (by omega), List.map_map]
    rfl
  obtain ⟨y4, y5, lp⟩ := loop_run p a b ((List.range (m + 1 - p.b).toNat).map fun (k : Nat) => p.b + (k : Int)) [] .no .no (by simp; omega)
  have lo1 : p.b ≤ p.lo (a - p.s) := by unfold Pt.lo; split <;> omega
  have hi1 : p.hi (b - p.t - p.s + 1) ≤ m + 1 := by unfold Pt.hi; split <;> (try split) <;> omega
  rw [filt p.b (p.lo (a - p.s)) (p.hi (b - p.t - p.s + 1)) (p.hit a b) (fun t h => hit_iff p a b t h) lo1] at lp
  rw [show (if p.hi (b - p.t - p.s + 1) < p.b + ((m + 1 - p.b).toNat : Nat) then p.hi (b - p.t - p.s + 1) else p.b + ((m + 1 - p.b).toNat : Nat)) = p.hi (b - p.t - p.s + 1) by split <;> omega, List.nil_append] at lp
  generalize p.lo (a - p.s) = lo at *
  generalize p.hi (b - p.t - p.s + 1) = hi at *
  generalize (((List.range (m + 1 - p.b).toNat).map fun (k : Nat) => p.b + (k : Int)).map Dat.int) = TS at rg lp
  have body : m_l_due = mSeq (mSetF 3 (lLst (mNil))) (mSeq (mFor (mIts range2 (mCons (m2 ixD (mVar 0) (mC (.int 2))) (mCons (m2 addD (mCall maxC (mCons (m2 ixD (mVar 0) (mC (.int 2))) (mCons (mVar 2) (mNil)))) (mC (.int 1))) (mNil)))) (gNm 4) dueB) (mRet (mIf (cTruth (mOpP neD 3 (mLst (mNil)))) (mTup (mCons (mIxS 3 (mC (.int 0))) (mCons (m2 addD (mIxS 3 (m1 negD (mC (.int 1)))) (mC (.int 1))) (mNil)))) (mC .non)))) := rfl
  by_cases hz : lo < hi
  · obtain ⟨r, e1⟩ := iv_cons hz
    have e2 : iv lo hi = iv lo (hi - 1) ++ [hi - 1] := by
      have := iv_succ (lo := lo) (t := hi - 1) (by omega)
      rw [show hi - 1 + 1 = hi by omega] at this
      exact this
    have a0 : L2.atI ((iv lo hi).map Dat.int) 0 = some (.int lo) := by
      rw [e1]
      exact L2.atI_nat (j := 0) rfl
    have a1 : L2.atI ((iv lo hi).map Dat.int) (-1) = some (.int (hi - 1)) := by
      rw [e2, List.map_append]
      exact L2.atI_last _ _
    have ne : (iv lo hi).isEmpty = false := by rw [e1]; rfl
    have hh : hi - 1 + 1 = hi := by omega
    simp [F_l_due, body, r_seq, r_next, r_retN, r_break, r_cont, r_never, r_ret, r_drop, r_ifS, r_asg, r_nm, r_setF', r_lLst, r_lList, r_par, r_app, r_for, r_its, r_items, r_gIx, r_tpN, r_gcs, r_gnl, r_stF, r_C, r_2, r_1, r_nil, r_cons, r_call, r_lst, r_tup, r_if, r_and, r_or, r_not, r_truth, r_cand, r_cor, r_cnot, r_chain, r_ixS, r_opP, r_jn, r_callF, r_apply, r_vnil, r_vdat, r_vslot, r_make, r_prop, seqK_nx, seqK_rt, seqK_bk, seqK_ct, seqK_exc, seqK_bad, seqK_ite, retK_ok, retK_ite, dropK_ok, ifSK_ok, ifSK_ite, asgK_ok, asgK_ite, stK_ok, setFK_ok, lLstK_ok, lListK_lst, lListK_tup, lListK_ro, parK_ok, appK_ok, forK_ok, ofK_ok, itemsK_ok, gIxK_ok, gCsK_ok, stFK_ok, k2_ok, k2b_ok, k2_ite, k2b_ite, k1_ok, kc_ok, kc2_ok, kc_ite, kc2_ite, kf_ok, kf_ite, kIf_ok, kIf_ite, kAnd_bl, kOr_bl, kAnd_ite, kOr_ite, kNot_bl, kNot_ite, kTr_bl, kTr_ite, cAndK_ok, cOrK_ok, cNotK_ok, cAndK_ite, cOrK_ite, cNotK_ite, kCh_ok, kCh2_ok, kCh3_bl, ixSK_ok, opPK_ok, jnK_ok, fFK_ok, apK_some, cfK_ok, cfK2_ok, vd_ok, vd2_ok, vd_ite, vs2_ok, mkK_ok, mkK2_ok, propK_ok, Rs.of_some, Rs.of_none, Rs.bind_ok, Rs.bind_bad, Rs.bind_exc, Rs.calm_ok, runDef, nOwn, mkSlots, mVar, isMut, listAt, endF, outsFrom, ix2, lim, max_run, hm, addD, rg, lp, ne_nil, ne, ix_l, a0, a1, negD, mkTup, mkLst, scal, pair, hz, hh]
  · have e1 : iv lo hi = [] := iv_nil (by omega)
    have n0 := ne_nil []
    rw [e1] at lp
    have n0 : neD (.lst []) (.lst []) = some (.bl false) := n0
    rw [List.map_nil] at lp
    simp [F_l_due, n0, body, r_seq, r_next, r_retN, r_break, r_cont, r_never, r_ret, r_drop, r_ifS, r_asg, r_nm, r_setF', r_lLst, r_lList, r_par, r_app, r_for, r_its, r_items, r_gIx, r_tpN, r_gcs, r_gnl, r_stF, r_C, r_2, r_1, r_nil, r_cons, r_call, r_lst, r_tup, r_if, r_and, r_or, r_not, r_truth, r_cand, r_cor, r_cnot, r_chain, r_ixS, r_opP, r_jn, r_callF, r_apply, r_vnil, r_vdat, r_vslot, r_make, r_prop, seqK_nx, seqK_rt, seqK_bk, seqK_ct, seqK_exc, seqK_bad, seqK_ite, retK_ok, retK_ite, dropK_ok, ifSK_ok, ifSK_ite, asgK_ok, asgK_ite, stK_ok, setFK_ok, lLstK_ok, lListK_lst, lListK_tup, lListK_ro, parK_ok, appK_ok, forK_ok, ofK_ok, itemsK_ok, gIxK_ok, gCsK_ok, stFK_ok, k2_ok, k2b_ok, k2_ite, k2b_ite, k1_ok, kc_ok, kc2_ok, kc_ite, kc2_ite, kf_ok, kf_ite, kIf_ok, kIf_ite, kAnd_bl, kOr_bl, kAnd_ite, kOr_ite, kNot_bl, kNot_ite, kTr_bl, kTr_ite, cAndK_ok, cOrK_ok, cNotK_ok, cAndK_ite, cOrK_ite, cNotK_ite, kCh_ok, kCh2_ok, kCh3_bl, ixSK_ok, opPK_ok, jnK_ok, fFK_ok, apK_some, cfK_ok, cfK2_ok, vd_ok, vd2_ok, vd_ite, vs2_ok, mkK_ok, mkK2_ok, propK_ok, Rs.of_some, Rs.of_none, Rs.bind_ok, Rs.bind_bad, Rs.bind_exc, Rs.calm_ok, runDef, nOwn, mkSlots, mVar, isMut, listAt, endF, outsFrom, ix2, lim, max_run, hm, addD, rg, lp, mkLst, scal, pair, hz]
/-! ### texts of data -/
structure Tm (d : PyData) (k w : Nat) : Prop where
  a : d.showable = true
  b : d.hasDict = false
  c : d.depth ≤ k
  e : d.leavesShort 13 = true
  f : d.weight ≤ w
structure TmL (d : List PyData) (k w : Nat) : Prop where
  a : PyData.showableAll d = true
  b : PyData.hasDictAll d = false
  c : PyData.depthAll d ≤ k
  e : PyData.leavesShortAll 13 d = true
  f : PyData.weightAll d ≤ w
theorem tm_int {i : Int} (h : i.natAbs < 1000000) : Tm (.int i) 0 21 := by
  have l : i.natAbs.log2 < 20 := by
    by_cases hz : i.natAbs = 0
    · rw [hz]; decide
    · exact (Nat.log2_lt hz).mpr (by omega)
  refine ⟨?_, ?_, ?_, ?_, ?_⟩
  · simp only [PyData.showable, decide_eq_true_eq]; omega
  · simp only [PyData.hasDict]
  · simp only [PyData.depth]; omega
  · simp only [PyData.leavesShort, decide_eq_true_eq]
    exact PyData.shown_int_le (by omega)
  · simp only [PyData.weight]
    split <;> omega
theorem tm_non : Tm .none 0 21 := by
  refine ⟨?_, ?_, ?_, ?_, ?_⟩ <;> simp [PyData.showable, PyData.hasDict, PyData.depth, PyData.leavesShort, PyData.weight]
theorem tml_nil (k : Nat) : TmL [] k 10 := by
  refine ⟨?_, ?_, ?_, ?_, ?_⟩ <;> simp [PyData.showableAll, PyData.hasDictAll, PyData.depthAll, PyData.leavesShortAll, PyData.weightAll]
theorem tml_cons {d : PyData} {ds : List PyData} {k w v : Nat} (h : Tm d k w) (r : TmL ds k v) : TmL (d :: ds) k (w + v + 10) := by
  obtain ⟨a, b, c, e, f⟩ := h
  obtain ⟨a', b', c', e', f'⟩ := r
  refine ⟨?_, ?_, ?_, ?_, ?_⟩
  · simp only [PyData.showableAll, a, a', Bool.and_self]
  · simp only [PyData.hasDictAll, b, b', Bool.or_self]
  · simp only [PyData.depthAll]; omega
  · simp only [PyData.leavesShortAll, e, e', Bool.and_self]
  · simp only [PyData.weightAll]; omega
theorem tm_list {ds : List PyData} {k w : Nat} (h : TmL ds k w) : Tm (.list ds) (k + 1) w := by
  obtain ⟨a, b, c, e, f⟩ := h
  refine ⟨?_, ?_, ?_, ?_, ?_⟩
  · simp only [PyData.showable, a]
  · simp only [PyData.hasDict, b]
  · simp only [PyData.depth]; omega
  · simp only [PyData.leavesShort, e]
  · simp only [PyData.weight]; omega
theorem tm_tuple {ds : List PyData} {k w : Nat} (h : TmL ds k w) : Tm (.tuple ds) (k + 1) w := by
  obtain ⟨a, b, c, e, f⟩ := h
  refine ⟨?_, ?_, ?_, ?_, ?_⟩
  · simp only [PyData.showable, a]
  · simp only [PyData.hasDict, b]
  · simp only [PyData.depth]; omega
  · simp only [PyData.leavesShort, e]
  · simp only [PyData.weight]; omega
theorem Tm.up {d : PyData} {k w k' w' : Nat} (h : Tm d k w) (h1 : k ≤ k') (h2 : w ≤ w') : Tm d k' w' := ⟨h.a, h.b, Nat.le_trans h.c h1, h.e, Nat.le_trans h.f h2⟩
theorem tm_show {d : Dat} {p : PyData} {k w : Nat} (t : toPy d = some p) (h : Tm p k w) (h1 : k ≤ 60) (h2 : w ≤ 1000000) : reprC [d] = some (.str p.shown) := by
  have l := PyData.shown_fits (B := 13) (by decide) (by decide) h.e (Nat.le_trans h.f (Nat.le_trans h2 (by decide)))
  have q : showP p = some p.shown := by
    unfold showP
    rw [if_pos]
    simp only [h.a, h.b, Bool.true_and, Bool.not_false, Bool.and_eq_true, decide_eq_true_eq]
    exact ⟨Nat.le_trans h.c h1, l⟩
  show (reprS d).map Dat.str = _
  unfold reprS
  rw [t]
  simp only [q, Option.map_some]
def eP : Option Int → PyData
  | none => .none
  | some x => .int x
theorem py_e (e : Option Int) : toPy (eD e) = some (eP e) := by cases e <;> simp [toPy, eD, eP]
theorem tm_e {e : Option Int} (h : ∀ x, e = some x → x.natAbs < 1000000) : Tm (eP e) 0 21 := by
  cases e with
  | none => exact tm_non
  | some x => exact tm_int (h x rfl)
def Pt.py (p : Pt) : PyData := .list [.int p.t, .int p.s, .int p.b, eP p.e]
theorem repr_parts (p : Pt) : reprC [p.dat] = some (.str p.py.shown) := by
  have h1 := p.t1
  have h2 := p.t2
  have h3 := p.s1
  have h4 := p.s2
  have h5 := p.b1
  have h6 := p.b2
  refine tm_show (k := 1) (w := 200) ?_ (Tm.up (tm_list (tml_cons (tm_int (i := p.t) (by omega)) (tml_cons (tm_int (i := p.s) (by omega)) (tml_cons (tm_int (i := p.b) (by omega)) (tml_cons (tm_e (e := p.e) fun x hx => ?_) (tml_nil 0)))))) (by decide) (by decide)) (by decide) (by decide)
  · simp [toPy, toPyAll, Pt.dat, Pt.ds, py_e, Pt.py]
  · have := p.e1 x hx
    omega
theorem repr_pair {lo hi : Int} (h1 : lo.natAbs < 1000000) (h2 : hi.natAbs < 1000000) : ∃ z, reprC [.lst [pair lo hi, pair lo hi]] = some (.str z) := by
  unfold pair
  split
  · have q : Tm (.tuple [.int lo, .int hi]) 1 100 := Tm.up (tm_tuple (tml_cons (tm_int h1) (tml_cons (tm_int h2) (tml_nil 0)))) (by decide) (by decide)
    exact ⟨_, tm_show (k := 2) (w := 300) (by simp [toPy, toPyAll]) (Tm.up (tm_list (tml_cons q (tml_cons q (tml_nil 1)))) (by decide) (by decide)) (by decide) (by decide)⟩
  · exact ⟨_, tm_show (k := 1) (w := 300) (by simp [toPy, toPyAll]) (Tm.up (tm_list (tml_cons tm_non (tml_cons tm_non (tml_nil 0)))) (by decide) (by decide)) (by decide) (by decide)⟩
/-! ### a visit's text -/
def nS (i : Int) : Str := ((toString i : String) : Str)
def eS : Option Int → Str
  | none => "None"
  | some x => nS x
theorem nS_len {i : Int} (h : i.natAbs < 1000000) : (nS i).length ≤ 13 := PyData.shown_int_le (i := i) (by omega)
theorem showI_of {i : Int} (h : i.natAbs < 1000000) : showI i = true := by
  have := (tm_int h).a
  simpa only [PyData.showable, showI] using this
theorem eS_len {e : Option Int} (h : ∀ x, e = some x → x.natAbs < 1000000) : (eS e).length ≤ 13 := by
  cases e with
  | none => decide
  | some x => exact nS_len (h x rfl)
theorem fmt_int {i : Int} (h : i.natAbs < 1000000) : fmtC (.int i) = some (.str (nS i)) := by
  simp only [fmtC, fmtS, showI_of h, if_true, Option.map_some]; rfl
theorem fmt_e {e : Option Int} (h : ∀ x, e = some x → x.natAbs < 1000000) : fmtC (eD e) = some (.str (eS e)) := by
  cases e with
  | none => rfl
  | some x => exact fmt_int (h x rfl)
theorem str_int {i : Int} (h : i.natAbs < 1000000) : strC [.int i] = some (.str (nS i)) := by
  simp only [strC, showI_of h, if_true]; rfl
theorem str_e {e : Option Int} (h : ∀ x, e = some x → x.natAbs < 1000000) : strC [eD e] = some (.str (eS e)) := by
  cases e with
  | none => rfl
  | some x => exact str_int (h x rfl)
theorem join_step {m : ME} {ms : List ME} {acc y : Str} {S S1 : Sg} (h : m S = .ok (.str y) S1) (hl : acc.length + y.length ≤ 1000) : joinM (m :: ms) acc S = joinM ms (acc ++ y) S1 := by
  have l : (acc ++ y).length ≤ sizeLine := by rw [strLen_append, sizeLine_eq]; omega
  show (m S).bind _ = _
  rw [h]
  show (if (acc ++ y).length ≤ sizeLine then joinM ms (acc ++ y) S1 else .bad) = _
  rw [if_pos l]
def Pt.txt (p : Pt) : Str := Str.empty ++ "Visit(" ++ nS p.t ++ ", shift=" ++ nS p.s ++ ", begin=" ++ nS p.b ++ ", end=" ++ eS p.e ++ ")"
theorem Pt.abs (p : Pt) : p.t.natAbs < 1000000 ∧ p.s.natAbs < 1000000 ∧ p.b.natAbs < 1000000 ∧ ∀ x, p.e = some x → x.natAbs < 1000000 := by
  have h1 := p.t1
  have h2 := p.t2
  have h3 := p.s1
  have h4 := p.s2
  have h5 := p.b1
  have h6 := p.b2
  refine ⟨by omega, by omega, by omega, fun x hx => ?_⟩
  have := p.e1 x hx
  omega
theorem repr_run (p : Pt) : F_Visit_repr0 [.dat p.vis] = .ok (.str p.txt) [] := by
  obtain ⟨h1, h2, h3, h4⟩ := p.abs
  have q1 := time_run p
  have q2 := shift_run p
  have q3 := begin_run p
  have q4 := end_run p
  have l1 := nS_len h1
  have l2 := nS_len h2
  have l3 := nS_len h3
  have l4 := eS_len h4
  have k0 : (Str.empty).length = 0 := rfl
  have k1 : ("Visit(" : Str).length = 6 := by decide
  have k2 : (", shift=" : Str).length = 8 := by decide
  have k3 : (", begin=" : Str).length = 8 := by decide
  have k4 : (", end=" : Str).length = 6 := by decide
  have k5 : (")" : Str).length = 1 := by decide
  have v : ∀ S : Sg, mVar 0 [.dat p.vis] = .ok p.vis [.dat p.vis] := fun _ => rfl
  have f1 : m1 fmtC (mProp ["Visit"] F_Visit_time (mVar 0)) [.dat p.vis] = .ok (.str (nS p.t)) [.dat p.vis] := by
    rw [r_1, r_prop, v [], prop_run p _ _ _ q1, k1_ok, fmt_int h1]; rfl
  have f2 : m1 fmtC (mProp ["Visit"] F_Visit_shift (mVar 0)) [.dat p.vis] = .ok (.str (nS p.s)) [.dat p.vis] := by
    rw [r_1, r_prop, v [], prop_run p _ _ _ q2, k1_ok, fmt_int h2]; rfl
  have f3 : m1 fmtC (mProp ["Visit"] F_Visit_begin (mVar 0)) [.dat p.vis] = .ok (.str (nS p.b)) [.dat p.vis] := by
    rw [r_1, r_prop, v [], prop_run p _ _ _ q3, k1_ok, fmt_int h3]; rfl
  have f4 : m1 fmtC (mProp ["Visit"] F_Visit_end (mVar 0)) [.dat p.vis] = .ok (.str (eS p.e)) [.dat p.vis] := by
    rw [r_1, r_prop, v [], prop_run p _ _ _ q4, k1_ok, fmt_e h4]; rfl
  have j : joinM [mC (.str "Visit("), m1 fmtC (mProp ["Visit"] F_Visit_time (mVar 0)), mC (.str ", shift="), m1 fmtC (mProp ["Visit"] F_Visit_shift (mVar 0)), mC (.str ", begin="), m1 fmtC (mProp ["Visit"] F_Visit_begin (mVar 0)), mC (.str ", end="), m1 fmtC (mProp ["Visit"] F_Visit_end (mVar 0)), mC (.str ")")] Str.empty [.dat p.vis] = .ok p.txt [.dat p.vis] := by
    rw [join_step (r_C _ _) (by omega), join_step f1 (by simp only [strLen_append]; omega), join_step (r_C _ _) (by simp only [strLen_append]; omega), join_step f2 (by simp only [strLen_append]; omega), join_step (r_C _ _) (by simp only [strLen_append]; omega), join_step f3 (by simp only [strLen_append]; omega), join_step (r_C _ _) (by simp only [strLen_append]; omega), join_step f4 (by simp only [strLen_append]; omega), join_step (r_C _ _) (by simp only [strLen_append]; omega)]
    rfl
  have e : F_Visit_repr0 [.dat p.vis] = endF 0 (retK ((joinM [mC (.str "Visit("), m1 fmtC (mProp ["Visit"] F_Visit_time (mVar 0)), mC (.str ", shift="), m1 fmtC (mProp ["Visit"] F_Visit_shift (mVar 0)), mC (.str ", begin="), m1 fmtC (mProp ["Visit"] F_Visit_begin (mVar 0)), mC (.str ", end="), m1 fmtC (mProp ["Visit"] F_Visit_end (mVar 0)), mC (.str ")")] Str.empty [.dat p.vis]).bind fun x S1 => .ok (.str x) S1)) := rfl
  rw [e, j]
  rfl
theorem reprO_run (p : Pt) : reprO "Visit" F_Visit_repr0 [p.vis] = some (.str p.txt) := by
  have r := repr_run p
  unfold Pt.vis at r ⊢
  simp [reprO, callD, r]
theorem words_eq (p : Pt) : p.txt = ("Visit(" : Str) ++ Str.join ", " [nS p.t, "shift=" ++ nS p.s, "begin=" ++ nS p.b, "end=" ++ eS p.e] ++ ")" := by
  refine TL.ext_tl ?_
  unfold Pt.txt
  simp only [TL.tl_append, TL.tl_join, TL.joinL, List.map_cons, List.map_nil]
  have a0 : TL.tl Str.empty = [] := rfl
  have a1 : TL.tl (", shift=" : Str) = TL.tl (", " : Str) ++ TL.tl ("shift=" : Str) := by decide
  have a2 : TL.tl (", begin=" : Str) = TL.tl (", " : Str) ++ TL.tl ("begin=" : Str) := by decide
  have a3 : TL.tl (", end=" : Str) = TL.tl (", " : Str) ++ TL.tl ("end=" : Str) := by decide
  simp only [a0, a1, a2, a3, List.nil_append, List.append_assoc]
theorem eq_str (x : Str) : eqD (.str x) (.str x) = some (.bl true) := by simp [eqD, eqB]
theorem ne_str (x : Str) : neD (.str x) (.str x) = some (.bl false) := by simp [neD, eqB]
theorem add_str {x y : Str} (h : x.length + y.length ≤ 1000) : addD (.str x) (.str y) = some (.str (x ++ y)) := by
  simp only [addD]
  rw [if_pos (by unfold lim; omega)]
theorem told_run (p : Pt) : F_l_told_right [.dat p.vis, .dat p.dat] = .ok (.bl true) [] := by
  obtain ⟨h1, h2, h3, h4⟩ := p.abs
  have q1 := time_run p
  have q2 := shift_run p
  have q3 := begin_run p
  have q4 := end_run p
  have l1 := nS_len h1
  have l2 := nS_len h2
  have l3 := nS_len h3
  have l4 := eS_len h4
  have rp : reprC [.lst [.int p.t, .int p.s, .int p.b, eD p.e]] = some (.str p.py.shown) := repr_parts p
  have k2 : ("shift=" : Str).length = 6 := by decide
  have k3 : ("begin=" : Str).length = 6 := by decide
  have k4 : ("end=" : Str).length = 4 := by decide
  have w2 := add_str (x := "shift=") (y := nS p.s) (by omega)
  have w3 := add_str (x := "begin=") (y := nS p.b) (by omega)
  have w4 := add_str (x := "end=") (y := eS p.e) (by omega)
  have jn : joinD (.str ", ") (.lst [.str (nS p.t), .str ("shift=" ++ nS p.s), .str ("begin=" ++ nS p.b), .str ("end=" ++ eS p.e)]) = some (.str (Str.join ", " [nS p.t, "shift=" ++ nS p.s, "begin=" ++ nS p.b, "end=" ++ eS p.e])) := by
    have kk : (", " : Str).length = 2 := by decide
    simp only [joinD, strsOf]
    rw [if_pos]
    · rw [TL.join_eq]
    · simp only [List.map_cons, List.map_nil, List.sum_cons, List.sum_nil, List.length_cons, List.length_nil, strLen_append]
      omega
  have jl : (Str.join ", " [nS p.t, "shift=" ++ nS p.s, "begin=" ++ nS p.b, "end=" ++ eS p.e]).length ≤ 100 := by
    have kk : (", " : Str).length = 2 := by decide
    simp only [Str.join, strLen_append]
    omega
  have k5 : ("Visit(" : Str).length = 6 := by decide
  have k6 : (")" : Str).length = 1 := by decide
  have w5 := add_str (x := "Visit(") (y := Str.join ", " [nS p.t, "shift=" ++ nS p.s, "begin=" ++ nS p.b, "end=" ++ eS p.e]) (by omega)
  have w6 := add_str (x := "Visit(" ++ Str.join ", " [nS p.t, "shift=" ++ nS p.s, "begin=" ++ nS p.b, "end=" ++ eS p.e]) (y := ")") (by rw [strLen_append]; omega)
  have rr := reprO_run p
  rw [words_eq p] at rr
  have ee := eq_str ("Visit(" ++ Str.join ", " [nS p.t, "shift=" ++ nS p.s, "begin=" ++ nS p.b, "end=" ++ eS p.e] ++ ")")
  have nn := ne_str p.py.shown
  have s1 := str_int h1
  have s2 := str_int h2
  have s3 := str_int h3
  have s4 := str_e h4
  simp [F_l_told_right, m_l_told_right, r_seq, r_next, r_retN, r_break, r_cont, r_never, r_ret, r_drop, r_ifS, r_asg, r_nm, r_setF', r_lLst, r_lList, r_par, r_app, r_for, r_its, r_items, r_gIx, r_tpN, r_gcs, r_gnl, r_stF, r_C, r_2, r_1, r_nil, r_cons, r_call, r_lst, r_tup, r_if, r_and, r_or, r_not, r_truth, r_cand, r_cor, r_cnot, r_chain, r_ixS, r_opP, r_jn, r_callF, r_apply, r_vnil, r_vdat, r_vslot, r_make, r_prop, seqK_nx, seqK_rt, seqK_bk, seqK_ct, seqK_exc, seqK_bad, seqK_ite, retK_ok, retK_ite, dropK_ok, ifSK_ok, ifSK_ite, asgK_ok, asgK_ite, stK_ok, setFK_ok, lLstK_ok, lListK_lst, lListK_tup, lListK_ro, parK_ok, appK_ok, forK_ok, ofK_ok, itemsK_ok, gIxK_ok, gCsK_ok, stFK_ok, k2_ok, k2b_ok, k2_ite, k2b_ite, k1_ok, kc_ok, kc2_ok, kc_ite, kc2_ite, kf_ok, kf_ite, kIf_ok, kIf_ite, kAnd_bl, kOr_bl, kAnd_ite, kOr_ite, kNot_bl, kNot_ite, kTr_bl, kTr_ite, cAndK_ok, cOrK_ok, cNotK_ok, cAndK_ite, cOrK_ite, cNotK_ite, kCh_ok, kCh2_ok, kCh3_bl, ixSK_ok, opPK_ok, jnK_ok, fFK_ok, apK_some, cfK_ok, cfK2_ok, vd_ok, vd2_ok, vd_ite, vs2_ok, mkK_ok, mkK2_ok, propK_ok, Rs.of_some, Rs.of_none, Rs.bind_ok, Rs.bind_bad, Rs.bind_exc, Rs.calm_ok, mVar, isMut, listAt, isLent, fetch, wb, putS, nodupB, setAt, appAt, mkSlots, nOwn, runDef, endF, outsFrom, findOwn, intD, List.getElem?_cons_zero, List.getElem?_cons_succ, List.set_cons_zero, List.set_cons_succ, List.length_cons, List.length_nil, List.replicate, List.cons_append, List.nil_append, List.append_nil, List.getD_cons_zero, List.getD_cons_succ, List.contains_cons, List.contains_nil, prop_run p _ _ _ q1, prop_run p _ _ _ q2, prop_run p _ _ _ q3, prop_run p _ _ _ q4, mkLst, lim, rp, repr_parts, nn, ix0, ix1, ix2, ix3, s1, s2, s3, s4, w2, w3, w4, jn, w5, w6, rr, ee]
/-! ### equal visits -/
def Pt.pl (p : Pt) : List PyData := [.int p.t, .int p.s, .int p.b, eP p.e]
theorem py_ds (p : Pt) : toPyAll p.ds = some p.pl := by simp [toPy, toPyAll, Pt.ds, py_e, Pt.pl]
theorem lay_e (e : Option Int) : (eP e).canLay0 = true := by cases e <;> simp [eP, PyData.canLay0]
theorem dep_e (e : Option Int) : (eP e).depth = 0 := by cases e <;> simp [eP, PyData.depth]
theorem shape_l (p : Pt) : SeqAt.shaped (.list p.pl) = true := by
  unfold SeqAt.shaped
  simp [PyData.canLay0, PyData.canLayAll0, PyData.depth, PyData.depthAll, Pt.pl, lay_e, dep_e]
theorem shape_t (p : Pt) : SeqAt.shaped (.tuple p.pl) = true := by
  unfold SeqAt.shaped
  simp [PyData.canLay0, PyData.canLayAll0, PyData.depth, PyData.depthAll, Pt.pl, lay_e, dep_e]
def sameP (p q : Pt) : Bool := PyData.eqvAll p.pl q.pl
theorem eq_lst (p q : Pt) : eqD (.lst p.ds) (.lst q.ds) = some (.bl (sameP p q)) := by
  have t1 : toPy (.lst p.ds) = some (.list p.pl) := by simp [toPy, py_ds]
  have t2 : toPy (.lst q.ds) = some (.list q.pl) := by simp [toPy, py_ds]
  have e : eqB (.lst p.ds) (.lst q.ds) = eqP (.lst p.ds) (.lst q.ds) := rfl
  unfold eqD
  rw [e]
  unfold eqP
  rw [t1, t2]
  simp only [shape_l, Bool.and_self, if_true, PyData.eqv, Option.map_some, sameP]
theorem eq_tup (p q : Pt) : eqD (.tup p.ds) (.tup q.ds) = some (.bl (sameP p q)) := by
  have t1 : toPy (.tup p.ds) = some (.tuple p.pl) := by simp [toPy, py_ds]
  have t2 : toPy (.tup q.ds) = some (.tuple q.pl) := by simp [toPy, py_ds]
  have e : eqB (.tup p.ds) (.tup q.ds) = eqP (.tup p.ds) (.tup q.ds) := rfl
  unfold eqD
  rw [e]
  unfold eqP
  rw [t1, t2]
  simp only [shape_t, Bool.and_self, if_true, PyData.eqv, Option.map_some, sameP]
theorem eP_sym (a b : Option Int) : (eP a).eqv (eP b) = (eP b).eqv (eP a) := by
  cases a <;> cases b <;> simp [eP, PyData.eqv, Bool.beq_comm, eq_comm]
theorem eP_self (a : Option Int) : (eP a).eqv (eP a) = true := by cases a <;> simp [eP, PyData.eqv]
theorem same_sym (p q : Pt) : sameP p q = sameP q p := by
  simp only [sameP, Pt.pl, PyData.eqvAll, PyData.eqv, eP_sym p.e q.e]
  rw [BEq.comm (a := p.t), BEq.comm (a := p.s), BEq.comm (a := p.b)]
theorem same_self (p : Pt) : sameP p p = true := by simp [sameP, Pt.pl, PyData.eqvAll, PyData.eqv, eP_self]
theorem kept_run (p : Pt) : fldD ["Visit"] "kept" p.vis = some (.tup p.ds) := by simp [fldD, Pt.vis, List.lookup]
theorem isi_vis (p : Pt) : isiT [("NoneType", false), ("bool", false), ("int", false), ("str", false), ("list", false), ("tuple", false), ("dict", false)] [("Visit", true)] p.vis = some (.bl true) := by simp [isiT, Pt.vis, List.lookup]
theorem eq_run (p q : Pt) : F_Visit_eq0 [.dat p.vis, .dat q.vis] = .ok (.bl (sameP p q)) [] := by
  simp [F_Visit_eq0, m_Visit_eq0, r_seq, r_next, r_retN, r_break, r_cont, r_never, r_ret, r_drop, r_ifS, r_asg, r_nm, r_setF', r_lLst, r_lList, r_par, r_app, r_for, r_its, r_items, r_gIx, r_tpN, r_gcs, r_gnl, r_stF, r_C, r_2, r_1, r_nil, r_cons, r_call, r_lst, r_tup, r_if, r_and, r_or, r_not, r_truth, r_cand, r_cor, r_cnot, r_chain, r_ixS, r_opP, r_jn, r_callF, r_apply, r_vnil, r_vdat, r_vslot, r_make, r_prop, seqK_nx, seqK_rt, seqK_bk, seqK_ct, seqK_exc, seqK_bad, seqK_ite, retK_ok, retK_ite, dropK_ok, ifSK_ok, ifSK_ite, asgK_ok, asgK_ite, stK_ok, setFK_ok, lLstK_ok, lListK_lst, lListK_tup, lListK_ro, parK_ok, appK_ok, forK_ok, ofK_ok, itemsK_ok, gIxK_ok, gCsK_ok, stFK_ok, k2_ok, k2b_ok, k2_ite, k2b_ite, k1_ok, kc_ok, kc2_ok, kc_ite, kc2_ite, kf_ok, kf_ite, kIf_ok, kIf_ite, kAnd_bl, kOr_bl, kAnd_ite, kOr_ite, kNot_bl, kNot_ite, kTr_bl, kTr_ite, cAndK_ok, cOrK_ok, cNotK_ok, cAndK_ite, cOrK_ite, cNotK_ite, kCh_ok, kCh2_ok, kCh3_bl, ixSK_ok, opPK_ok, jnK_ok, fFK_ok, apK_some, cfK_ok, cfK2_ok, vd_ok, vd2_ok, vd_ite, vs2_ok, mkK_ok, mkK2_ok, propK_ok, Rs.of_some, Rs.of_none, Rs.bind_ok, Rs.bind_bad, Rs.bind_exc, Rs.calm_ok, mVar, isMut, listAt, isLent, fetch, wb, putS, nodupB, setAt, appAt, mkSlots, nOwn, runDef, endF, outsFrom, findOwn, intD, List.getElem?_cons_zero, List.getElem?_cons_succ, List.set_cons_zero, List.set_cons_succ, List.length_cons, List.length_nil, List.replicate, List.cons_append, List.nil_append, List.append_nil, List.getD_cons_zero, List.getD_cons_succ, List.contains_cons, List.contains_nil, isi_vis, kept_run, eq_tup]
def other : Dat → Bool
  | .ins _ _ => false
  | .ro _ => false
  | _ => true
theorem eq_other (p : Pt) (d : Dat) (h : other d = true) : F_Visit_eq0 [.dat p.vis, .dat d] = .ok (.bl false) [] := by
  cases d <;> first | (cases h; done) | simp [F_Visit_eq0, m_Visit_eq0, r_seq, r_next, r_retN, r_break, r_cont, r_never, r_ret, r_drop, r_ifS, r_asg, r_nm, r_setF', r_lLst, r_lList, r_par, r_app, r_for, r_its, r_items, r_gIx, r_tpN, r_gcs, r_gnl, r_stF, r_C, r_2, r_1, r_nil, r_cons, r_call, r_lst, r_tup, r_if, r_and, r_or, r_not, r_truth, r_cand, r_cor, r_cnot, r_chain, r_ixS, r_opP, r_jn, r_callF, r_apply, r_vnil, r_vdat, r_vslot, r_make, r_prop, seqK_nx, seqK_rt, seqK_bk, seqK_ct, seqK_exc, seqK_bad, seqK_ite, retK_ok, retK_ite, dropK_ok, ifSK_ok, ifSK_ite, asgK_ok, asgK_ite, stK_ok, setFK_ok, lLstK_ok, lListK_lst, lListK_tup, lListK_ro, parK_ok, appK_ok, forK_ok, ofK_ok, itemsK_ok, gIxK_ok, gCsK_ok, stFK_ok, k2_ok, k2b_ok, k2_ite, k2b_ite, k1_ok, kc_ok, kc2_ok, kc_ite, kc2_ite, kf_ok, kf_ite, kIf_ok, kIf_ite, kAnd_bl, kOr_bl, kAnd_ite, kOr_ite, kNot_bl, kNot_ite, kTr_bl, kTr_ite, cAndK_ok, cOrK_ok, cNotK_ok, cAndK_ite, cOrK_ite, cNotK_ite, kCh_ok, kCh2_ok, kCh3_bl, ixSK_ok, opPK_ok, jnK_ok, fFK_ok, apK_some, cfK_ok, cfK2_ok, vd_ok, vd2_ok, vd_ite, vs2_ok, mkK_ok, mkK2_ok, propK_ok, Rs.of_some, Rs.of_none, Rs.bind_ok, Rs.bind_bad, Rs.bind_exc, Rs.calm_ok, mVar, isMut, listAt, isLent, fetch, wb, putS, nodupB, setAt, appAt, mkSlots, nOwn, runDef, endF, outsFrom, findOwn, intD, List.getElem?_cons_zero, List.getElem?_cons_succ, List.set_cons_zero, List.set_cons_succ, List.length_cons, List.length_nil, List.replicate, List.cons_append, List.nil_append, List.append_nil, List.getD_cons_zero, List.getD_cons_succ, List.contains_cons, List.contains_nil, isiT, List.lookup]
theorem eqO_vis (p q : Pt) : eqO "Visit" ["Visit"] F_Visit_eq0 p.vis q.vis = some (.bl (sameP p q)) := by
  have e := eq_run p q
  unfold Pt.vis at e ⊢
  simp [eqO, rightOk, callD, e]
theorem neO_vis (p q : Pt) : neO "Visit" ["Visit"] F_Visit_eq0 p.vis q.vis = some (.bl (!sameP p q)) := by
  have e := eq_run p q
  unfold Pt.vis at e ⊢
  simp [neO, rightOk, callD, e]
theorem eqO_other (p : Pt) (d : Dat) (h : other d = true) : eqO "Visit" ["Visit"] F_Visit_eq0 p.vis d = some (.bl false) := by
  have e := eq_other p d h
  unfold Pt.vis at e ⊢
  cases d <;> first | (cases h; done) | simp [eqO, rightOk, tyN, callD, e]
theorem neO_other (p : Pt) (d : Dat) (h : other d = true) : neO "Visit" ["Visit"] F_Visit_eq0 p.vis d = some (.bl true) := by
  have e := eq_other p d h
  unfold Pt.vis at e ⊢
  cases d <;> first | (cases h; done) | simp [neO, rightOk, tyN, callD, e]
def eqA : MS := mSetF 3 (lList (mVar 2))
def eqB1 : MS := mAsg (mCallF F_l_draw 2 0 (fun as bs => [as.getD 0 (.dat .non), as.getD 1 (.dat .non)]) (vSlot 0 (vDat (mC (.int 4)) (vNil))) vNil) (gNm 4)
def eqC : MS := mAsg (m2 ixD (mLst (mCons (m2 addD (m2 modD (mCall intC (mCons (mIxS 3 (mC (.int 0))) (mNil))) (mC (.int 12))) (mC (.int 1))) (mCons (m2 subD (mC (.int 1001)) (mCall maxC (mCons (mC (.int 1)) (mCons (mIxS 3 (mC (.int 1))) (mNil))))) (mCons (mCall maxC (mCons (mC (.int 0)) (mCons (m2 subD (mIxS 3 (mC (.int 2))) (mC (.int 1))) (mNil)))) (mCons (mC .non) (mNil)))))) (mVar 4)) (gIx 3 (mVar 4))
def eqE : MS := mPar 6 7 (mCons (mCallF F_l_made 1 0 (fun as bs => [as.getD 0 (.dat .non)]) (vDat (mVar 2) (vNil)) vNil) (mCons (mCallF F_l_made 1 0 (fun as bs => [as.getD 0 (.dat .non)]) (vDat (mVar 3) (vNil)) vNil) (mNil)))
def eqG : MS := mIfS (cOr (cNot (cTruth (m2 (eqO "Visit" ["Visit"] F_Visit_eq0) (mVar 1) (mVar 6)))) (cOr (cTruth (m2 (neO "Visit" ["Visit"] F_Visit_eq0) (mVar 1) (mVar 6))) (cTruth (m2 neD (m2 (eqO "Visit" ["Visit"] F_Visit_eq0) (mVar 1) (mVar 7)) (mOpP eqD 3 (mVar 2)))))) (mRet (mC (.bl false))) (mNext)
def eqH : MS := mIfS (cOr (cTruth (m2 (eqO "Visit" ["Visit"] F_Visit_eq0) (mVar 1) (mVar 5))) (cNot (cTruth (m2 (neO "Visit" ["Visit"] F_Visit_eq0) (mVar 1) (mVar 5))))) (mRet (mC (.bl false))) (mNext)
def eqI : Sg → Rs (List Dat) := mItems (mLst (mCons (mC .non) (mCons (mC (.int 0)) (mCons (mC (.str "")) (mCons (mVar 2) (mCons (mCall tupleC (mCons (mVar 2) (mNil))) (mCons (mCall (reprO "Visit" F_Visit_repr0) (mCons (mVar 1) (mNil))) (mCons (mC (.dic [])) (mNil)))))))))
theorem eq_body : m_l_equal_right = mSeq eqA (mSeq eqB1 (mSeq eqC (mSeq eqE (mSeq eqG (mSeq (mFor eqI (gNm 5) eqH) (mRet (mC (.bl true)))))))) := rfl
theorem eqC_run (p : Pt) (v : Int) (h0 : 0 ≤ v) (h1 : v < 4) (o : Own) : ∃ q : Pt, eqC [.own 0 o, .dat p.vis, .dat p.dat, .loc p.ds, .dat (.int v), .no, .no, .no] = .ok .nx [.own 0 o, .dat p.vis, .dat p.dat, .loc q.ds, .dat (.int v), .no, .no, .no] := by
  have a1 := p.t1
  have a2 := p.t2
  have a3 := p.s1
  have a4 := p.s2
  have a5 := p.b1
  have a6 := p.b2
  rcases (show v = 0 ∨ v = 1 ∨ v = 2 ∨ v = 3 by omega) with rfl | rfl | rfl | rfl
  · refine ⟨⟨p.t % 12 + 1, p.s, p.b, p.e, by omega, by omega, a3, a4, a5, a6, p.e1⟩, ?_⟩
    simp [eqC, r_seq, r_next, r_retN, r_break, r_cont, r_never, r_ret, r_drop, r_ifS, r_asg, r_nm, r_setF', r_lLst, r_lList, r_par, r_app, r_for, r_its, r_items, r_gIx, r_tpN, r_gcs, r_gnl, r_stF, r_C, r_2, r_1, r_nil, r_cons, r_call, r_lst, r_tup, r_if, r_and, r_or, r_not, r_truth, r_cand, r_cor, r_cnot, r_chain, r_ixS, r_opP, r_jn, r_callF, r_apply, r_vnil, r_vdat, r_vslot, r_make, r_prop, seqK_nx, seqK_rt, seqK_bk, seqK_ct, seqK_exc, seqK_bad, seqK_ite, retK_ok, retK_ite, dropK_ok, ifSK_ok, ifSK_ite, asgK_ok, asgK_ite, stK_ok, setFK_ok, lLstK_ok, lListK_lst, lListK_tup, lListK_ro, parK_ok, appK_ok, forK_ok, ofK_ok, itemsK_ok, gIxK_ok, gCsK_ok, stFK_ok, k2_ok, k2b_ok, k2_ite, k2b_ite, k1_ok, kc_ok, kc2_ok, kc_ite, kc2_ite, kf_ok, kf_ite, kIf_ok, kIf_ite, kAnd_bl, kOr_bl, kAnd_ite, kOr_ite, kNot_bl, kNot_ite, kTr_bl, kTr_ite, cAndK_ok, cOrK_ok, cNotK_ok, cAndK_ite, cOrK_ite, cNotK_ite, kCh_ok, kCh2_ok, kCh3_bl, ixSK_ok, opPK_ok, jnK_ok, fFK_ok, apK_some, cfK_ok, cfK2_ok, vd_ok, vd2_ok, vd_ite, vs2_ok, mkK_ok, mkK2_ok, propK_ok, Rs.of_some, Rs.of_none, Rs.bind_ok, Rs.bind_bad, Rs.bind_exc, Rs.calm_ok, mVar, isMut, listAt, isLent, fetch, wb, putS, nodupB, setAt, appAt, mkSlots, nOwn, runDef, endF, outsFrom, findOwn, L2.ixN, L2.atI, intD, ixD, List.getElem?_cons_zero, List.getElem?_cons_succ, List.set_cons_zero, List.set_cons_succ, List.length_cons, List.length_nil, List.replicate, List.cons_append, List.nil_append, List.append_nil, List.getD_cons_zero, List.getD_cons_succ, List.contains_cons, List.contains_nil, Pt.ds, intC, addD, max_run, mkLst, lim]
  · refine ⟨⟨p.t, 1001 - (if 1 < p.s then p.s else 1), p.b, p.e, a1, a2, by split <;> omega, by split <;> omega, a5, a6, p.e1⟩, ?_⟩
    simp [eqC, r_seq, r_next, r_retN, r_break, r_cont, r_never, r_ret, r_drop, r_ifS, r_asg, r_nm, r_setF', r_lLst, r_lList, r_par, r_app, r_for, r_its, r_items, r_gIx, r_tpN, r_gcs, r_gnl, r_stF, r_C, r_2, r_1, r_nil, r_cons, r_call, r_lst, r_tup, r_if, r_and, r_or, r_not, r_truth, r_cand, r_cor, r_cnot, r_chain, r_ixS, r_opP, r_jn, r_callF, r_apply, r_vnil, r_vdat, r_vslot, r_make, r_prop, seqK_nx, seqK_rt, seqK_bk, seqK_ct, seqK_exc, seqK_bad, seqK_ite, retK_ok, retK_ite, dropK_ok, ifSK_ok, ifSK_ite, asgK_ok, asgK_ite, stK_ok, setFK_ok, lLstK_ok, lListK_lst, lListK_tup, lListK_ro, parK_ok, appK_ok, forK_ok, ofK_ok, itemsK_ok, gIxK_ok, gCsK_ok, stFK_ok, k2_ok, k2b_ok, k2_ite, k2b_ite, k1_ok, kc_ok, kc2_ok, kc_ite, kc2_ite, kf_ok, kf_ite, kIf_ok, kIf_ite, kAnd_bl, kOr_bl, kAnd_ite, kOr_ite, kNot_bl, kNot_ite, kTr_bl, kTr_ite, cAndK_ok, cOrK_ok, cNotK_ok, cAndK_ite, cOrK_ite, cNotK_ite, kCh_ok, kCh2_ok, kCh3_bl, ixSK_ok, opPK_ok, jnK_ok, fFK_ok, apK_some, cfK_ok, cfK2_ok, vd_ok, vd2_ok, vd_ite, vs2_ok, mkK_ok, mkK2_ok, propK_ok, Rs.of_some, Rs.of_none, Rs.bind_ok, Rs.bind_bad, Rs.bind_exc, Rs.calm_ok, mVar, isMut, listAt, isLent, fetch, wb, putS, nodupB, setAt, appAt, mkSlots, nOwn, runDef, endF, outsFrom, findOwn, L2.ixN, L2.atI, intD, ixD, List.getElem?_cons_zero, List.getElem?_cons_succ, List.set_cons_zero, List.set_cons_succ, List.length_cons, List.length_nil, List.replicate, List.cons_append, List.nil_append, List.append_nil, List.getD_cons_zero, List.getD_cons_succ, List.contains_cons, List.contains_nil, Pt.ds, intC, addD, max_run, mkLst, lim]
  · refine ⟨⟨p.t, p.s, if 0 < p.b - 1 then p.b - 1 else 0, p.e, a1, a2, a3, a4, by split <;> omega, by split <;> omega, fun x hx => ?_⟩, ?_⟩
    · have := p.e1 x hx
      split <;> omega
    · simp [eqC, r_seq, r_next, r_retN, r_break, r_cont, r_never, r_ret, r_drop, r_ifS, r_asg, r_nm, r_setF', r_lLst, r_lList, r_par, r_app, r_for, r_its, r_items, r_gIx, r_tpN, r_gcs, r_gnl, r_stF, r_C, r_2, r_1, r_nil, r_cons, r_call, r_lst, r_tup, r_if, r_and, r_or, r_not, r_truth, r_cand, r_cor, r_cnot, r_chain, r_ixS, r_opP, r_jn, r_callF, r_apply, r_vnil, r_vdat, r_vslot, r_make, r_prop, seqK_nx, seqK_rt, seqK_bk, seqK_ct, seqK_exc, seqK_bad, seqK_ite, retK_ok, retK_ite, dropK_ok, ifSK_ok, ifSK_ite, asgK_ok, asgK_ite, stK_ok, setFK_ok, lLstK_ok, lListK_lst, lListK_tup, lListK_ro, parK_ok, appK_ok, forK_ok, ofK_ok, itemsK_ok, gIxK_ok, gCsK_ok, stFK_ok, k2_ok, k2b_ok, k2_ite, k2b_ite, k1_ok, kc_ok, kc2_ok, kc_ite, kc2_ite, kf_ok, kf_ite, kIf_ok, kIf_ite, kAnd_bl, kOr_bl, kAnd_ite, kOr_ite, kNot_bl, kNot_ite, kTr_bl, kTr_ite, cAndK_ok, cOrK_ok, cNotK_ok, cAndK_ite, cOrK_ite, cNotK_ite, kCh_ok, kCh2_ok, kCh3_bl, ixSK_ok, opPK_ok, jnK_ok, fFK_ok, apK_some, cfK_ok, cfK2_ok, vd_ok, vd2_ok, vd_ite, vs2_ok, mkK_ok, mkK2_ok, propK_ok, Rs.of_some, Rs.of_none, Rs.bind_ok, Rs.bind_bad, Rs.bind_exc, Rs.calm_ok, mVar, isMut, listAt, isLent, fetch, wb, putS, nodupB, setAt, appAt, mkSlots, nOwn, runDef, endF, outsFrom, findOwn, L2.ixN, L2.atI, intD, ixD, List.getElem?_cons_zero, List.getElem?_cons_succ, List.set_cons_zero, List.set_cons_succ, List.length_cons, List.length_nil, List.replicate, List.cons_append, List.nil_append, List.append_nil, List.getD_cons_zero, List.getD_cons_succ, List.contains_cons, List.contains_nil, Pt.ds, intC, addD, max_run, mkLst, lim]
  · refine ⟨⟨p.t, p.s, p.b, none, a1, a2, a3, a4, a5, a6, fun x hx => by cases hx⟩, ?_⟩
    simp [eqC, r_seq, r_next, r_retN, r_break, r_cont, r_never, r_ret, r_drop, r_ifS, r_asg, r_nm, r_setF', r_lLst, r_lList, r_par, r_app, r_for, r_its, r_items, r_gIx, r_tpN, r_gcs, r_gnl, r_stF, r_C, r_2, r_1, r_nil, r_cons, r_call, r_lst, r_tup, r_if, r_and, r_or, r_not, r_truth, r_cand, r_cor, r_cnot, r_chain, r_ixS, r_opP, r_jn, r_callF, r_apply, r_vnil, r_vdat, r_vslot, r_make, r_prop, seqK_nx, seqK_rt, seqK_bk, seqK_ct, seqK_exc, seqK_bad, seqK_ite, retK_ok, retK_ite, dropK_ok, ifSK_ok, ifSK_ite, asgK_ok, asgK_ite, stK_ok, setFK_ok, lLstK_ok, lListK_lst, lListK_tup, lListK_ro, parK_ok, appK_ok, forK_ok, ofK_ok, itemsK_ok, gIxK_ok, gCsK_ok, stFK_ok, k2_ok, k2b_ok, k2_ite, k2b_ite, k1_ok, kc_ok, kc2_ok, kc_ite, kc2_ite, kf_ok, kf_ite, kIf_ok, kIf_ite, kAnd_bl, kOr_bl, kAnd_ite, kOr_ite, kNot_bl, kNot_ite, kTr_bl, kTr_ite, cAndK_ok, cOrK_ok, cNotK_ok, cAndK_ite, cOrK_ite, cNotK_ite, kCh_ok, kCh2_ok, kCh3_bl, ixSK_ok, opPK_ok, jnK_ok, fFK_ok, apK_some, cfK_ok, cfK2_ok, vd_ok, vd2_ok, vd_ite, vs2_ok, mkK_ok, mkK2_ok, propK_ok, Rs.of_some, Rs.of_none, Rs.bind_ok, Rs.bind_bad, Rs.bind_exc, Rs.calm_ok, mVar, isMut, listAt, isLent, fetch, wb, putS, nodupB, setAt, appAt, mkSlots, nOwn, runDef, endF, outsFrom, findOwn, L2.ixN, L2.atI, intD, ixD, List.getElem?_cons_zero, List.getElem?_cons_succ, List.set_cons_zero, List.set_cons_succ, List.length_cons, List.length_nil, List.replicate, List.cons_append, List.nil_append, List.append_nil, List.getD_cons_zero, List.getD_cons_succ, List.contains_cons, List.contains_nil, Pt.ds, intC, addD, max_run, mkLst, lim, eD]
theorem eqH_run (p q : Pt) (d : Dat) (h : other d = true) (o : Own) (x4 x6 x7 : Slot) : eqH [.own 0 o, .dat p.vis, .dat p.dat, .dat (.lst q.ds), x4, .dat d, x6, x7] = .ok .nx [.own 0 o, .dat p.vis, .dat p.dat, .dat (.lst q.ds), x4, .dat d, x6, x7] := by
  simp [eqH, r_seq, r_next, r_retN, r_break, r_cont, r_never, r_ret, r_drop, r_ifS, r_asg, r_nm, r_setF', r_lLst, r_lList, r_par, r_app, r_for, r_its, r_items, r_gIx, r_tpN, r_gcs, r_gnl, r_stF, r_C, r_2, r_1, r_nil, r_cons, r_call, r_lst, r_tup, r_if, r_and, r_or, r_not, r_truth, r_cand, r_cor, r_cnot, r_chain, r_ixS, r_opP, r_jn, r_callF, r_apply, r_vnil, r_vdat, r_vslot, r_make, r_prop, seqK_nx, seqK_rt, seqK_bk, seqK_ct, seqK_exc, seqK_bad, seqK_ite, retK_ok, retK_ite, dropK_ok, ifSK_ok, ifSK_ite, asgK_ok, asgK_ite, stK_ok, setFK_ok, lLstK_ok, lListK_lst, lListK_tup, lListK_ro, parK_ok, appK_ok, forK_ok, ofK_ok, itemsK_ok, gIxK_ok, gCsK_ok, stFK_ok, k2_ok, k2b_ok, k2_ite, k2b_ite, k1_ok, kc_ok, kc2_ok, kc_ite, kc2_ite, kf_ok, kf_ite, kIf_ok, kIf_ite, kAnd_bl, kOr_bl, kAnd_ite, kOr_ite, kNot_bl, kNot_ite, kTr_bl, kTr_ite, cAndK_ok, cOrK_ok, cNotK_ok, cAndK_ite, cOrK_ite, cNotK_ite, kCh_ok, kCh2_ok, kCh3_bl, ixSK_ok, opPK_ok, jnK_ok, fFK_ok, apK_some, cfK_ok, cfK2_ok, vd_ok, vd2_ok, vd_ite, vs2_ok, mkK_ok, mkK2_ok, propK_ok, Rs.of_some, Rs.of_none, Rs.bind_ok, Rs.bind_bad, Rs.bind_exc, Rs.calm_ok, mVar, isMut, listAt, isLent, fetch, wb, putS, nodupB, setAt, appAt, mkSlots, nOwn, runDef, endF, outsFrom, findOwn, intD, List.getElem?_cons_zero, List.getElem?_cons_succ, List.set_cons_zero, List.set_cons_succ, List.length_cons, List.length_nil, List.replicate, List.cons_append, List.nil_append, List.append_nil, List.getD_cons_zero, List.getD_cons_succ, List.contains_cons, List.contains_nil, eqO_other p d h, neO_other p d h]
theorem eqLoop (p q : Pt) (o : Own) (x4 x6 x7 : Slot) : ∀ (ds : List Dat) (x5 : Slot), (∀ d, d ∈ ds → other d = true) → ∃ y5, loopS (gNm 5) eqH ds [.own 0 o, .dat p.vis, .dat p.dat, .dat (.lst q.ds), x4, x5, x6, x7] = .ok .nx [.own 0 o, .dat p.vis, .dat p.dat, .dat (.lst q.ds), x4, y5, x6, x7]
  | [], x5, _ => ⟨x5, rfl⟩
  | d :: ds, x5, h => by
    obtain ⟨y5, e⟩ := eqLoop p q o x4 x6 x7 ds (.dat d) fun z hz => h z (List.mem_cons_of_mem _ hz)
    refine ⟨y5, ?_⟩
    unfold loopS
    rw [r_nm]
    simp only [Rs.bind_ok, List.set_cons_zero, List.set_cons_succ]
    rw [eqH_run p q d (h d (List.mem_cons_self ..))]
    exact e
theorem equal_run (s : Rg) (p : Pt) : ∃ s' : Rg, F_l_equal_right [.own s.own, .dat p.vis, .dat p.dat] = .ok (.bl true) [s'.own] := by
  have d := draw_run s (n := 4) (by decide) (by decide)
  have b := vb s 4 (by decide)
  generalize s.val 4 = v at *
  generalize s.next 4 = s1 at *
  refine ⟨s1, ?_⟩
  obtain ⟨q, hC⟩ := eqC_run p v b.1 b.2 s1.own
  have hA : eqA [.own 0 s.own, .dat p.vis, .dat p.dat, .no, .no, .no, .no, .no] = .ok .nx [.own 0 s.own, .dat p.vis, .dat p.dat, .loc p.ds, .no, .no, .no, .no] := by
    simp [eqA, r_seq, r_next, r_retN, r_break, r_cont, r_never, r_ret, r_drop, r_ifS, r_asg, r_nm, r_setF', r_lLst, r_lList, r_par, r_app, r_for, r_its, r_items, r_gIx, r_tpN, r_gcs, r_gnl, r_stF, r_C, r_2, r_1, r_nil, r_cons, r_call, r_lst, r_tup, r_if, r_and, r_or, r_not, r_truth, r_cand, r_cor, r_cnot, r_chain, r_ixS, r_opP, r_jn, r_callF, r_apply, r_vnil, r_vdat, r_vslot, r_make, r_prop, seqK_nx, seqK_rt, seqK_bk, seqK_ct, seqK_exc, seqK_bad, seqK_ite, retK_ok, retK_ite, dropK_ok, ifSK_ok, ifSK_ite, asgK_ok, asgK_ite, stK_ok, setFK_ok, lLstK_ok, lListK_lst, lListK_tup, lListK_ro, parK_ok, appK_ok, forK_ok, ofK_ok, itemsK_ok, gIxK_ok, gCsK_ok, stFK_ok, k2_ok, k2b_ok, k2_ite, k2b_ite, k1_ok, kc_ok, kc2_ok, kc_ite, kc2_ite, kf_ok, kf_ite, kIf_ok, kIf_ite, kAnd_bl, kOr_bl, kAnd_ite, kOr_ite, kNot_bl, kNot_ite, kTr_bl, kTr_ite, cAndK_ok, cOrK_ok, cNotK_ok, cAndK_ite, cOrK_ite, cNotK_ite, kCh_ok, kCh2_ok, kCh3_bl, ixSK_ok, opPK_ok, jnK_ok, fFK_ok, apK_some, cfK_ok, cfK2_ok, vd_ok, vd2_ok, vd_ite, vs2_ok, mkK_ok, mkK2_ok, propK_ok, Rs.of_some, Rs.of_none, Rs.bind_ok, Rs.bind_bad, Rs.bind_exc, Rs.calm_ok, mVar, isMut, listAt, isLent, fetch, wb, putS, nodupB, setAt, appAt, mkSlots, nOwn, runDef, endF, outsFrom, findOwn, intD, List.getElem?_cons_zero, List.getElem?_cons_succ, List.set_cons_zero, List.set_cons_succ, List.length_cons, List.length_nil, List.replicate, List.cons_append, List.nil_append, List.append_nil, List.getD_cons_zero, List.getD_cons_succ, List.contains_cons, List.contains_nil, Pt.dat]
  have hB : eqB1 [.own 0 s.own, .dat p.vis, .dat p.dat, .loc p.ds, .no, .no, .no, .no] = .ok .nx [.own 0 s1.own, .dat p.vis, .dat p.dat, .loc p.ds, .dat (.int v), .no, .no, .no] := by
    simp [eqB1, r_seq, r_next, r_retN, r_break, r_cont, r_never, r_ret, r_drop, r_ifS, r_asg, r_nm, r_setF', r_lLst, r_lList, r_par, r_app, r_for, r_its, r_items, r_gIx, r_tpN, r_gcs, r_gnl, r_stF, r_C, r_2, r_1, r_nil, r_cons, r_call, r_lst, r_tup, r_if, r_and, r_or, r_not, r_truth, r_cand, r_cor, r_cnot, r_chain, r_ixS, r_opP, r_jn, r_callF, r_apply, r_vnil, r_vdat, r_vslot, r_make, r_prop, seqK_nx, seqK_rt, seqK_bk, seqK_ct, seqK_exc, seqK_bad, seqK_ite, retK_ok, retK_ite, dropK_ok, ifSK_ok, ifSK_ite, asgK_ok, asgK_ite, stK_ok, setFK_ok, lLstK_ok, lListK_lst, lListK_tup, lListK_ro, parK_ok, appK_ok, forK_ok, ofK_ok, itemsK_ok, gIxK_ok, gCsK_ok, stFK_ok, k2_ok, k2b_ok, k2_ite, k2b_ite, k1_ok, kc_ok, kc2_ok, kc_ite, kc2_ite, kf_ok, kf_ite, kIf_ok, kIf_ite, kAnd_bl, kOr_bl, kAnd_ite, kOr_ite, kNot_bl, kNot_ite, kTr_bl, kTr_ite, cAndK_ok, cOrK_ok, cNotK_ok, cAndK_ite, cOrK_ite, cNotK_ite, kCh_ok, kCh2_ok, kCh3_bl, ixSK_ok, opPK_ok, jnK_ok, fFK_ok, apK_some, cfK_ok, cfK2_ok, vd_ok, vd2_ok, vd_ite, vs2_ok, mkK_ok, mkK2_ok, propK_ok, Rs.of_some, Rs.of_none, Rs.bind_ok, Rs.bind_bad, Rs.bind_exc, Rs.calm_ok, mVar, isMut, listAt, isLent, fetch, wb, putS, nodupB, setAt, appAt, mkSlots, nOwn, runDef, endF, outsFrom, findOwn, intD, List.getElem?_cons_zero, List.getElem?_cons_succ, List.set_cons_zero, List.set_cons_succ, List.length_cons, List.length_nil, List.replicate, List.cons_append, List.nil_append, List.append_nil, List.getD_cons_zero, List.getD_cons_succ, List.contains_cons, List.contains_nil, d]
  have mq : F_l_made [.dat (.lst q.ds)] = .ok q.vis [] := made_run q
  have hE : eqE [.own 0 s1.own, .dat p.vis, .dat p.dat, .loc q.ds, .dat (.int v), .no, .no, .no] = .ok .nx [.own 0 s1.own, .dat p.vis, .dat p.dat, .dat (.lst q.ds), .dat (.int v), .no, .dat p.vis, .dat q.vis] := by
    simp [eqE, r_seq, r_next, r_retN, r_break, r_cont, r_never, r_ret, r_drop, r_ifS, r_asg, r_nm, r_setF', r_lLst, r_lList, r_par, r_app, r_for, r_its, r_items, r_gIx, r_tpN, r_gcs, r_gnl, r_stF, r_C, r_2, r_1, r_nil, r_cons, r_call, r_lst, r_tup, r_if, r_and, r_or, r_not, r_truth, r_cand, r_cor, r_cnot, r_chain, r_ixS, r_opP, r_jn, r_callF, r_apply, r_vnil, r_vdat, r_vslot, r_make, r_prop, seqK_nx, seqK_rt, seqK_bk, seqK_ct, seqK_exc, seqK_bad, seqK_ite, retK_ok, retK_ite, dropK_ok, ifSK_ok, ifSK_ite, asgK_ok, asgK_ite, stK_ok, setFK_ok, lLstK_ok, lListK_lst, lListK_tup, lListK_ro, parK_ok, appK_ok, forK_ok, ofK_ok, itemsK_ok, gIxK_ok, gCsK_ok, stFK_ok, k2_ok, k2b_ok, k2_ite, k2b_ite, k1_ok, kc_ok, kc2_ok, kc_ite, kc2_ite, kf_ok, kf_ite, kIf_ok, kIf_ite, kAnd_bl, kOr_bl, kAnd_ite, kOr_ite, kNot_bl, kNot_ite, kTr_bl, kTr_ite, cAndK_ok, cOrK_ok, cNotK_ok, cAndK_ite, cOrK_ite, cNotK_ite, kCh_ok, kCh2_ok, kCh3_bl, ixSK_ok, opPK_ok, jnK_ok, fFK_ok, apK_some, cfK_ok, cfK2_ok, vd_ok, vd2_ok, vd_ite, vs2_ok, mkK_ok, mkK2_ok, propK_ok, Rs.of_some, Rs.of_none, Rs.bind_ok, Rs.bind_bad, Rs.bind_exc, Rs.calm_ok, mVar, isMut, listAt, isLent, fetch, wb, putS, nodupB, setAt, appAt, mkSlots, nOwn, runDef, endF, outsFrom, findOwn, intD, List.getElem?_cons_zero, List.getElem?_cons_succ, List.set_cons_zero, List.set_cons_succ, List.length_cons, List.length_nil, List.replicate, List.cons_append, List.nil_append, List.append_nil, List.getD_cons_zero, List.getD_cons_succ, List.contains_cons, List.contains_nil, made_run p, mq]
  have eqp : eqD (.lst q.ds) p.dat = some (.bl (sameP p q)) := by rw [same_sym]; exact eq_lst q p
  have nb : neD (.bl (sameP p q)) (.bl (sameP p q)) = some (.bl false) := by simp [neD, eqB]
  have hG : eqG [.own 0 s1.own, .dat p.vis, .dat p.dat, .dat (.lst q.ds), .dat (.int v), .no, .dat p.vis, .dat q.vis] = .ok .nx [.own 0 s1.own, .dat p.vis, .dat p.dat, .dat (.lst q.ds), .dat (.int v), .no, .dat p.vis, .dat q.vis] := by
    simp [eqG, r_seq, r_next, r_retN, r_break, r_cont, r_never, r_ret, r_drop, r_ifS, r_asg, r_nm, r_setF', r_lLst, r_lList, r_par, r_app, r_for, r_its, r_items, r_gIx, r_tpN, r_gcs, r_gnl, r_stF, r_C, r_2, r_1, r_nil, r_cons, r_call, r_lst, r_tup, r_if, r_and, r_or, r_not, r_truth, r_cand, r_cor, r_cnot, r_chain, r_ixS, r_opP, r_jn, r_callF, r_apply, r_vnil, r_vdat, r_vslot, r_make, r_prop, seqK_nx, seqK_rt, seqK_bk, seqK_ct, seqK_exc, seqK_bad, seqK_ite, retK_ok, retK_ite, dropK_ok, ifSK_ok, ifSK_ite, asgK_ok, asgK_ite, stK_ok, setFK_ok, lLstK_ok, lListK_lst, lListK_tup, lListK_ro, parK_ok, appK_ok, forK_ok, ofK_ok, itemsK_ok, gIxK_ok, gCsK_ok, stFK_ok, k2_ok, k2b_ok, k2_ite, k2b_ite, k1_ok, kc_ok, kc2_ok, kc_ite, kc2_ite, kf_ok, kf_ite, kIf_ok, kIf_ite, kAnd_bl, kOr_bl, kAnd_ite, kOr_ite, kNot_bl, kNot_ite, kTr_bl, kTr_ite, cAndK_ok, cOrK_ok, cNotK_ok, cAndK_ite, cOrK_ite, cNotK_ite, kCh_ok, kCh2_ok, kCh3_bl, ixSK_ok, opPK_ok, jnK_ok, fFK_ok, apK_some, cfK_ok, cfK2_ok, vd_ok, vd2_ok, vd_ite, vs2_ok, mkK_ok, mkK2_ok, propK_ok, Rs.of_some, Rs.of_none, Rs.bind_ok, Rs.bind_bad, Rs.bind_exc, Rs.calm_ok, mVar, isMut, listAt, isLent, fetch, wb, putS, nodupB, setAt, appAt, mkSlots, nOwn, runDef, endF, outsFrom, findOwn, intD, List.getElem?_cons_zero, List.getElem?_cons_succ, List.set_cons_zero, List.set_cons_succ, List.length_cons, List.length_nil, List.replicate, List.cons_append, List.nil_append, List.append_nil, List.getD_cons_zero, List.getD_cons_succ, List.contains_cons, List.contains_nil, eqO_vis, neO_vis, same_self, eqp, nb]
  have hI : eqI [.own 0 s1.own, .dat p.vis, .dat p.dat, .dat (.lst q.ds), .dat (.int v), .no, .dat p.vis, .dat q.vis] = .ok [.non, .int 0, .str "", p.dat, .tup p.ds, .str p.txt, .dic []] [.own 0 s1.own, .dat p.vis, .dat p.dat, .dat (.lst q.ds), .dat (.int v), .no, .dat p.vis, .dat q.vis] := by
    have tp : tupleC [p.dat] = some (.tup p.ds) := rfl
    simp [eqI, r_seq, r_next, r_retN, r_break, r_cont, r_never, r_ret, r_drop, r_ifS, r_asg, r_nm, r_setF', r_lLst, r_lList, r_par, r_app, r_for, r_its, r_items, r_gIx, r_tpN, r_gcs, r_gnl, r_stF, r_C, r_2, r_1, r_nil, r_cons, r_call, r_lst, r_tup, r_if, r_and, r_or, r_not, r_truth, r_cand, r_cor, r_cnot, r_chain, r_ixS, r_opP, r_jn, r_callF, r_apply, r_vnil, r_vdat, r_vslot, r_make, r_prop, seqK_nx, seqK_rt, seqK_bk, seqK_ct, seqK_exc, seqK_bad, seqK_ite, retK_ok, retK_ite, dropK_ok, ifSK_ok, ifSK_ite, asgK_ok, asgK_ite, stK_ok, setFK_ok, lLstK_ok, lListK_lst, lListK_tup, lListK_ro, parK_ok, appK_ok, forK_ok, ofK_ok, itemsK_ok, gIxK_ok, gCsK_ok, stFK_ok, k2_ok, k2b_ok, k2_ite, k2b_ite, k1_ok, kc_ok, kc2_ok, kc_ite, kc2_ite, kf_ok, kf_ite, kIf_ok, kIf_ite, kAnd_bl, kOr_bl, kAnd_ite, kOr_ite, kNot_bl, kNot_ite, kTr_bl, kTr_ite, cAndK_ok, cOrK_ok, cNotK_ok, cAndK_ite, cOrK_ite, cNotK_ite, kCh_ok, kCh2_ok, kCh3_bl, ixSK_ok, opPK_ok, jnK_ok, fFK_ok, apK_some, cfK_ok, cfK2_ok, vd_ok, vd2_ok, vd_ite, vs2_ok, mkK_ok, mkK2_ok, propK_ok, Rs.of_some, Rs.of_none, Rs.bind_ok, Rs.bind_bad, Rs.bind_exc, Rs.calm_ok, mVar, isMut, listAt, isLent, fetch, wb, putS, nodupB, setAt, appAt, mkSlots, nOwn, runDef, endF, outsFrom, findOwn, intD, List.getElem?_cons_zero, List.getElem?_cons_succ, List.set_cons_zero, List.set_cons_succ, List.length_cons, List.length_nil, List.replicate, List.cons_append, List.nil_append, List.append_nil, List.getD_cons_zero, List.getD_cons_succ, List.contains_cons, List.contains_nil, tp, reprO_run, mkLst, lim, itemsD]
  obtain ⟨y5, lp⟩ := eqLoop p q s1.own (.dat (.int v)) (.dat p.vis) (.dat q.vis) [.non, .int 0, .str "", p.dat, .tup p.ds, .str p.txt, .dic []] .no (by
    intro z hz
    simp only [List.mem_cons, List.not_mem_nil, or_false] at hz
    rcases hz with rfl | rfl | rfl | rfl | rfl | rfl | rfl <;> rfl)
  simp [F_l_equal_right, eq_body, runDef, nOwn, mkSlots, r_seq, hA, hB, hC, hE, hG, r_for, hI, lp, r_ret, r_C, endF, outsFrom, findOwn]
def riT : MS := (mSeq (mAsg (mCall maxC (mCons (mC (.int 0)) (mCons (m2 addD (m2 subD (m2 addD (m2 ixD (mVar 1) (mC (.int 1))) (m2 ixD (mVar 1) (mC (.int 2)))) (mC (.int 4))) (mCallF F_l_draw 2 0 (fun as bs => [as.getD 0 (.dat .non), as.getD 1 (.dat .non)]) (vSlot 0 (vDat (mC (.int 12)) (vNil))) vNil)) (mNil)))) (gNm 5))
    (mSeq (mAsg (m2 addD (m2 addD (mVar 5) (mC (.int 1))) (mCallF F_l_draw 2 0 (fun as bs => [as.getD 0 (.dat .non), as.getD 1 (.dat .non)]) (vSlot 0 (vDat (mC (.int 16)) (vNil))) vNil)) (gNm 6))
    (mSeq (mAsg (mCallF F_l_due 3 0 (fun as bs => [as.getD 0 (.dat .non), as.getD 1 (.dat .non), as.getD 2 (.dat .non)]) (vDat (mVar 1) (vDat (mVar 5) (vDat (mVar 6) (vNil)))) vNil) (gNm 7))
    (mIfS (cTruth (m2 neD (mCall reprC (mCons (mLst (mCons (mCallF F_stretch 3 0 (fun as bs => [as.getD 0 (.dat .non), as.getD 1 (.dat .non), as.getD 2 (.dat .non)]) (vDat (mVar 2) (vDat (mVar 5) (vDat (mVar 6) (vNil)))) vNil) (mCons (mCallF F_stretch 1 2 (fun as bs => [as.getD 0 (.dat .non), bs.getD 1 (.dat .non), bs.getD 0 (.dat .non)]) (vDat (mVar 2) (vNil)) (vDat (mVar 6) (vDat (mVar 5) (vNil)))) (mNil)))) (mNil))) (mCall reprC (mCons (mLst (mCons (mVar 7) (mCons (mVar 7) (mNil)))) (mNil))))) (mRet (mC (.bl false))) (mNext)))))
def riA : MS := mAsg (mCallF F_l_parts 1 0 (fun as bs => [as.getD 0 (.dat .non)]) (vSlot 0 (vNil)) vNil) (gNm 1)
def riB : MS := mAsg (mCallF F_l_made 1 0 (fun as bs => [as.getD 0 (.dat .non)]) (vDat (mVar 1) (vNil)) vNil) (gNm 2)
def riP : MS := mAsg (mMake "Visit" F_Visit_init0 0 1 (fun as bs => [bs.getD 0 (.dat .non), .dat (.int 0), .dat (.int 0), .dat (.non)]) (vNil) (vDat (m2 ixD (mVar 1) (mC (.int 0))) (vNil))) (gNm 4)
def riC : MS := mIfS (cOr (cTruth (m2 neD (mCall (reprO "Visit" F_Visit_repr0) (mCons (mVar 4) (mNil))) (mCall (reprO "Visit" F_Visit_repr0) (mCons (mMake "Visit" F_Visit_init0 1 3 (fun as bs => [as.getD 0 (.dat .non), bs.getD 0 (.dat .non), bs.getD 1 (.dat .non), bs.getD 2 (.dat .non)]) (vDat (m2 ixD (mVar 1) (mC (.int 0))) (vNil)) (vDat (mC (.int 0)) (vDat (mC (.int 0)) (vDat (mC .non) (vNil))))) (mNil))))) (cTruth (m2 neD (mLst (mCons (mProp ["Visit"] F_Visit_begin (mVar 4)) (mCons (mProp ["Visit"] F_Visit_end (mVar 4)) (mNil)))) (mLst (mCons (mC (.int 0)) (mCons (mC .non) (mNil))))))) (mRet (mC (.bl false))) (mNext)
def riR : MS := mRet (mAnd (mCallF F_l_told_right 2 0 (fun as bs => [as.getD 0 (.dat .non), as.getD 1 (.dat .non)]) (vDat (mVar 2) (vDat (mVar 1) (vNil))) vNil) (mCallF F_l_equal_right 3 0 (fun as bs => [as.getD 0 (.dat .non), as.getD 1 (.dat .non), as.getD 2 (.dat .non)]) (vSlot 0 (vDat (mVar 2) (vDat (mVar 1) (vNil)))) vNil))
theorem ri_body : m_l_right = mSeq riA (mSeq riB (mSeq (mFor (mIts range1 (mCons (mC (.int 4)) (mNil))) (gNm 3) riT) (mSeq riP (mSeq riC riR)))) := rfl
theorem riT_run (s : Rg) (p : Pt) (x3 x5 x6 x7 : Slot) : ∃ (s' : Rg) (y5 y6 y7 : Slot), riT [.own 0 s.own, .dat p.dat, .dat p.vis, x3, .no, x5, x6, x7] = .ok .nx [.own 0 s'.own, .dat p.dat, .dat p.vis, x3, .no, y5, y6, y7] := by
  have a1 := p.t1
  have a2 := p.t2
  have a3 := p.s1
  have a4 := p.s2
  have a5 := p.b1
  have a6 := p.b2
  have d1 := draw_run s (n := 12) (by decide) (by decide)
  have b1 := vb s 12 (by decide)
  generalize s.val 12 = v1 at *
  generalize s.next 12 = s1 at *
  have d2 := draw_run s1 (n := 16) (by decide) (by decide)
  have b2 := vb s1 16 (by decide)
  generalize s1.val 16 = v2 at *
  generalize s1.next 16 = s2 at *
  obtain ⟨lo, hlo⟩ : ∃ lo, (if 0 < p.s + p.b - 4 + v1 then p.s + p.b - 4 + v1 else 0) = lo := ⟨_, rfl⟩
  have hlo1 : 0 ≤ lo ∧ lo ≤ 2100 := by subst hlo; split <;> omega
  obtain ⟨hi, hhi⟩ : ∃ hi, lo + 1 + v2 = hi := ⟨_, rfl⟩
  have du := due_run p (a := lo) (b := hi) (by omega) (by omega) (by omega)
  have st := stretch_run p (a := lo) (b := hi) (by omega) (by omega)
  have l1 : (p.lo (lo - p.s)).natAbs < 1000000 := by unfold Pt.lo; split <;> omega
  have l2 : (p.hi (hi - p.t - p.s + 1)).natAbs < 1000000 := by
    unfold Pt.hi
    split
    · omega
    · rename_i x hx
      have := p.e1 x hx
      split <;> omega
  obtain ⟨z, hz⟩ := repr_pair l1 l2
  have nz := ne_str z
  refine ⟨s2, .dat (.int lo), .dat (.int hi), .dat (pair (p.lo (lo - p.s)) (p.hi (hi - p.t - p.s + 1))), ?_⟩
  simp [riT, r_seq, r_next, r_retN, r_break, r_cont, r_never, r_ret, r_drop, r_ifS, r_asg, r_nm, r_setF', r_lLst, r_lList, r_par, r_app, r_for, r_its, r_items, r_gIx, r_tpN, r_gcs, r_gnl, r_stF, r_C, r_2, r_1, r_nil, r_cons, r_call, r_lst, r_tup, r_if, r_and, r_or, r_not, r_truth, r_cand, r_cor, r_cnot, r_chain, r_ixS, r_opP, r_jn, r_callF, r_apply, r_vnil, r_vdat, r_vslot, r_make, r_prop, seqK_nx, seqK_rt, seqK_bk, seqK_ct, seqK_exc, seqK_bad, seqK_ite, retK_ok, retK_ite, dropK_ok, ifSK_ok, ifSK_ite, asgK_ok, asgK_ite, stK_ok, setFK_ok, lLstK_ok, lListK_lst, lListK_tup, lListK_ro, parK_ok, appK_ok, forK_ok, ofK_ok, itemsK_ok, gIxK_ok, gCsK_ok, stFK_ok, k2_ok, k2b_ok, k2_ite, k2b_ite, k1_ok, kc_ok, kc2_ok, kc_ite, kc2_ite, kf_ok, kf_ite, kIf_ok, kIf_ite, kAnd_bl, kOr_bl, kAnd_ite, kOr_ite, kNot_bl, kNot_ite, kTr_bl, kTr_ite, cAndK_ok, cOrK_ok, cNotK_ok, cAndK_ite, cOrK_ite, cNotK_ite, kCh_ok, kCh2_ok, kCh3_bl, ixSK_ok, opPK_ok, jnK_ok, fFK_ok, apK_some, cfK_ok, cfK2_ok, vd_ok, vd2_ok, vd_ite, vs2_ok, mkK_ok, mkK2_ok, propK_ok, Rs.of_some, Rs.of_none, Rs.bind_ok, Rs.bind_bad, Rs.bind_exc, Rs.calm_ok, mVar, isMut, listAt, isLent, fetch, wb, putS, nodupB, setAt, appAt, mkSlots, nOwn, runDef, endF, outsFrom, findOwn, intD, List.getElem?_cons_zero, List.getElem?_cons_succ, List.set_cons_zero, List.set_cons_succ, List.length_cons, List.length_nil, List.replicate, List.cons_append, List.nil_append, List.append_nil, List.getD_cons_zero, List.getD_cons_succ, List.contains_cons, List.contains_nil, ix1, ix2, addD, d1, d2, max_run, hlo, hhi, du, st, hz, nz, mkLst, lim]
theorem riLoop (p : Pt) : ∀ (ts : List Dat) (s : Rg) (x3 x5 x6 x7 : Slot), ∃ (s' : Rg) (y3 y5 y6 y7 : Slot), loopS (gNm 3) riT ts [.own 0 s.own, .dat p.dat, .dat p.vis, x3, .no, x5, x6, x7] = .ok .nx [.own 0 s'.own, .dat p.dat, .dat p.vis, y3, .no, y5, y6, y7]
  | [], s, x3, x5, x6, x7 => ⟨s, x3, x5, x6, x7, rfl⟩
  | d :: ts, s, x3, x5, x6, x7 => by
    obtain ⟨s1, y5, y6, y7, e⟩ := riT_run s p (.dat d) x5 x6 x7
    obtain ⟨s2, z3, z5, z6, z7, e2⟩ := riLoop p ts s1 (.dat d) y5 y6 y7
    refine ⟨s2, z3, z5, z6, z7, ?_⟩
    unfold loopS
    rw [r_nm]
    simp only [Rs.bind_ok, List.set_cons_zero, List.set_cons_succ]
    rw [e]
    exact e2
theorem right_run (s : Rg) : ∃ s' : Rg, F_l_right [.own s.own] = .ok (.bl true) [s'.own] := by
  obtain ⟨p, s1, hp⟩ := parts_run s
  have hm := made_run p
  have hA : riA [.own 0 s.own, .no, .no, .no, .no, .no, .no, .no] = .ok .nx [.own 0 s1.own, .dat p.dat, .no, .no, .no, .no, .no, .no] := by
    simp [riA, r_seq, r_next, r_retN, r_break, r_cont, r_never, r_ret, r_drop, r_ifS, r_asg, r_nm, r_setF', r_lLst, r_lList, r_par, r_app, r_for, r_its, r_items, r_gIx, r_tpN, r_gcs, r_gnl, r_stF, r_C, r_2, r_1, r_nil, r_cons, r_call, r_lst, r_tup, r_if, r_and, r_or, r_not, r_truth, r_cand, r_cor, r_cnot, r_chain, r_ixS, r_opP, r_jn, r_callF, r_apply, r_vnil, r_vdat, r_vslot, r_make, r_prop, seqK_nx, seqK_rt, seqK_bk, seqK_ct, seqK_exc, seqK_bad, seqK_ite, retK_ok, retK_ite, dropK_ok, ifSK_ok, ifSK_ite, asgK_ok, asgK_ite, stK_ok, setFK_ok, lLstK_ok, lListK_lst, lListK_tup, lListK_ro, parK_ok, appK_ok, forK_ok, ofK_ok, itemsK_ok, gIxK_ok, gCsK_ok, stFK_ok, k2_ok, k2b_ok, k2_ite, k2b_ite, k1_ok, kc_ok, kc2_ok, kc_ite, kc2_ite, kf_ok, kf_ite, kIf_ok, kIf_ite, kAnd_bl, kOr_bl, kAnd_ite, kOr_ite, kNot_bl, kNot_ite, kTr_bl, kTr_ite, cAndK_ok, cOrK_ok, cNotK_ok, cAndK_ite, cOrK_ite, cNotK_ite, kCh_ok, kCh2_ok, kCh3_bl, ixSK_ok, opPK_ok, jnK_ok, fFK_ok, apK_some, cfK_ok, cfK2_ok, vd_ok, vd2_ok, vd_ite, vs2_ok, mkK_ok, mkK2_ok, propK_ok, Rs.of_some, Rs.of_none, Rs.bind_ok, Rs.bind_bad, Rs.bind_exc, Rs.calm_ok, mVar, isMut, listAt, isLent, fetch, wb, putS, nodupB, setAt, appAt, mkSlots, nOwn, runDef, endF, outsFrom, findOwn, intD, List.getElem?_cons_zero, List.getElem?_cons_succ, List.set_cons_zero, List.set_cons_succ, List.length_cons, List.length_nil, List.replicate, List.cons_append, List.nil_append, List.append_nil, List.getD_cons_zero, List.getD_cons_succ, List.contains_cons, List.contains_nil, hp]
  have hB : riB [.own 0 s1.own, .dat p.dat, .no, .no, .no, .no, .no, .no] = .ok .nx [.own 0 s1.own, .dat p.dat, .dat p.vis, .no, .no, .no, .no, .no] := by
    simp [riB, r_seq, r_next, r_retN, r_break, r_cont, r_never, r_ret, r_drop, r_ifS, r_asg, r_nm, r_setF', r_lLst, r_lList, r_par, r_app, r_for, r_its, r_items, r_gIx, r_tpN, r_gcs, r_gnl, r_stF, r_C, r_2, r_1, r_nil, r_cons, r_call, r_lst, r_tup, r_if, r_and, r_or, r_not, r_truth, r_cand, r_cor, r_cnot, r_chain, r_ixS, r_opP, r_jn, r_callF, r_apply, r_vnil, r_vdat, r_vslot, r_make, r_prop, seqK_nx, seqK_rt, seqK_bk, seqK_ct, seqK_exc, seqK_bad, seqK_ite, retK_ok, retK_ite, dropK_ok, ifSK_ok, ifSK_ite, asgK_ok, asgK_ite, stK_ok, setFK_ok, lLstK_ok, lListK_lst, lListK_tup, lListK_ro, parK_ok, appK_ok, forK_ok, ofK_ok, itemsK_ok, gIxK_ok, gCsK_ok, stFK_ok, k2_ok, k2b_ok, k2_ite, k2b_ite, k1_ok, kc_ok, kc2_ok, kc_ite, kc2_ite, kf_ok, kf_ite, kIf_ok, kIf_ite, kAnd_bl, kOr_bl, kAnd_ite, kOr_ite, kNot_bl, kNot_ite, kTr_bl, kTr_ite, cAndK_ok, cOrK_ok, cNotK_ok, cAndK_ite, cOrK_ite, cNotK_ite, kCh_ok, kCh2_ok, kCh3_bl, ixSK_ok, opPK_ok, jnK_ok, fFK_ok, apK_some, cfK_ok, cfK2_ok, vd_ok, vd2_ok, vd_ite, vs2_ok, mkK_ok, mkK2_ok, propK_ok, Rs.of_some, Rs.of_none, Rs.bind_ok, Rs.bind_bad, Rs.bind_exc, Rs.calm_ok, mVar, isMut, listAt, isLent, fetch, wb, putS, nodupB, setAt, appAt, mkSlots, nOwn, runDef, endF, outsFrom, findOwn, intD, List.getElem?_cons_zero, List.getElem?_cons_succ, List.set_cons_zero, List.set_cons_succ, List.length_cons, List.length_nil, List.replicate, List.cons_append, List.nil_append, List.append_nil, List.getD_cons_zero, List.getD_cons_succ, List.contains_cons, List.contains_nil, hm]
  obtain ⟨s2, y3, y5, y6, y7, lp⟩ := riLoop p ((List.range (4 : Int).toNat).map fun (k : Nat) => Dat.int (0 + (k : Int))) s1 .no .no .no .no
  have rg : range1 [.int 4] = some ((List.range (4 : Int).toNat).map fun (k : Nat) => Dat.int (0 + (k : Int))) := by
    unfold range1
    dsimp only
    rw [if_pos (by decide)]
  generalize ((List.range (4 : Int).toNat).map fun (k : Nat) => Dat.int (0 + (k : Int))) = TS at lp rg
  have iq := init_run ⟨p.t, 0, 0, none, p.t1, p.t2, by decide, by decide, by decide, by decide, fun x hx => by cases hx⟩
  have hP : riP [.own 0 s2.own, .dat p.dat, .dat p.vis, y3, .no, y5, y6, y7] = .ok .nx [.own 0 s2.own, .dat p.dat, .dat p.vis, y3, .dat (Pt.vis ⟨p.t, 0, 0, none, p.t1, p.t2, by decide, by decide, by decide, by decide, fun x hx => by cases hx⟩), y5, y6, y7] := by
    simp only [eD] at iq
    simp [riP, r_seq, r_next, r_retN, r_break, r_cont, r_never, r_ret, r_drop, r_ifS, r_asg, r_nm, r_setF', r_lLst, r_lList, r_par, r_app, r_for, r_its, r_items, r_gIx, r_tpN, r_gcs, r_gnl, r_stF, r_C, r_2, r_1, r_nil, r_cons, r_call, r_lst, r_tup, r_if, r_and, r_or, r_not, r_truth, r_cand, r_cor, r_cnot, r_chain, r_ixS, r_opP, r_jn, r_callF, r_apply, r_vnil, r_vdat, r_vslot, r_make, r_prop, seqK_nx, seqK_rt, seqK_bk, seqK_ct, seqK_exc, seqK_bad, seqK_ite, retK_ok, retK_ite, dropK_ok, ifSK_ok, ifSK_ite, asgK_ok, asgK_ite, stK_ok, setFK_ok, lLstK_ok, lListK_lst, lListK_tup, lListK_ro, parK_ok, appK_ok, forK_ok, ofK_ok, itemsK_ok, gIxK_ok, gCsK_ok, stFK_ok, k2_ok, k2b_ok, k2_ite, k2b_ite, k1_ok, kc_ok, kc2_ok, kc_ite, kc2_ite, kf_ok, kf_ite, kIf_ok, kIf_ite, kAnd_bl, kOr_bl, kAnd_ite, kOr_ite, kNot_bl, kNot_ite, kTr_bl, kTr_ite, cAndK_ok, cOrK_ok, cNotK_ok, cAndK_ite, cOrK_ite, cNotK_ite, kCh_ok, kCh2_ok, kCh3_bl, ixSK_ok, opPK_ok, jnK_ok, fFK_ok, apK_some, cfK_ok, cfK2_ok, vd_ok, vd2_ok, vd_ite, vs2_ok, mkK_ok, mkK2_ok, propK_ok, Rs.of_some, Rs.of_none, Rs.bind_ok, Rs.bind_bad, Rs.bind_exc, Rs.calm_ok, mVar, isMut, listAt, isLent, fetch, wb, putS, nodupB, setAt, appAt, mkSlots, nOwn, runDef, endF, outsFrom, findOwn, intD, List.getElem?_cons_zero, List.getElem?_cons_succ, List.set_cons_zero, List.set_cons_succ, List.length_cons, List.length_nil, List.replicate, List.cons_append, List.nil_append, List.append_nil, List.getD_cons_zero, List.getD_cons_succ, List.contains_cons, List.contains_nil, ix0, datsOf, makeF, iq, Pt.vis]
  generalize hq : (⟨p.t, 0, 0, none, p.t1, p.t2, by decide, by decide, by decide, by decide, fun x hx => by cases hx⟩ : Pt) = q at iq hP
  have qt : q.t = p.t := by rw [← hq]
  have qs : q.s = 0 := by rw [← hq]
  have qb : q.b = 0 := by rw [← hq]
  have qe : q.e = none := by rw [← hq]
  rw [qt, qs, qb, qe] at iq
  have rr := reprO_run q
  have nn := ne_str q.txt
  have g1 := begin_run q
  have g2 := end_run q
  rw [qb] at g1
  rw [qe] at g2
  have n2 : neD (.lst [.int 0, .non]) (.lst [.int 0, .non]) = some (.bl false) := by
    have t : toPy (.lst [.int 0, .non]) = some (.list [.int 0, .none]) := by simp [toPy, toPyAll]
    have sh : SeqAt.shaped (.list [.int 0, .none]) = true := by
      unfold SeqAt.shaped
      simp [PyData.canLay0, PyData.canLayAll0, PyData.depth, PyData.depthAll]
    have e : eqB (.lst [.int 0, .non]) (.lst [.int 0, .non]) = eqP (.lst [.int 0, .non]) (.lst [.int 0, .non]) := rfl
    unfold neD
    rw [e]
    unfold eqP
    rw [t]
    simp [sh, PyData.eqv, PyData.eqvAll]
  have hC : riC [.own 0 s2.own, .dat p.dat, .dat p.vis, y3, .dat q.vis, y5, y6, y7] = .ok .nx [.own 0 s2.own, .dat p.dat, .dat p.vis, y3, .dat q.vis, y5, y6, y7] := by
    simp only [eD] at iq g2
    have qv : (Dat.ins "Visit" [("kept", .tup q.ds)]) = q.vis := rfl
    simp [riC, r_seq, r_next, r_retN, r_break, r_cont, r_never, r_ret, r_drop, r_ifS, r_asg, r_nm, r_setF', r_lLst, r_lList, r_par, r_app, r_for, r_its, r_items, r_gIx, r_tpN, r_gcs, r_gnl, r_stF, r_C, r_2, r_1, r_nil, r_cons, r_call, r_lst, r_tup, r_if, r_and, r_or, r_not, r_truth, r_cand, r_cor, r_cnot, r_chain, r_ixS, r_opP, r_jn, r_callF, r_apply, r_vnil, r_vdat, r_vslot, r_make, r_prop, seqK_nx, seqK_rt, seqK_bk, seqK_ct, seqK_exc, seqK_bad, seqK_ite, retK_ok, retK_ite, dropK_ok, ifSK_ok, ifSK_ite, asgK_ok, asgK_ite, stK_ok, setFK_ok, lLstK_ok, lListK_lst, lListK_tup, lListK_ro, parK_ok, appK_ok, forK_ok, ofK_ok, itemsK_ok, gIxK_ok, gCsK_ok, stFK_ok, k2_ok, k2b_ok, k2_ite, k2b_ite, k1_ok, kc_ok, kc2_ok, kc_ite, kc2_ite, kf_ok, kf_ite, kIf_ok, kIf_ite, kAnd_bl, kOr_bl, kAnd_ite, kOr_ite, kNot_bl, kNot_ite, kTr_bl, kTr_ite, cAndK_ok, cOrK_ok, cNotK_ok, cAndK_ite, cOrK_ite, cNotK_ite, kCh_ok, kCh2_ok, kCh3_bl, ixSK_ok, opPK_ok, jnK_ok, fFK_ok, apK_some, cfK_ok, cfK2_ok, vd_ok, vd2_ok, vd_ite, vs2_ok, mkK_ok, mkK2_ok, propK_ok, Rs.of_some, Rs.of_none, Rs.bind_ok, Rs.bind_bad, Rs.bind_exc, Rs.calm_ok, mVar, isMut, listAt, isLent, fetch, wb, putS, nodupB, setAt, appAt, mkSlots, nOwn, runDef, endF, outsFrom, findOwn, intD, List.getElem?_cons_zero, List.getElem?_cons_succ, List.set_cons_zero, List.set_cons_succ, List.length_cons, List.length_nil, List.replicate, List.cons_append, List.nil_append, List.append_nil, List.getD_cons_zero, List.getD_cons_succ, List.contains_cons, List.contains_nil, ix0, datsOf, makeF, iq, qv, rr, nn, prop_run q _ _ _ g1, prop_run q _ _ _ g2, mkLst, lim, n2]
  have td := told_run p
  obtain ⟨s3, eq⟩ := equal_run s2 p
  refine ⟨s3, ?_⟩
  have hR : riR [.own 0 s2.own, .dat p.dat, .dat p.vis, y3, .dat q.vis, y5, y6, y7] = .ok (.rt (.bl true)) [.own 0 s3.own, .dat p.dat, .dat p.vis, y3, .dat q.vis, y5, y6, y7] := by
    simp [riR, r_seq, r_next, r_retN, r_break, r_cont, r_never, r_ret, r_drop, r_ifS, r_asg, r_nm, r_setF', r_lLst, r_lList, r_par, r_app, r_for, r_its, r_items, r_gIx, r_tpN, r_gcs, r_gnl, r_stF, r_C, r_2, r_1, r_nil, r_cons, r_call, r_lst, r_tup, r_if, r_and, r_or, r_not, r_truth, r_cand, r_cor, r_cnot, r_chain, r_ixS, r_opP, r_jn, r_callF, r_apply, r_vnil, r_vdat, r_vslot, r_make, r_prop, seqK_nx, seqK_rt, seqK_bk, seqK_ct, seqK_exc, seqK_bad, seqK_ite, retK_ok, retK_ite, dropK_ok, ifSK_ok, ifSK_ite, asgK_ok, asgK_ite, stK_ok, setFK_ok, lLstK_ok, lListK_lst, lListK_tup, lListK_ro, parK_ok, appK_ok, forK_ok, ofK_ok, itemsK_ok, gIxK_ok, gCsK_ok, stFK_ok, k2_ok, k2b_ok, k2_ite, k2b_ite, k1_ok, kc_ok, kc2_ok, kc_ite, kc2_ite, kf_ok, kf_ite, kIf_ok, kIf_ite, kAnd_bl, kOr_bl, kAnd_ite, kOr_ite, kNot_bl, kNot_ite, kTr_bl, kTr_ite, cAndK_ok, cOrK_ok, cNotK_ok, cAndK_ite, cOrK_ite, cNotK_ite, kCh_ok, kCh2_ok, kCh3_bl, ixSK_ok, opPK_ok, jnK_ok, fFK_ok, apK_some, cfK_ok, cfK2_ok, vd_ok, vd2_ok, vd_ite, vs2_ok, mkK_ok, mkK2_ok, propK_ok, Rs.of_some, Rs.of_none, Rs.bind_ok, Rs.bind_bad, Rs.bind_exc, Rs.calm_ok, mVar, isMut, listAt, isLent, fetch, wb, putS, nodupB, setAt, appAt, mkSlots, nOwn, runDef, endF, outsFrom, findOwn, intD, List.getElem?_cons_zero, List.getElem?_cons_succ, List.set_cons_zero, List.set_cons_succ, List.length_cons, List.length_nil, List.replicate, List.cons_append, List.nil_append, List.append_nil, List.getD_cons_zero, List.getD_cons_succ, List.contains_cons, List.contains_nil, td, eq]
  simp [F_l_right, ri_body, runDef, nOwn, mkSlots, r_seq, hA, hB, hC, hP, hR, r_for, r_its, r_cons, r_C, r_nil, rg, lp, endF, outsFrom, findOwn]
/-! ### the law -/
def cellK (ns : List Int) (k : Nat) : Int := if h : k < ns.length then ns[k] else 7 * k + 3
def absI (i : Int) : Int := if i < 0 then -i else i
theorem absI0 (i : Int) : 0 ≤ absI i := by unfold absI; split <;> omega
theorem abs_run (i : Int) : absC [.int i] = some (.int (absI i)) := rfl
theorem seqL_nx (s : MS) (m : Sg → Rs (List Dat)) (S S1 : Sg) (h : s S = .ok .nx S1) : mSeqL s m S = m S1 := by
  unfold mSeqL
  rw [h]
theorem rng_run (ns : List Int) (k : Nat) (hk : k ≤ 3) : ∃ s : Rg, F_l_rng [.ro (ns.map .int), .int (k : Int)] = some [.int s.a, .int s.b] := by
  have c0 := absI0 (cellK ns k)
  obtain ⟨c, hc⟩ : ∃ c, absI (cellK ns k) = c := ⟨_, rfl⟩
  rw [hc] at c0
  have m0 : 0 ≤ c % 2147483549 := Int.emod_nonneg _ (by decide)
  have m1 : c % 2147483549 < 2147483549 := Int.emod_lt_of_pos _ (by decide)
  have sm := small_of (i := c % 2147483549 + 1) (by omega) (by omega)
  have u0 : 0 ≤ (c % 2147483549 + 1) * (2 * (k : Int) + 5) ^ 3 % 2147483543 := Int.emod_nonneg _ (by decide)
  have u1 : (c % 2147483549 + 1) * (2 * (k : Int) + 5) ^ 3 % 2147483543 < 2147483543 := Int.emod_lt_of_pos _ (by decide)
  refine ⟨⟨if 0 < c - 1000000000000000000 then c - 1000000000000000000 else 0, (c % 2147483549 + 1) * (2 * (k : Int) + 5) ^ 3 % 2147483543 + 1, by split <;> omega, by omega, by omega⟩, ?_⟩
  have s7 : small64 7 = true := by decide
  have s2 : small64 2 = true := by decide
  have na : (2 * (k : Int) + 5).natAbs < 18446744073709551616 := by omega
  have st : ∃ x, (mIfS (cTruth (m2 ltD (mVar 1) (mCall lenC (mCons (mVar 0) (mNil))))) (mAsg (m2 ixD (mVar 0) (mVar 1)) (gNm 2)) (mNext)) [.dat (.ro (ns.map .int)), .dat (.int k), .dat (.int (7 * k + 3))] = .ok .nx [.dat (.ro (ns.map .int)), .dat (.int k), .dat (.int x)] ∧ absI x = c := by
    by_cases hz : k < ns.length
    · refine ⟨ns[k], ?_, ?_⟩
      · have ix : ixD (.ro (ns.map .int)) (.int k) = some (.int ns[k]) := L2.atI_nat (j := k) (by rw [List.getElem?_map, List.getElem?_eq_getElem hz]; rfl)
        have hz2 : (k : Int) < (ns.length : Int) := by omega
        simp [r_seq, r_next, r_retN, r_break, r_cont, r_never, r_ret, r_drop, r_ifS, r_asg, r_nm, r_setF', r_lLst, r_lList, r_par, r_app, r_for, r_its, r_items, r_gIx, r_tpN, r_gcs, r_gnl, r_stF, r_C, r_2, r_1, r_nil, r_cons, r_call, r_lst, r_tup, r_if, r_and, r_or, r_not, r_truth, r_cand, r_cor, r_cnot, r_chain, r_ixS, r_opP, r_jn, r_callF, r_apply, r_vnil, r_vdat, r_vslot, r_make, r_prop, seqK_nx, seqK_rt, seqK_bk, seqK_ct, seqK_exc, seqK_bad, seqK_ite, retK_ok, retK_ite, dropK_ok, ifSK_ok, ifSK_ite, asgK_ok, asgK_ite, stK_ok, setFK_ok, lLstK_ok, lListK_lst, lListK_tup, lListK_ro, parK_ok, appK_ok, forK_ok, ofK_ok, itemsK_ok, gIxK_ok, gCsK_ok, stFK_ok, k2_ok, k2b_ok, k2_ite, k2b_ite, k1_ok, kc_ok, kc2_ok, kc_ite, kc2_ite, kf_ok, kf_ite, kIf_ok, kIf_ite, kAnd_bl, kOr_bl, kAnd_ite, kOr_ite, kNot_bl, kNot_ite, kTr_bl, kTr_ite, cAndK_ok, cOrK_ok, cNotK_ok, cAndK_ite, cOrK_ite, cNotK_ite, kCh_ok, kCh2_ok, kCh3_bl, ixSK_ok, opPK_ok, jnK_ok, fFK_ok, apK_some, cfK_ok, cfK2_ok, vd_ok, vd2_ok, vd_ite, vs2_ok, mkK_ok, mkK2_ok, propK_ok, Rs.of_some, Rs.of_none, Rs.bind_ok, Rs.bind_bad, Rs.bind_exc, Rs.calm_ok, mVar, isMut, listAt, isLent, fetch, wb, putS, nodupB, setAt, appAt, mkSlots, nOwn, runDef, endF, outsFrom, findOwn, intD, List.getElem?_cons_zero, List.getElem?_cons_succ, List.set_cons_zero, List.set_cons_succ, List.length_cons, List.length_nil, List.replicate, List.cons_append, List.nil_append, List.append_nil, List.getD_cons_zero, List.getD_cons_succ, List.contains_cons, List.contains_nil, lenC, ix, hz, hz2]
      · rw [← hc]; unfold cellK; rw [dif_pos hz]
    · refine ⟨7 * k + 3, ?_, ?_⟩
      · have hz2 : ¬ (k : Int) < (ns.length : Int) := by omega
        simp [r_seq, r_next, r_retN, r_break, r_cont, r_never, r_ret, r_drop, r_ifS, r_asg, r_nm, r_setF', r_lLst, r_lList, r_par, r_app, r_for, r_its, r_items, r_gIx, r_tpN, r_gcs, r_gnl, r_stF, r_C, r_2, r_1, r_nil, r_cons, r_call, r_lst, r_tup, r_if, r_and, r_or, r_not, r_truth, r_cand, r_cor, r_cnot, r_chain, r_ixS, r_opP, r_jn, r_callF, r_apply, r_vnil, r_vdat, r_vslot, r_make, r_prop, seqK_nx, seqK_rt, seqK_bk, seqK_ct, seqK_exc, seqK_bad, seqK_ite, retK_ok, retK_ite, dropK_ok, ifSK_ok, ifSK_ite, asgK_ok, asgK_ite, stK_ok, setFK_ok, lLstK_ok, lListK_lst, lListK_tup, lListK_ro, parK_ok, appK_ok, forK_ok, ofK_ok, itemsK_ok, gIxK_ok, gCsK_ok, stFK_ok, k2_ok, k2b_ok, k2_ite, k2b_ite, k1_ok, kc_ok, kc2_ok, kc_ite, kc2_ite, kf_ok, kf_ite, kIf_ok, kIf_ite, kAnd_bl, kOr_bl, kAnd_ite, kOr_ite, kNot_bl, kNot_ite, kTr_bl, kTr_ite, cAndK_ok, cOrK_ok, cNotK_ok, cAndK_ite, cOrK_ite, cNotK_ite, kCh_ok, kCh2_ok, kCh3_bl, ixSK_ok, opPK_ok, jnK_ok, fFK_ok, apK_some, cfK_ok, cfK2_ok, vd_ok, vd2_ok, vd_ite, vs2_ok, mkK_ok, mkK2_ok, propK_ok, Rs.of_some, Rs.of_none, Rs.bind_ok, Rs.bind_bad, Rs.bind_exc, Rs.calm_ok, mVar, isMut, listAt, isLent, fetch, wb, putS, nodupB, setAt, appAt, mkSlots, nOwn, runDef, endF, outsFrom, findOwn, intD, List.getElem?_cons_zero, List.getElem?_cons_succ, List.set_cons_zero, List.set_cons_succ, List.length_cons, List.length_nil, List.replicate, List.cons_append, List.nil_append, List.append_nil, List.getD_cons_zero, List.getD_cons_succ, List.contains_cons, List.contains_nil, lenC, hz, hz2]
      · rw [← hc]; unfold cellK; rw [dif_neg hz]
  obtain ⟨x, e1, e2⟩ := st
  have f1 : (mAsg (m2 addD (m2 mulD (mC (.int 7)) (mVar 1)) (mC (.int 3))) (gNm 2)) [.dat (.ro (ns.map .int)), .dat (.int k), .no] = .ok .nx [.dat (.ro (ns.map .int)), .dat (.int k), .dat (.int (7 * k + 3))] := by
    simp [r_seq, r_next, r_retN, r_break, r_cont, r_never, r_ret, r_drop, r_ifS, r_asg, r_nm, r_setF', r_lLst, r_lList, r_par, r_app, r_for, r_its, r_items, r_gIx, r_tpN, r_gcs, r_gnl, r_stF, r_C, r_2, r_1, r_nil, r_cons, r_call, r_lst, r_tup, r_if, r_and, r_or, r_not, r_truth, r_cand, r_cor, r_cnot, r_chain, r_ixS, r_opP, r_jn, r_callF, r_apply, r_vnil, r_vdat, r_vslot, r_make, r_prop, seqK_nx, seqK_rt, seqK_bk, seqK_ct, seqK_exc, seqK_bad, seqK_ite, retK_ok, retK_ite, dropK_ok, ifSK_ok, ifSK_ite, asgK_ok, asgK_ite, stK_ok, setFK_ok, lLstK_ok, lListK_lst, lListK_tup, lListK_ro, parK_ok, appK_ok, forK_ok, ofK_ok, itemsK_ok, gIxK_ok, gCsK_ok, stFK_ok, k2_ok, k2b_ok, k2_ite, k2b_ite, k1_ok, kc_ok, kc2_ok, kc_ite, kc2_ite, kf_ok, kf_ite, kIf_ok, kIf_ite, kAnd_bl, kOr_bl, kAnd_ite, kOr_ite, kNot_bl, kNot_ite, kTr_bl, kTr_ite, cAndK_ok, cOrK_ok, cNotK_ok, cAndK_ite, cOrK_ite, cNotK_ite, kCh_ok, kCh2_ok, kCh3_bl, ixSK_ok, opPK_ok, jnK_ok, fFK_ok, apK_some, cfK_ok, cfK2_ok, vd_ok, vd2_ok, vd_ite, vs2_ok, mkK_ok, mkK2_ok, propK_ok, Rs.of_some, Rs.of_none, Rs.bind_ok, Rs.bind_bad, Rs.bind_exc, Rs.calm_ok, mVar, isMut, listAt, isLent, fetch, wb, putS, nodupB, setAt, appAt, mkSlots, nOwn, runDef, endF, outsFrom, findOwn, intD, List.getElem?_cons_zero, List.getElem?_cons_succ, List.set_cons_zero, List.set_cons_succ, List.length_cons, List.length_nil, List.replicate, List.cons_append, List.nil_append, List.append_nil, List.getD_cons_zero, List.getD_cons_succ, List.contains_cons, List.contains_nil, mulD, mulI, s7, addD]
  unfold F_l_rng runL m_l_rng
  rw [if_pos (show [Dat.ro (ns.map .int), Dat.int (k : Int)].length = 2 from rfl)]
  rw [show ([Dat.ro (ns.map .int), Dat.int (k : Int)].map Slot.dat ++ List.replicate (3 - 2) Slot.no) = [.dat (.ro (ns.map .int)), .dat (.int k), .no] from rfl]
  rw [seqL_nx _ _ _ _ f1, seqL_nx _ _ _ _ e1]
  simp [r_seq, r_next, r_retN, r_break, r_cont, r_never, r_ret, r_drop, r_ifS, r_asg, r_nm, r_setF', r_lLst, r_lList, r_par, r_app, r_for, r_its, r_items, r_gIx, r_tpN, r_gcs, r_gnl, r_stF, r_C, r_2, r_1, r_nil, r_cons, r_call, r_lst, r_tup, r_if, r_and, r_or, r_not, r_truth, r_cand, r_cor, r_cnot, r_chain, r_ixS, r_opP, r_jn, r_callF, r_apply, r_vnil, r_vdat, r_vslot, r_make, r_prop, seqK_nx, seqK_rt, seqK_bk, seqK_ct, seqK_exc, seqK_bad, seqK_ite, retK_ok, retK_ite, dropK_ok, ifSK_ok, ifSK_ite, asgK_ok, asgK_ite, stK_ok, setFK_ok, lLstK_ok, lListK_lst, lListK_tup, lListK_ro, parK_ok, appK_ok, forK_ok, ofK_ok, itemsK_ok, gIxK_ok, gCsK_ok, stFK_ok, k2_ok, k2b_ok, k2_ite, k2b_ite, k1_ok, kc_ok, kc2_ok, kc_ite, kc2_ite, kf_ok, kf_ite, kIf_ok, kIf_ite, kAnd_bl, kOr_bl, kAnd_ite, kOr_ite, kNot_bl, kNot_ite, kTr_bl, kTr_ite, cAndK_ok, cOrK_ok, cNotK_ok, cAndK_ite, cOrK_ite, cNotK_ite, kCh_ok, kCh2_ok, kCh3_bl, ixSK_ok, opPK_ok, jnK_ok, fFK_ok, apK_some, cfK_ok, cfK2_ok, vd_ok, vd2_ok, vd_ite, vs2_ok, mkK_ok, mkK2_ok, propK_ok, Rs.of_some, Rs.of_none, Rs.bind_ok, Rs.bind_bad, Rs.bind_exc, Rs.calm_ok, mVar, isMut, listAt, isLent, fetch, wb, putS, nodupB, setAt, appAt, mkSlots, nOwn, runDef, endF, outsFrom, findOwn, intD, List.getElem?_cons_zero, List.getElem?_cons_succ, List.set_cons_zero, List.set_cons_succ, List.length_cons, List.length_nil, List.replicate, List.cons_append, List.nil_append, List.append_nil, List.getD_cons_zero, List.getD_cons_succ, List.contains_cons, List.contains_nil, abs_run, e2, max_run, intC, mulD, mulI, addD, sm, s2, na, lim]
theorem va_run (ns : List Int) (k : Int) : vDat (mVar 0) (vDat (mVar 1) (vNil)) [.dat (.ro (ns.map .int)), .dat (.int k)] = .ok [.dat (.ro (ns.map .int)), .dat (.int k)] [.dat (.ro (ns.map .int)), .dat (.int k)] := by
  simp [r_seq, r_next, r_retN, r_break, r_cont, r_never, r_ret, r_drop, r_ifS, r_asg, r_nm, r_setF', r_lLst, r_lList, r_par, r_app, r_for, r_its, r_items, r_gIx, r_tpN, r_gcs, r_gnl, r_stF, r_C, r_2, r_1, r_nil, r_cons, r_call, r_lst, r_tup, r_if, r_and, r_or, r_not, r_truth, r_cand, r_cor, r_cnot, r_chain, r_ixS, r_opP, r_jn, r_callF, r_apply, r_vnil, r_vdat, r_vslot, r_make, r_prop, seqK_nx, seqK_rt, seqK_bk, seqK_ct, seqK_exc, seqK_bad, seqK_ite, retK_ok, retK_ite, dropK_ok, ifSK_ok, ifSK_ite, asgK_ok, asgK_ite, stK_ok, setFK_ok, lLstK_ok, lListK_lst, lListK_tup, lListK_ro, parK_ok, appK_ok, forK_ok, ofK_ok, itemsK_ok, gIxK_ok, gCsK_ok, stFK_ok, k2_ok, k2b_ok, k2_ite, k2b_ite, k1_ok, kc_ok, kc2_ok, kc_ite, kc2_ite, kf_ok, kf_ite, kIf_ok, kIf_ite, kAnd_bl, kOr_bl, kAnd_ite, kOr_ite, kNot_bl, kNot_ite, kTr_bl, kTr_ite, cAndK_ok, cOrK_ok, cNotK_ok, cAndK_ite, cOrK_ite, cNotK_ite, kCh_ok, kCh2_ok, kCh3_bl, ixSK_ok, opPK_ok, jnK_ok, fFK_ok, apK_some, cfK_ok, cfK2_ok, vd_ok, vd2_ok, vd_ite, vs2_ok, mkK_ok, mkK2_ok, propK_ok, Rs.of_some, Rs.of_none, Rs.bind_ok, Rs.bind_bad, Rs.bind_exc, Rs.calm_ok, mVar, isMut, listAt, isLent, fetch, wb, putS, nodupB, setAt, appAt, mkSlots, nOwn, runDef, endF, outsFrom, findOwn, intD, List.getElem?_cons_zero, List.getElem?_cons_succ, List.set_cons_zero, List.set_cons_succ, List.length_cons, List.length_nil, List.replicate, List.cons_append, List.nil_append, List.append_nil, List.getD_cons_zero, List.getD_cons_succ, List.contains_cons, List.contains_nil]
theorem lc_run (L : List Dat → Option (List Dat)) (ns : List Int) (k : Int) (ds : List Dat) (hs : L [.ro (ns.map .int), .int k] = some ds) : lCall L 2 (vDat (mVar 0) (vDat (mVar 1) (vNil))) [.dat (.ro (ns.map .int)), .dat (.int k)] = .ok ds [.dat (.ro (ns.map .int)), .dat (.int k)] := by
  unfold lCall
  rw [va_run]
  simp only [Rs.bind_ok, List.length_cons, List.length_nil, if_true, datsA, Option.map_some, hs, Rs.of_some]
theorem lend_run (Fn : List FA → RF) (m : Sg → Rs (List Dat)) (S S1 : Sg) (ds : List Dat) (d : Dat) (o : Own) (h : m S = .ok ds S1) (hr : Fn [.own (.lst ds)] = .ok d [o]) : mLend Fn m S = .ok d S1 := by
  unfold mLend
  rw [h, Rs.bind_ok]
  simp only [hr]
theorem loopC_step (e : ME) (d y : Dat) (ds acc : List Dat) (x z : Slot) (r : Rs (List Dat)) (he : e [x, .dat d] = .ok y [x, .dat d]) (hl : acc.length < lim) (hr : loopC (cgN 1) cYes e [1] ds (acc ++ [y]) [x, .no] = r) : loopC (cgN 1) cYes e [1] (d :: ds) acc [x, z] = r := by
  unfold loopC
  simp only [cgN, List.set_cons_succ, List.set_cons_zero, Rs.of_some, Rs.bind_ok, cYes, Rs.calm_ok, if_true, he, hl, wipeS]
  exact hr
theorem loop_law (Fn : List FA → RF) (L : List Dat → Option (List Dat)) (ns : List Int) (hF : ∀ k : Nat, k ≤ 3 → ∃ ds o, L [.ro (ns.map .int), .int (k : Int)] = some ds ∧ Fn [.own (.lst ds)] = .ok (.bl true) [o]) : ∀ (ks : List Nat) (acc : List Dat) (x : Slot), (∀ k, k ∈ ks → k ≤ 3) → acc.length + ks.length ≤ 100 →
    ∃ y, loopC (cgN 1) cYes (mLend Fn (lCall L 2 (vDat (mVar 0) (vDat (mVar 1) (vNil))))) [1] (ks.map fun (k : Nat) => Dat.int (k : Int)) acc [.dat (.ro (ns.map .int)), x] = .ok (acc ++ List.replicate ks.length (.bl true)) [.dat (.ro (ns.map .int)), y]
  | [], acc, x, _, _ => ⟨x, by simp [loopC]⟩
  | k :: ks, acc, x, h, hl => by
    rw [List.length_cons] at hl
    obtain ⟨ds, o, hs, hr⟩ := hF k (h k (List.mem_cons_self ..))
    obtain ⟨y, e⟩ := loop_law Fn L ns hF ks (acc ++ [.bl true]) .no (fun z hz => h z (List.mem_cons_of_mem _ hz)) (by rw [List.length_append]; simp only [List.length_cons, List.length_nil]; omega)
    refine ⟨y, ?_⟩
    rw [List.map_cons, List.length_cons, List.replicate_succ]
    refine loopC_step _ _ (.bl true) _ acc _ _ _ (lend_run Fn _ _ _ ds (.bl true) o (lc_run L ns k ds hs) hr) (by unfold lim; omega) ?_
    rw [e, List.append_assoc]
    rfl
theorem bools_true : ∀ n : Nat, boolsOf (List.replicate n (.bl true)) = some (List.replicate n true)
  | 0 => rfl
  | n + 1 => by simp [List.replicate_succ, boolsOf, bools_true n]
def upTo (n : Int) : Int := if 1 < (if 4 < n then 4 else n) then (if 4 < n then 4 else n) else 1
theorem upTo0 (n : Int) : 0 ≤ upTo n := by unfold upTo; split <;> (try split) <;> omega
theorem upTo4 (n : Int) : upTo n ≤ 4 := by unfold upTo; split <;> (try split) <;> omega
theorem range_run {m : Nat} (h : m ≤ 4) : range1 [.int (m : Int)] = some ((List.range m).map fun (k : Nat) => Dat.int (k : Int)) := by
  have e : range1 [.int (m : Int)] = some ((List.range (m : Int).toNat).map fun (k : Nat) => Dat.int (0 + (k : Int))) := by
    unfold range1
    dsimp only
    rw [if_pos (by omega)]
  rw [e, Int.toNat_natCast]
  have f : (fun (k : Nat) => Dat.int (0 + (k : Int))) = fun (k : Nat) => Dat.int (k : Int) := by
    funext k
    rw [Int.zero_add]
  rw [f]
theorem it_run (ns : List Int) : (mCons (mCall maxC (mCons (mC (.int 1)) (mCons (mCall minC (mCons (mCall lenC (mCons (mVar 0) (mNil))) (mCons (mC (.int 4)) (mNil)))) (mNil)))) (mNil)) [.dat (.ro (ns.map .int)), .no] = .ok [.int (upTo ns.length)] [.dat (.ro (ns.map .int)), .no] := by
  have e : lenC [.ro (ns.map .int)] = some (.int ns.length) := by
    show some (Dat.int ((ns.map Dat.int).length : Nat)) = _
    rw [List.length_map]
  have v : mVar 0 [.dat (.ro (ns.map .int)), .no] = .ok (.ro (ns.map .int)) [.dat (.ro (ns.map .int)), .no] := rfl
  simp only [r_cons, r_call, r_nil, r_C, v, kc_ok, kc2_ok, kf_ok, e, Rs.of_some, min_run, max_run]
  rfl
theorem law_good (ns : List Int) : F_law [.dat (.ro (ns.map .int))] = .ok (.bl true) [] := by
  obtain ⟨m, hm⟩ : ∃ m : Nat, upTo ns.length = (m : Int) := ⟨(upTo ns.length).toNat, (Int.toNat_of_nonneg (upTo0 _)).symm⟩
  have hm4 : m ≤ 4 := by
    have := upTo4 ns.length
    omega
  have rg := range_run hm4
  obtain ⟨y, lp⟩ := loop_law F_l_right F_l_rng ns (fun k hk => by
    obtain ⟨s, hs⟩ := rng_run ns k hk
    obtain ⟨s', hr⟩ := right_run s
    exact ⟨_, _, hs, hr⟩) (List.range m) [] .no (fun k hk => by have := List.mem_range.mp hk; omega) (by simp; omega)
  rw [List.length_range, List.nil_append] at lp
  have it := it_run ns
  rw [hm] at it
  have lc : mLc (mIts range1 (mCons (mCall maxC (mCons (mC (.int 1)) (mCons (mCall minC (mCons (mCall lenC (mCons (mVar 0) (mNil))) (mCons (mC (.int 4)) (mNil)))) (mNil)))) (mNil))) (cgN 1) (cYes) (mLend F_l_right (lCall F_l_rng 2 (vDat (mVar 0) (vDat (mVar 1) (vNil))))) [1] [.dat (.ro (ns.map .int)), .no] = .ok (.lst (List.replicate m (.bl true))) [.dat (.ro (ns.map .int)), y] := by
    unfold mLc
    rw [r_its, it, ofK_ok, rg, Rs.of_some, Rs.bind_ok]
    simp only [wipeS, List.set_cons_succ, List.set_cons_zero]
    rw [lp, Rs.bind_ok]
  have al : allC [.lst (List.replicate m (.bl true))] = some (.bl true) := by
    simp [allC, bools_true]
  have e : F_law [.dat (.ro (ns.map .int))] = endF 0 (m_law [.dat (.ro (ns.map .int)), .no]) := by
    unfold F_law runDef
    exact if_pos (List.length_singleton)
  rw [e]
  unfold m_law
  rw [r_ret, r_call, r_cons, lc, kc_ok, r_nil, kc2_ok, kf_ok, al, Rs.of_some, retK_ok]
  rfl
end K31

open PySem in
theorem PySem.Challenge.cw_dueways_k31_stretches_holds : PySem.Challenge.rw_dueways_k31_stretches.Holds := by
  exact K31.closed fun ns _ => K31.law_good ns
