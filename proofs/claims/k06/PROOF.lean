import PyProof.Rows.All
import Wide.All
import OpenK.AllK
import Wide.FinOn
import HandS.ForMost
import HandS.Exc
import HandS.ExcOwn
import HandS.TryOnly
import HandS.WordsExc
import HandS.TupAny
import HandS.Zip
import HandS.Flow
import KE.SortData
import KE.DataCmp
import HandS.IsInst
import HandS.Defaults
import HandS.Head0
import HandS.Head1
import HandS.Head2
import HandS.HeadEnd
import HandS.HeadHook1
import HandS.HeadHook2
import KE.GoesComp
import KE.KAsSuite
import HandS.Text
import HandS.More
import HandS.ExcIs
import PyProof.P3In
import PySem.Challenge.RW_twigstore_k06_boxes_as_texts
import KE.IntTextText
set_option Elab.async false
set_option linter.all false
set_option maxRecDepth 100000
/-! The data layer: tuples (and locked lists) as values, changing objects in a store of their own. -/
namespace Dl
open PySem PySem.Spec PyProof.Rows L2

/-- data: a tuple and a locked list are values here -/
inductive D where
  | non | bl (b : Bool) | int (i : Int) | str (x : Str) | ty (n : String) | ref (a : Addr)
  | tup (xs : List D) | fzl (xs : List D)
  /-- a tuple of the written part -/
  | fzt (xs : List D)

mutual
def Rep (K : PySem.W.Frag) (H : Hp) : D → V → Prop
  | .non, v => v = .non
  | .bl b, v => v = .bl b
  | .int i, v => v = .int i
  | .str x, v => v = .str x
  | .ty n, v => v = .ty n
  | .ref a, v => v = .ref a
  | .tup ds, v => ∃ p xs, v = .ref p ∧ H p = some (.tup xs) ∧ Reps K H ds xs
  | .fzt ds, v => ∃ p xs, v = .ref p ∧ SqT K (fun _ => none) p xs ∧ Reps K H ds xs
  | .fzl ds, v => ∃ p xs, v = .ref p ∧ ((∃ o, H p = some (.frz o (.lst xs))) ∨ (SqL K (fun _ => none) p xs)) ∧ Reps K H ds xs
def Reps (K : PySem.W.Frag) (H : Hp) : List D → List V → Prop
  | [], xs => xs = []
  | d :: ds, xs => ∃ v vs, xs = v :: vs ∧ Rep K H d v ∧ Reps K H ds vs
end

/-- what stays for ever: tuples, locked tuples, locked lists -/
structure Pers (H H' : Hp) : Prop where
  t : ∀ b xs, H b = some (.tup xs) → H' b = some (.tup xs)
  ft : ∀ b o xs, H b = some (.frz o (.tup xs)) → H' b = some (.frz o (.tup xs))
  fl : ∀ b o xs, H b = some (.frz o (.lst xs)) → H' b = some (.frz o (.lst xs))
theorem Pers.refl (H : Hp) : Pers H H := ⟨fun _ _ h => h, fun _ _ _ h => h, fun _ _ _ h => h⟩
theorem Pers.trans {H H1 H2 : Hp} (a : Pers H H1) (b : Pers H1 H2) : Pers H H2 :=
  ⟨fun x y h => b.t x y (a.t x y h), fun x y z h => b.ft x y z (a.ft x y z h), fun x y z h => b.fl x y z (a.fl x y z h)⟩
theorem Pers.new {H : Hp} {p : Addr} {o : HO} (h : H p = none) : Pers H (upd H p o) :=
  ⟨fun b xs e => by rw [upd_ne (ne_of_none e h)]; exact e, fun b u xs e => by rw [upd_ne (ne_of_none e h)]; exact e, fun b u xs e => by rw [upd_ne (ne_of_none e h)]; exact e⟩
/-- an object that may change is changed -/
theorem Pers.chg {H : Hp} {p : Addr} {u o : HO} (h : H p = some u) (h1 : ∀ xs, u ≠ .tup xs) (h2 : ∀ o x, u ≠ .frz o x) : Pers H (upd H p o) :=
  ⟨fun b xs e => by rw [upd_ne (ne_of e h (fun z => h1 xs z.symm))]; exact e, fun b u xs e => by rw [upd_ne (ne_of e h (fun z => h2 _ _ z.symm))]; exact e, fun b u xs e => by rw [upd_ne (ne_of e h (fun z => h2 _ _ z.symm))]; exact e⟩

theorem Pers.sqt {K : PySem.W.Frag} {H H' : Hp} {a : Addr} {xs : List V} (p : Pers H H') (h : SqT K H a xs) : SqT K H' a xs := by
  rcases h with (h | ⟨o, h⟩) | h
  · exact .inl (.inl (p.t _ _ h))
  · exact .inl (.inr ⟨o, p.ft _ _ _ h⟩)
  · exact .inr h
mutual
theorem Rep.mono {K : PySem.W.Frag} {H H' : Hp} (p : Pers H H') : ∀ (d : D) (v : V), Rep K H d v → Rep K H' d v
  | .non, v, h => h
  | .bl b, v, h => h
  | .int i, v, h => h
  | .str x, v, h => h
  | .ty n, v, h => h
  | .ref a, v, h => h
  | .tup ds, v, h => by
    simp only [Rep] at h ⊢
    obtain ⟨q, xs, e, s, r⟩ := h
    exact ⟨q, xs, e, p.t _ _ s, Reps.mono p ds xs r⟩
  | .fzt ds, v, h => by
    simp only [Rep] at h ⊢
    obtain ⟨q, xs, e, s, r⟩ := h
    exact ⟨q, xs, e, s, Reps.mono p ds xs r⟩
  | .fzl ds, v, h => by
    simp only [Rep] at h ⊢
    obtain ⟨q, xs, e, s, r⟩ := h
    refine ⟨q, xs, e, ?_, Reps.mono p ds xs r⟩
    rcases s with ⟨o, s⟩ | s
    · exact .inl ⟨o, p.fl _ _ _ s⟩
    · exact .inr s
theorem Reps.mono {K : PySem.W.Frag} {H H' : Hp} (p : Pers H H') : ∀ (ds : List D) (vs : List V), Reps K H ds vs → Reps K H' ds vs
  | [], vs, h => h
  | d :: ds, vs, h => by
    simp only [Reps] at h ⊢
    obtain ⟨v, r, e, a, b⟩ := h
    exact ⟨v, r, e, Rep.mono p d v a, Reps.mono p ds r b⟩
end
section
variable {K : PySem.W.Frag} {H H' : Hp}
theorem reps_nil : Reps K H [] [] := by simp only [Reps]
theorem reps_cons {d : D} {ds : List D} {v : V} {vs : List V} (a : Rep K H d v) (b : Reps K H ds vs) : Reps K H (d :: ds) (v :: vs) := by
  simp only [Reps]; exact ⟨v, vs, rfl, a, b⟩
theorem reps_cons_inv {d : D} {ds : List D} {vs : List V} (h : Reps K H (d :: ds) vs) : ∃ v r, vs = v :: r ∧ Rep K H d v ∧ Reps K H ds r := by
  simp only [Reps] at h; exact h
theorem reps_nil_inv {vs : List V} (h : Reps K H [] vs) : vs = [] := by simp only [Reps] at h; exact h
theorem Reps.len : ∀ {ds : List D} {vs : List V}, Reps K H ds vs → vs.length = ds.length
  | [], vs, h => by rw [reps_nil_inv h]; rfl
  | d :: ds, vs, h => by
    obtain ⟨v, r, rfl, _, b⟩ := reps_cons_inv h
    rw [List.length_cons, List.length_cons, Reps.len b]
theorem Reps.app : ∀ {ds es : List D} {vs ws : List V}, Reps K H ds vs → Reps K H es ws → Reps K H (ds ++ es) (vs ++ ws)
  | [], es, vs, ws, h, g => by rw [reps_nil_inv h]; exact g
  | d :: ds, es, vs, ws, h, g => by
    obtain ⟨v, r, rfl, a, b⟩ := reps_cons_inv h
    exact reps_cons a (Reps.app b g)
theorem Reps.get : ∀ {ds : List D} {vs : List V} (i : Nat) {d : D}, Reps K H ds vs → ds[i]? = some d → ∃ v, vs[i]? = some v ∧ Rep K H d v
  | [], _, i, _, _, e => by simp at e
  | d :: ds, vs, 0, d', h, e => by
    obtain ⟨v, r, rfl, a, b⟩ := reps_cons_inv h
    simp at e; subst e
    exact ⟨v, rfl, a⟩
  | d :: ds, vs, i + 1, d', h, e => by
    obtain ⟨v, r, rfl, a, b⟩ := reps_cons_inv h
    obtain ⟨w, g, q⟩ := Reps.get i b (by simpa using e)
    exact ⟨w, by simpa using g, q⟩
theorem Reps.get' : ∀ {ds : List D} {vs : List V} (i : Nat) {v : V}, Reps K H ds vs → vs[i]? = some v → ∃ d, ds[i]? = some d ∧ Rep K H d v
  | [], vs, i, v, h, e => by rw [reps_nil_inv h] at e; simp at e
  | d :: ds, vs, 0, v', h, e => by
    obtain ⟨v, r, rfl, a, b⟩ := reps_cons_inv h
    simp at e; subst e
    exact ⟨d, rfl, a⟩
  | d :: ds, vs, i + 1, v', h, e => by
    obtain ⟨v, r, rfl, a, b⟩ := reps_cons_inv h
    obtain ⟨w, g, q⟩ := Reps.get' i b (by simpa using e)
    exact ⟨w, by simpa using g, q⟩
theorem Reps.drop : ∀ {ds : List D} {vs : List V} (n : Nat), Reps K H ds vs → Reps K H (ds.drop n) (vs.drop n)
  | ds, vs, 0, h => by simpa using h
  | [], vs, n + 1, h => by rw [reps_nil_inv h]; simpa using reps_nil
  | d :: ds, vs, n + 1, h => by
    obtain ⟨v, r, rfl, a, b⟩ := reps_cons_inv h
    simpa using Reps.drop n b
theorem Reps.take : ∀ {ds : List D} {vs : List V} (n : Nat), Reps K H ds vs → Reps K H (ds.take n) (vs.take n)
  | ds, vs, 0, h => by simpa using reps_nil
  | [], vs, n + 1, h => by rw [reps_nil_inv h]; simpa using reps_nil
  | d :: ds, vs, n + 1, h => by
    obtain ⟨v, r, rfl, a, b⟩ := reps_cons_inv h
    simpa using reps_cons a (Reps.take n b)
theorem Reps.set : ∀ {ds : List D} {vs : List V} (i : Nat) {d : D} {v : V}, Reps K H ds vs → Rep K H d v → Reps K H (ds.set i d) (vs.set i v)
  | [], vs, i, _, _, h, _ => by rw [reps_nil_inv h]; simpa using reps_nil
  | d :: ds, vs, 0, _, _, h, g => by
    obtain ⟨v, r, rfl, a, b⟩ := reps_cons_inv h
    simpa using reps_cons g b
  | d :: ds, vs, i + 1, _, _, h, g => by
    obtain ⟨v, r, rfl, a, b⟩ := reps_cons_inv h
    simpa using reps_cons a (Reps.set i b g)
theorem reps_ints : ∀ (ns : List Int), Reps K H (ns.map D.int) (ns.map V.int)
  | [] => reps_nil
  | n :: ns => reps_cons (by simp only [Rep]) (reps_ints ns)
theorem reps_ints_inv : ∀ {ns : List Int} {vs : List V}, Reps K H (ns.map D.int) vs → vs = ns.map V.int
  | [], vs, h => reps_nil_inv h
  | n :: ns, vs, h => by
    obtain ⟨v, r, rfl, a, b⟩ := reps_cons_inv h
    simp only [Rep] at a
    rw [a, reps_ints_inv b]; rfl
theorem reps_bls_inv : ∀ {ns : List Bool} {vs : List V}, Reps K H (ns.map D.bl) vs → vs = ns.map V.bl
  | [], vs, h => reps_nil_inv h
  | n :: ns, vs, h => by
    obtain ⟨v, r, rfl, a, b⟩ := reps_cons_inv h
    simp only [Rep] at a
    rw [a, reps_bls_inv b]; rfl
theorem reps_strs_inv : ∀ {ns : List Str} {vs : List V}, Reps K H (ns.map D.str) vs → vs = ns.map V.str
  | [], vs, h => reps_nil_inv h
  | n :: ns, vs, h => by
    obtain ⟨v, r, rfl, a, b⟩ := reps_cons_inv h
    simp only [Rep] at a
    rw [a, reps_strs_inv b]; rfl
theorem rep_fzl {ds : List D} {v : V} (h : Rep K H (.fzl ds) v) : ∃ p xs, v = .ref p ∧ SqL K H p xs ∧ Reps K H ds xs := by
  simp only [Rep] at h
  obtain ⟨p, xs, e, s, r⟩ := h
  refine ⟨p, xs, e, ?_, r⟩
  rcases s with ⟨o, s⟩ | (s | ⟨o, s⟩) | s
  · exact .inl (.inr ⟨o, s⟩)
  · cases s
  · cases s
  · exact .inr s
theorem rep_tupH {ds : List D} {v : V} (h : Rep K H (.tup ds) v) : ∃ p xs, v = .ref p ∧ H p = some (.tup xs) ∧ Reps K H ds xs := by
  simp only [Rep] at h; exact h
theorem rep_tup {ds : List D} {v : V} (h : Rep K H (.tup ds) v) : ∃ p xs, v = .ref p ∧ SqT K H p xs ∧ Reps K H ds xs := by
  obtain ⟨p, xs, a, b, c⟩ := rep_tupH h
  exact ⟨p, xs, a, SqT.of b, c⟩
theorem rep_fzt {ds : List D} {v : V} (h : Rep K H (.fzt ds) v) : ∃ p xs, v = .ref p ∧ (∀ H, SqT K H p xs) ∧ Reps K H ds xs := by
  simp only [Rep] at h
  obtain ⟨p, xs, a, b, c⟩ := h
  refine ⟨p, xs, a, fun H' => ?_, c⟩
  rcases b with (b | ⟨o, b⟩) | b
  · cases b
  · cases b
  · exact .inr b
theorem rep_tup_mk {ds : List D} {p : Addr} {xs : List V} (s : H p = some (.tup xs)) (r : Reps K H ds xs) : Rep K H (.tup ds) (.ref p) := by
  simp only [Rep]; exact ⟨p, xs, rfl, s, r⟩
end

/-! ### changing objects -/
inductive MO where
  | lst (xs : List D)
  | dK (kvs : List (Key × D))
  | dT (kvs : List (List Key × D))
  | ins (C : Addr) (fs : List (Str × D))
  | xd (fs : List (Str × D))
  /-- an exception of the class cls, its own dict at d -/
  | ev (cls : Value) (d : Option Addr)
  /-- locked while it is walked -/
  | lk (o : MO)
abbrev Mp := Addr → Option MO
def mup (M : Mp) (a : Addr) (o : MO) : Mp := fun b => if b = a then some o else M b
def mdel (M : Mp) (a : Addr) : Mp := fun b => if b = a then none else M b
theorem mup_same {M : Mp} {a : Addr} {o : MO} : mup M a o a = some o := by unfold mup; rw [if_pos rfl]
theorem mup_ne {M : Mp} {a b : Addr} {o : MO} (h : b ≠ a) : mup M a o b = M b := by unfold mup; rw [if_neg h]
theorem mup_mup {M : Mp} {a : Addr} {o u : MO} : mup (mup M a o) a u = mup M a u := by funext b; unfold mup; split <;> rfl
theorem mup_none {M : Mp} {a b : Addr} {o : MO} : (mup M a o b = none) = (b ≠ a ∧ M b = none) := by
  unfold mup
  by_cases h : b = a
  · simp [h]
  · simp [h]
theorem mup_swap {M : Mp} {a b : Addr} {o u : MO} (h : a ≠ b) : mup (mup M a o) b u = mup (mup M b u) a o := by
  funext c; unfold mup
  by_cases h1 : c = a
  · by_cases h2 : c = b
    · exact absurd (h1.symm.trans h2) h
    · simp [h1, h]
  · simp [h1]
theorem mdel_mup {M : Mp} {a : Addr} {o : MO} (h : M a = none) : mdel (mup M a o) a = M := by
  funext b; unfold mdel mup
  by_cases e : b = a
  · simp [e, h]
  · simp [e]
theorem mne {M : Mp} {a b : Addr} {o : MO} (h : M a = some o) (h' : M b = none) : a ≠ b := by
  intro e; subst e; rw [h] at h'; cases h'
/-- all of it stands there as well -/
def Sub (M M' : Mp) : Prop := ∀ a o, M a = some o → M' a = some o
theorem Sub.refl (M : Mp) : Sub M M := fun _ _ h => h
theorem Sub.trans {M M1 M2 : Mp} (a : Sub M M1) (b : Sub M1 M2) : Sub M M2 := fun x o h => b x o (a x o h)
theorem Sub.new {M : Mp} {p : Addr} {o : MO} (h : M p = none) : Sub M (mup M p o) := fun a u e => by rw [mup_ne (mne e h)]; exact e
theorem Sub.free {M M' : Mp} (s : Sub M M') {p : Addr} (h : M' p = none) : M p = none := by
  cases q : M p with
  | none => rfl
  | some o => rw [s p o q] at h; cases h
theorem Sub.up {M M' : Mp} (s : Sub M M') {p : Addr} {o : MO} : Sub (mup M p o) (mup M' p o) := fun a u e => by
  by_cases h : a = p
  · subst h; rw [mup_same] at e ⊢; exact e
  · rw [mup_ne h] at e ⊢; exact s a u e
theorem Sub.upR {M M' : Mp} (s : Sub M M') {p : Addr} {o : MO} (h : M p = none) : Sub M (mup M' p o) := fun a u e => by
  rw [mup_ne (mne e h)]; exact s a u e
theorem Sub.del {M : Mp} {p : Addr} : Sub (mdel M p) M := fun a u e => by
  unfold mdel at e; split at e
  · cases e
  · exact e

def RepF (K : PySem.W.Frag) (H : Hp) : List (Str × D) → List (Str × V) → Prop
  | [], xs => xs = []
  | (k, d) :: r, xs => ∃ v vs, xs = (k, v) :: vs ∧ Rep K H d v ∧ RepF K H r vs
def RepKV {κ : Type} (K : PySem.W.Frag) (H : Hp) : List (κ × D) → List (κ × V) → Prop
  | [], xs => xs = []
  | (k, d) :: r, xs => ∃ v vs, xs = (k, v) :: vs ∧ Rep K H d v ∧ RepKV K H r vs
theorem RepKV.mono {κ : Type} {K : PySem.W.Frag} {H H' : Hp} (p : Pers H H') : ∀ {fs : List (κ × D)} {xs : List (κ × V)}, RepKV K H fs xs → RepKV K H' fs xs
  | [], xs, h => h
  | (k, d) :: r, xs, h => by
    obtain ⟨v, vs, e, a, b⟩ := h
    exact ⟨v, vs, e, Rep.mono p d v a, RepKV.mono p b⟩
theorem RepKV.len {κ : Type} {K : PySem.W.Frag} {H : Hp} : ∀ {fs : List (κ × D)} {xs : List (κ × V)}, RepKV K H fs xs → xs.length = fs.length
  | [], xs, h => by rw [show xs = [] from h]; rfl
  | (k, d) :: r, xs, h => by
    obtain ⟨v, vs, rfl, a, b⟩ := h
    rw [List.length_cons, List.length_cons, RepKV.len b]

/-- an exception that was caught, as a thing that is held -/
def EvO (cls : Value) (d : Option Addr) (a : Addr) : HO := .ext fun h => ∃ (oe : Obj) (vs : Array Value), h.get? a = some oe ∧ L2.Zc cls d oe ∧ oe.data = .fields vs
def MOk (K : PySem.W.Frag) (H : Hp) (a : Addr) : MO → Prop
  | .lst ds => ∃ xs, H a = some (.lst xs) ∧ Reps K H ds xs
  | .dK kvs => ∃ xs, H a = some (.dK xs) ∧ RepKV K H kvs xs
  | .dT kvs => ∃ xs, H a = some (.dT xs) ∧ RepKV K H kvs xs
  | .ins C fs => ∃ dx xs, H a = some (.ins C dx xs) ∧ RepKV K H fs xs
  | .xd fs => ∃ xs, H a = some (.xd xs) ∧ RepKV K H fs xs
  | .ev cls d => H a = some (EvO cls d a)
  | .lk (.dK kvs) => ∃ o xs, H a = some (.frz o (.dK xs)) ∧ RepKV K H kvs xs
  | .lk (.dT kvs) => ∃ o xs, H a = some (.frz o (.dT xs)) ∧ RepKV K H kvs xs
  | .lk _ => False
def Sm (K : PySem.W.Frag) (M : Mp) (H : Hp) : Prop := ∀ a o, M a = some o → MOk K H a o
section
variable {K : PySem.W.Frag} {H H' : Hp} {M M' : Mp}
theorem MOk.some {a : Addr} {o : MO} (h : MOk K H a o) : ∃ u, H a = some u ∧ (∀ xs, u ≠ .tup xs) ∧ (∀ o xs, u ≠ .frz o (.tup xs)) ∧ (∀ o xs, u ≠ .frz o (.lst xs)) := by
  cases o with
  | lst ds => obtain ⟨xs, e, _⟩ := h; exact ⟨_, e, (by intro _ z; cases z), (by intro _ _ z; cases z), (by intro _ _ z; cases z)⟩
  | dK ds => obtain ⟨xs, e, _⟩ := h; exact ⟨_, e, (by intro _ z; cases z), (by intro _ _ z; cases z), (by intro _ _ z; cases z)⟩
  | dT ds => obtain ⟨xs, e, _⟩ := h; exact ⟨_, e, (by intro _ z; cases z), (by intro _ _ z; cases z), (by intro _ _ z; cases z)⟩
  | ins C ds => obtain ⟨dx, xs, e, _⟩ := h; exact ⟨_, e, (by intro _ z; cases z), (by intro _ _ z; cases z), (by intro _ _ z; cases z)⟩
  | xd ds => obtain ⟨xs, e, _⟩ := h; exact ⟨_, e, (by intro _ z; cases z), (by intro _ _ z; cases z), (by intro _ _ z; cases z)⟩
  | ev c d => exact ⟨_, h, (by intro _ z; cases z), (by intro _ _ z; cases z), (by intro _ _ z; cases z)⟩
  | lk o =>
    cases o with
    | dK ds => obtain ⟨o, xs, e, _⟩ := h; exact ⟨_, e, (by intro _ z; cases z), (by intro _ _ z; injection z with _ z; cases z), (by intro _ _ z; injection z with _ z; cases z)⟩
    | dT ds => obtain ⟨o, xs, e, _⟩ := h; exact ⟨_, e, (by intro _ z; cases z), (by intro _ _ z; injection z with _ z; cases z), (by intro _ _ z; injection z with _ z; cases z)⟩
    | _ => exact (show False from h).elim
theorem Sm.free (s : Sm K M H) {p : Addr} (h : H p = none) : M p = none := by
  cases q : M p with
  | none => rfl
  | some o => obtain ⟨u, e, _⟩ := (s p o q).some; rw [h] at e; cases e
theorem Sm.sub (s : Sm K M' H) (h : Sub M M') : Sm K M H := fun a o e => s a o (h a o e)
/-- the objects stand as they stood, what their parts stand for too -/
theorem MOk.mono {a : Addr} {o : MO} (h : MOk K H a o) (p : Pers H H') (e : H' a = H a) : MOk K H' a o := by
  cases o with
  | lst ds => obtain ⟨xs, q, r⟩ := h; exact ⟨xs, e.trans q, Reps.mono p _ _ r⟩
  | dK ds => obtain ⟨xs, q, r⟩ := h; exact ⟨xs, e.trans q, r.mono p⟩
  | dT ds => obtain ⟨xs, q, r⟩ := h; exact ⟨xs, e.trans q, r.mono p⟩
  | ins C ds => obtain ⟨dx, xs, q, r⟩ := h; exact ⟨dx, xs, e.trans q, r.mono p⟩
  | xd ds => obtain ⟨xs, q, r⟩ := h; exact ⟨xs, e.trans q, r.mono p⟩
  | ev c d => exact e.trans h
  | lk o =>
    cases o with
    | dK ds => obtain ⟨o, xs, q, r⟩ := h; exact ⟨o, xs, e.trans q, r.mono p⟩
    | dT ds => obtain ⟨o, xs, q, r⟩ := h; exact ⟨o, xs, e.trans q, r.mono p⟩
    | _ => exact (show False from h).elim
/-- something new that M doesn't see -/
theorem Sm.new (s : Sm K M H) {p : Addr} {o : HO} (h : H p = none) : Sm K M (upd H p o) := fun a u e => by
  obtain ⟨w, q, _⟩ := (s a u e).some
  exact (s a u e).mono (Pers.new h) (upd_ne (ne_of_none q h))
/-- an object is laid or changed at p -/
theorem Sm.put (s : Sm K M H) {p : Addr} {o : HO} {u : MO} (pr : Pers H (upd H p o)) (h : MOk K (upd H p o) p u) : Sm K (mup M p u) (upd H p o) := fun a w e => by
  by_cases q : a = p
  · subst q; rw [mup_same] at e; cases e; exact h
  · rw [mup_ne q] at e
    exact (s a w e).mono pr (upd_ne q)
end

/-! ### slots -/
abbrev DSt := List (Option D)
def RepS (K : PySem.W.Frag) (H : Hp) : DSt → L2.St → Prop
  | [], σ => σ = []
  | none :: δ, σ => ∃ x r, σ = x :: r ∧ RepS K H δ r
  | some d :: δ, σ => ∃ v r, σ = some v :: r ∧ Rep K H d v ∧ RepS K H δ r
section
variable {K : PySem.W.Frag} {H H' : Hp}
theorem RepS.mono (p : Pers H H') : ∀ {δ : DSt} {σ : L2.St}, RepS K H δ σ → RepS K H' δ σ
  | [], σ, h => h
  | none :: δ, σ, h => by obtain ⟨x, r, e, q⟩ := h; exact ⟨x, r, e, RepS.mono p q⟩
  | some d :: δ, σ, h => by obtain ⟨v, r, e, a, q⟩ := h; exact ⟨v, r, e, Rep.mono p d v a, RepS.mono p q⟩
theorem RepS.get : ∀ {δ : DSt} {σ : L2.St} {i : Nat} {d : D}, RepS K H δ σ → δ[i]? = some (some d) → ∃ v, σ[i]? = some (some v) ∧ Rep K H d v
  | [], σ, i, d, h, e => by simp at e
  | none :: δ, σ, 0, d, h, e => by simp at e
  | some d' :: δ, σ, 0, d, h, e => by
    obtain ⟨v, r, rfl, a, q⟩ := h
    simp at e; subst e
    exact ⟨v, rfl, a⟩
  | none :: δ, σ, i + 1, d, h, e => by
    obtain ⟨x, r, rfl, q⟩ := h
    obtain ⟨v, g, a⟩ := RepS.get (i := i) q (by simpa using e)
    exact ⟨v, by simpa using g, a⟩
  | some d' :: δ, σ, i + 1, d, h, e => by
    obtain ⟨x, r, rfl, _, q⟩ := h
    obtain ⟨v, g, a⟩ := RepS.get (i := i) q (by simpa using e)
    exact ⟨v, by simpa using g, a⟩
theorem RepS.set : ∀ {δ : DSt} {σ : L2.St} (i : Nat) {d : D} {v : V}, RepS K H δ σ → Rep K H d v → RepS K H (δ.set i (some d)) (σ.set i (some v))
  | [], σ, i, d, v, h, _ => by rw [show σ = [] from h]; simp [RepS]
  | none :: δ, σ, 0, d, v, h, g => by obtain ⟨x, r, rfl, q⟩ := h; exact ⟨v, r, rfl, g, q⟩
  | some d' :: δ, σ, 0, d, v, h, g => by obtain ⟨x, r, rfl, _, q⟩ := h; exact ⟨v, r, rfl, g, q⟩
  | none :: δ, σ, i + 1, d, v, h, g => by obtain ⟨x, r, rfl, q⟩ := h; exact ⟨x, r.set i (some v), by simp, RepS.set i q g⟩
  | some d' :: δ, σ, i + 1, d, v, h, g => by obtain ⟨x, r, rfl, a, q⟩ := h; exact ⟨x, r.set i (some v), by simp, a, RepS.set i q g⟩
theorem RepS.unset : ∀ {δ : DSt} {σ : L2.St} (i : Nat) {x : Option V}, RepS K H δ σ → RepS K H (δ.set i none) (σ.set i x)
  | [], σ, i, x, h => by rw [show σ = [] from h]; simp [RepS]
  | none :: δ, σ, 0, w, h => by obtain ⟨x, r, rfl, q⟩ := h; exact ⟨w, r, rfl, q⟩
  | some d' :: δ, σ, 0, w, h => by obtain ⟨x, r, rfl, _, q⟩ := h; exact ⟨w, r, rfl, q⟩
  | none :: δ, σ, i + 1, w, h => by obtain ⟨x, r, rfl, q⟩ := h; exact ⟨x, r.set i w, by simp, RepS.unset i q⟩
  | some d' :: δ, σ, i + 1, w, h => by obtain ⟨x, r, rfl, a, q⟩ := h; exact ⟨x, r.set i w, by simp, a, RepS.unset i q⟩
theorem RepS.nones : ∀ (n : Nat) (σ : L2.St), σ.length = n → RepS K H (List.replicate n none) σ
  | 0, σ, h => by rw [List.eq_nil_of_length_eq_zero h]; simp [RepS]
  | n + 1, [], h => by simp at h
  | n + 1, x :: r, h => by
    rw [List.replicate_succ]
    exact ⟨x, r, rfl, RepS.nones n r (by simpa using h)⟩
theorem RepS.app : ∀ {δ δ' : DSt} {σ σ' : L2.St}, RepS K H δ σ → RepS K H δ' σ' → RepS K H (δ ++ δ') (σ ++ σ')
  | [], δ', σ, σ', h, g => by rw [show σ = [] from h]; exact g
  | none :: δ, δ', σ, σ', h, g => by obtain ⟨x, r, rfl, q⟩ := h; exact ⟨x, r ++ σ', rfl, RepS.app q g⟩
  | some d :: δ, δ', σ, σ', h, g => by obtain ⟨x, r, rfl, a, q⟩ := h; exact ⟨x, r ++ σ', rfl, a, RepS.app q g⟩
theorem RepS.of : ∀ {ds : List D} {vs : List V}, Reps K H ds vs → RepS K H (ds.map some) (vs.map some)
  | [], vs, h => by rw [reps_nil_inv h]; simp [RepS]
  | d :: ds, vs, h => by
    obtain ⟨v, r, rfl, a, b⟩ := reps_cons_inv h
    exact ⟨v, r.map some, rfl, a, RepS.of b⟩
theorem RepS.len : ∀ {δ : DSt} {σ : L2.St}, RepS K H δ σ → σ.length = δ.length
  | [], σ, h => by rw [show σ = [] from h]; rfl
  | none :: δ, σ, h => by obtain ⟨x, r, rfl, q⟩ := h; rw [List.length_cons, List.length_cons, RepS.len q]
  | some d :: δ, σ, h => by obtain ⟨x, r, rfl, _, q⟩ := h; rw [List.length_cons, List.length_cons, RepS.len q]
end
def startD : List Str → List D → DSt
  | [], _ => []
  | _ :: N, [] => none :: startD N []
  | _ :: N, d :: ds => some d :: startD N ds
theorem startD_nil : ∀ N : List Str, startD N [] = List.replicate N.length none
  | [] => rfl
  | _ :: N => by simp only [startD, startD_nil N, List.length_cons, List.replicate_succ]
theorem startD_eq : ∀ {N : List Str} {ds : List D}, ds.length ≤ N.length → startD N ds = ds.map some ++ List.replicate (N.length - ds.length) none
  | [], [], _ => rfl
  | [], d :: ds, h => absurd h (by simp)
  | n :: N, [], _ => by rw [startD_nil]; rfl
  | n :: N, d :: ds, h => by
    have := startD_eq (N := N) (ds := ds) (by simpa using h)
    simp only [startD, this, List.map_cons, List.length_cons, List.cons_append, Nat.add_sub_add_right]
end Dl
/-! Readings over data, and how they lie over the layer's readings. -/
namespace Dl
open PySem PySem.Spec PyProof.Rows L2

abbrev DK := D → Mp → Prop
abbrev RE := DSt → Mp → DK → Prop
abbrev RT := DSt → Mp → (Bool → Mp → Prop) → Prop
abbrev RA := DSt → Mp → (List D → Mp → Prop) → Prop
abbrev RG := D → DSt → Mp → (DSt → Mp → Prop) → Prop
abbrev RGs := List D → DSt → Mp → (DSt → Mp → Prop) → Prop
abbrev RO := DSt → Mp → (Option Int → Mp → Prop) → Prop
/-- what is walked: what must stay, the items -/
abbrev RI := DSt → Mp → ((Mp → Prop) → List D → Mp → Prop) → Prop
structure DEnds where
  nx : DSt → Mp → Prop
  rt : DK
  bk : DSt → Mp → Prop := fun _ _ => False
  ct : DSt → Mp → Prop := fun _ _ => False
abbrev RS := DEnds → DSt → Mp → Prop
/-- an exception: its class, its own dict's fields where it has one -/
abbrev DX := Value → Option (List (Str × D)) → Mp → Prop

/-- from a wish over data to one over the layer -/
def Wk (K : PySem.W.Frag) (H : Hp) (QD : DK) (Q : VK) : Prop := ∀ d M' v H', QD d M' → Rep K H' d v → Sm K M' H' → Pers H H' → Q v H'
def WkB (K : PySem.W.Frag) (H : Hp) (QD : Bool → Mp → Prop) (Q : Bool → Hp → Prop) : Prop := ∀ b M' H', QD b M' → Sm K M' H' → Pers H H' → Q b H'
def WkL (K : PySem.W.Frag) (H : Hp) (QD : List D → Mp → Prop) (Q : List V → Hp → Prop) : Prop := ∀ ds M' vs H', QD ds M' → Reps K H' ds vs → Sm K M' H' → Pers H H' → Q vs H'
def WkS (K : PySem.W.Frag) (H : Hp) (QD : DSt → Mp → Prop) (Q : L2.St → Hp → Prop) : Prop := ∀ δ M' σ H', QD δ M' → RepS K H' δ σ → Sm K M' H' → Pers H H' → Q σ H'
def WkO (K : PySem.W.Frag) (H : Hp) (QD : Option Int → Mp → Prop) (Q : Option Int → Hp → Prop) : Prop := ∀ i M' H', QD i M' → Sm K M' H' → Pers H H' → Q i H'
def Xd (K : PySem.W.Frag) (H : Hp) (fs : Option (List (Str × D))) (d : Option Addr) : Prop := match fs with
  | none => d = none
  | some fs => ∃ a xs, d = some a ∧ H a = some (.xd xs) ∧ RepKV K H fs xs
def WkX (K : PySem.W.Frag) (H : Hp) (ED : DX) (E : XK) : Prop := ∀ cls fs M' d H', ED cls fs M' → Xd K H' fs d → Sm K M' H' → Pers H H' → E cls d H'
theorem Wk.on {K : PySem.W.Frag} {H H1 : Hp} {QD : DK} {Q : VK} (w : Wk K H QD Q) (p : Pers H H1) : Wk K H1 QD Q := fun d M' v H' a b c e => w d M' v H' a b c (p.trans e)
theorem WkB.on {K : PySem.W.Frag} {H H1 : Hp} {QD : Bool → Mp → Prop} {Q : Bool → Hp → Prop} (w : WkB K H QD Q) (p : Pers H H1) : WkB K H1 QD Q := fun d M' H' a c e => w d M' H' a c (p.trans e)
theorem WkL.on {K : PySem.W.Frag} {H H1 : Hp} {QD : List D → Mp → Prop} {Q : List V → Hp → Prop} (w : WkL K H QD Q) (p : Pers H H1) : WkL K H1 QD Q := fun d M' v H' a b c e => w d M' v H' a b c (p.trans e)
theorem WkS.on {K : PySem.W.Frag} {H H1 : Hp} {QD : DSt → Mp → Prop} {Q : L2.St → Hp → Prop} (w : WkS K H QD Q) (p : Pers H H1) : WkS K H1 QD Q := fun d M' v H' a b c e => w d M' v H' a b c (p.trans e)
theorem WkO.on {K : PySem.W.Frag} {H H1 : Hp} {QD : Option Int → Mp → Prop} {Q : Option Int → Hp → Prop} (w : WkO K H QD Q) (p : Pers H H1) : WkO K H1 QD Q := fun d M' H' a c e => w d M' H' a c (p.trans e)
theorem WkX.on {K : PySem.W.Frag} {H H1 : Hp} {QD : DX} {Q : XK} (w : WkX K H QD Q) (p : Pers H H1) : WkX K H1 QD Q := fun a b c d e f g h i => w a b c d e f g h (p.trans i)

structure Imp (K : PySem.W.Frag) (H : Hp) (E : DEnds) (D : Ends) : Prop where
  nx : WkS K H E.nx D.nx
  rt : Wk K H E.rt D.rt
  bk : WkS K H E.bk D.bk
  ct : WkS K H E.ct D.ct
theorem Imp.on {K : PySem.W.Frag} {H H1 : Hp} {E : DEnds} {D : Ends} (w : Imp K H E D) (p : Pers H H1) : Imp K H1 E D := ⟨w.nx.on p, w.rt.on p, w.bk.on p, w.ct.on p⟩

def lE (K : PySem.W.Frag) (t : RE) : TE := fun σ H Q => ∃ δ M QD, RepS K H δ σ ∧ Sm K M H ∧ t δ M QD ∧ Wk K H QD Q
def lT (K : PySem.W.Frag) (t : RT) : TT := fun σ H Q => ∃ δ M QD, RepS K H δ σ ∧ Sm K M H ∧ t δ M QD ∧ WkB K H QD Q
def lA (K : PySem.W.Frag) (t : RA) : TA := fun σ H Q => ∃ δ M QD, RepS K H δ σ ∧ Sm K M H ∧ t δ M QD ∧ WkL K H QD Q
def lO (K : PySem.W.Frag) (t : RO) : TO := fun σ H Q => ∃ δ M QD, RepS K H δ σ ∧ Sm K M H ∧ t δ M QD ∧ WkO K H QD Q
def lS (K : PySem.W.Frag) (t : RS) : TS := fun D σ H => ∃ δ M E, RepS K H δ σ ∧ Sm K M H ∧ t E δ M ∧ Imp K H E D
def lG (K : PySem.W.Frag) (g : RG) : TG := fun v σ H Q => ∃ d δ M QD, Rep K H d v ∧ RepS K H δ σ ∧ Sm K M H ∧ g d δ M QD ∧ WkS K H QD Q
def lGs (K : PySem.W.Frag) (g : RGs) : TGs := fun vs σ H Q => ∃ ds δ M QD, Reps K H ds vs ∧ RepS K H δ σ ∧ Sm K M H ∧ g ds δ M QD ∧ WkS K H QD Q

/-! ### weaker readings -/
section
variable {X : Cx} {e : Expr} {es : List Expr} {st : Stmt} {sts : List Stmt}
theorem PE.wk {t t' : TE} (h : PE X e t) (k : ∀ σ H Q, t' σ H Q → t σ H Q) : PE X e t' := ⟨fun pins s σ H Q I w => h.run pins s σ H Q I (k _ _ _ w)⟩
theorem PT.wk {t t' : TT} (h : PT X e t) (k : ∀ σ H Q, t' σ H Q → t σ H Q) : PT X e t' := ⟨fun pins s σ H Q I w => h.run pins s σ H Q I (k _ _ _ w)⟩
theorem PW.wk {t t' : TT} (h : PW X e t) (k : ∀ σ H Q, t' σ H Q → t σ H Q) : PW X e t' := ⟨fun wh pins s σ H Q I w => h.run wh pins s σ H Q I (k _ _ _ w)⟩
theorem PA.wk {t t' : TA} (h : PA X es t) (k : ∀ σ H Q, t' σ H Q → t σ H Q) : PA X es t' := ⟨fun pos pins s σ H Q I w => h.run pos pins s σ H Q I (k _ _ _ w)⟩
theorem PS.wk {t t' : TS} (h : PS X st t) (k : ∀ D σ H, t' D σ H → t D σ H) : PS X st t' := ⟨fun pins s σ H D I w => h.run pins s σ H D I (k _ _ _ w)⟩
theorem PSs.wk {t t' : TS} (h : PSs X sts t) (k : ∀ D σ H, t' D σ H → t D σ H) : PSs X sts t' := ⟨fun pins s σ H D I w => h.run pins s σ H D I (k _ _ _ w)⟩
theorem PG.wk {t t' : TG} (h : PG X e t) (k : ∀ v σ H Q, t' v σ H Q → t v σ H Q) : PG X e t' := ⟨fun pins s σ H v u Q I r w => h.run pins s σ H v u Q I r (k _ _ _ _ w)⟩
theorem PGs.wk {t t' : TGs} (h : PGs X es t) (k : ∀ v σ H Q, t' v σ H Q → t v σ H Q) : PGs X es t' := ⟨fun pins s σ H v u Q I r w => h.run pins s σ H v u Q I r (k _ _ _ _ w)⟩
theorem PI.wk {tg : Expr} {t t' : TI} (h : PI X tg e t) (k : ∀ σ H Q, t' σ H Q → t σ H Q) : PI X tg e t' := ⟨fun pins s σ H Q I w => h.run pins s σ H Q I (k _ _ _ w)⟩
end

/-! ### the readings -/
def dVar (i : Nat) : RE := fun δ M Q => match δ[i]? with
  | some (some d) => Q d M
  | _ => False
def dC (d : D) : RE := fun _ M Q => Q d M
def dNil : RA := fun _ M Q => Q [] M
def dCons (t : RE) (r : RA) : RA := fun δ M Q => t δ M fun d M1 => r δ M1 fun ds M2 => Q (d :: ds) M2
def dOp (rd : D → D → Mp → DK → Prop) (ta tb : RE) : RE := fun δ M Q => ta δ M fun x M1 => tb δ M1 fun y M2 => rd x y M2 Q
def dUn (rd : D → Mp → DK → Prop) (ta : RE) : RE := fun δ M Q => ta δ M fun x M1 => rd x M1 Q
def dTup (t : RA) : RE := fun δ M Q => t δ M fun ds M1 => ds.length ≤ 1000 ∧ Q (.tup ds) M1
def dLst (t : RA) : RE := fun δ M Q => t δ M fun ds M1 => ds.length ≤ 1000 ∧ ∀ p, M1 p = none → Q (.ref p) (mup M1 p (.lst ds))
def dCB (rd : List D → Mp → DK → Prop) (t : RA) : RE := fun δ M Q => t δ M fun ds M1 => rd ds M1 Q
def dTest (t : RE) : RT := fun δ M Q => t δ M fun d M1 => match d with
  | .bl b => Q b M1
  | _ => False
def dAnd (t u : RT) : RT := fun δ M Q => t δ M fun c M1 => if c = true then u δ M1 Q else Q false M1
def dOr (t u : RT) : RT := fun δ M Q => t δ M fun c M1 => if c = true then Q true M1 else u δ M1 Q
def dNot (t : RT) : RT := fun δ M Q => t δ M fun c M1 => Q (!c) M1
def dAndV (ta tb : RE) : RE := fun δ M Q => ta δ M fun x M1 => match x with
  | .bl c => if c = true then tb δ M1 Q else Q (.bl false) M1
  | _ => False
def dOrV (ta tb : RE) : RE := fun δ M Q => ta δ M fun x M1 => match x with
  | .bl c => if c = true then Q (.bl true) M1 else tb δ M1 Q
  | _ => False
def dNotV (ta : RE) : RE := fun δ M Q => ta δ M fun x M1 => match x with
  | .bl c => Q (.bl (!c)) M1
  | _ => False
def dIfE (t : RT) (ta tb : RE) : RE := fun δ M Q => t δ M fun c M1 => if c = true then ta δ M1 Q else tb δ M1 Q
def dChain (r r' : D → D → Mp → DK → Prop) (ta tb tc : RE) : RE := fun δ M Q => ta δ M fun x M1 => tb δ M1 fun y M2 => r x y M2 fun z M3 => match z with
  | .bl k => if k = true then tc δ M3 fun u M4 => r' y u M4 Q else Q (.bl false) M3
  | _ => False
def dNext : RS := fun E δ M => E.nx δ M
def dSeq (t u : RS) : RS := fun E δ M => t { E with nx := u E } δ M
def dBreak : RS := fun E δ M => E.bk δ M
def dCont : RS := fun E δ M => E.ct δ M
def dDrop (te : RE) : RS := fun E δ M => te δ M fun _ M1 => E.nx δ M1
def dRet (te : RE) : RS := fun E δ M => te δ M E.rt
def dRetN : RS := fun E _ M => E.rt .non M
def dIf (c : RT) (t u : RS) : RS := fun E δ M => c δ M fun b M1 => if b = true then t E δ M1 else u E δ M1
def dAsg (te : RE) (g : RG) : RS := fun E δ M => te δ M fun x M1 => g x δ M1 E.nx
def dgName (i : Nat) : RG := fun d δ M Q => Q (δ.set i (some d)) M
def dgNil : RGs := fun ds δ M Q => ds = [] ∧ Q δ M
def dgCons (t : RG) (u : RGs) : RGs := fun ds δ M Q => match ds with
  | [] => False
  | d :: r => t d δ M fun δ1 M1 => u r δ1 M1 Q
def dgTup (n : Nat) (t : RGs) : RG := fun d δ M Q => match d with
  | .tup ds => ds.length = n ∧ t ds δ M Q
  | _ => False

/-! ### expressions -/
section
variable {X : Cx} {a b c e : Expr} {es : List Expr} {ta tb tc te : RE} {t : RA} {pos : Pos}
theorem qe_var (i : Nat) {x : Str} {pos : Pos} (hN : X.N[i]? = some x := by rfl) (hv : Vis X.env.scope x := by first | exact Or.inl rfl | exact Or.inr (Or.inl rfl) | exact Or.inr (Or.inr rfl)) (hd : (x == ("__debug__" : Str)) = false := by decide)
    (hcd : (x == ("__classdict__" : Str)) = false := by decide) : PE X (.Name x pos) (lE X.K (dVar i)) := by
  refine PE.wk (pe_var hN hv hd hcd) fun σ H Q ⟨δ, M, QD, r, s, h, w⟩ => ?_
  unfold dVar at h
  split at h
  · rename_i d e
    obtain ⟨v, g, q⟩ := r.get e
    exact ⟨v, g, w d M v H h q s (Pers.refl H)⟩
  · exact h.elim
theorem qe_c {d : D} {v : V} (h : PE X e (tC v)) (r : ∀ H, Rep X.K H d v) : PE X e (lE X.K (dC d)) :=
  PE.wk h fun σ H Q ⟨δ, M, QD, _, s, h, w⟩ => w d M v H h (r H) s (Pers.refl H)
theorem qe_int {i j pos} : PE X (.Constant (.int i) j pos) (lE X.K (dC (.int i))) := qe_c pe_int fun H => by simp only [Rep]
theorem qe_bl {b j pos} : PE X (.Constant (.bool b) j pos) (lE X.K (dC (.bl b))) := qe_c pe_bl fun H => by simp only [Rep]
theorem qe_non {j pos} : PE X (.Constant .none j pos) (lE X.K (dC .non)) := qe_c pe_non fun H => by simp only [Rep]
theorem qe_str {x j pos} : PE X (.Constant (.str x) j pos) (lE X.K (dC (.str x))) := qe_c pe_str fun H => by simp only [Rep]
theorem qa_nil : PA X [] (lA X.K dNil) := PA.wk pa_nil fun σ H Q ⟨δ, M, QD, _, s, h, w⟩ => w [] M [] H h reps_nil s (Pers.refl H)
theorem qa_cons (ha : PE X e (lE X.K te)) (hr : PA X es (lA X.K t)) (hs : starEach (e :: es) X.env = (false, eval e X.env) :: starEach es X.env := by rfl) : PA X (e :: es) (lA X.K (dCons te t)) := by
  refine PA.wk (pa_cons ha hr hs) fun σ H Q ⟨δ, M, QD, r, s, h, w⟩ => ?_
  refine ⟨δ, M, _, r, s, h, fun d M1 v H1 q1 r1 s1 p1 => ?_⟩
  refine ⟨δ, M1, _, r.mono p1, s1, q1, fun ds M2 vs H2 q2 r2 s2 p2 => ?_⟩
  exact w _ _ _ _ q2 (reps_cons (Rep.mono p2 _ _ r1) r2) s2 (p1.trans p2)
theorem line_1000 {n : Nat} (h : n ≤ 1000) : n ≤ sizeLine := Nat.le_trans h (by decide)
theorem line_mil {n : Nat} (h : n ≤ 1000000) : n ≤ sizeLine := Nat.le_trans h (by decide)
theorem qe_tup {x1} (h : PA X es (lA X.K t)) : PE X (.Tuple es x1 pos) (lE X.K (dTup t)) := by
  refine PE.wk (pe_tup h) fun σ H Q ⟨δ, M, QD, r, s, h, w⟩ => ?_
  refine ⟨δ, M, _, r, s, h, fun ds M1 vs H1 q1 r1 s1 p1 => ⟨by rw [r1.len]; exact line_1000 q1.1, fun p hp => ?_⟩⟩
  have pn : Pers H1 (upd H1 p (.tup vs)) := Pers.new hp
  exact w _ _ _ _ q1.2 (rep_tup_mk upd_same (Reps.mono pn _ _ r1)) (s1.new hp) (p1.trans pn)
theorem qe_lst (h : PA X es (lA X.K t)) : PE X (.List es pos) (lE X.K (dLst t)) := by
  refine PE.wk (pe_lst h) fun σ H Q ⟨δ, M, QD, r, s, h, w⟩ => ?_
  refine ⟨δ, M, _, r, s, h, fun ds M1 vs H1 q1 r1 s1 p1 => ⟨by rw [r1.len]; exact line_1000 q1.1, fun p hp => ?_⟩⟩
  have pn : Pers H1 (upd H1 p (.lst vs)) := Pers.new hp
  exact w _ _ _ _ (q1.2 p (s1.free hp)) (by simp only [Rep]) (s1.put pn ⟨vs, upd_same, Reps.mono pn _ _ r1⟩) (p1.trans pn)

/-- a two-place operation over data -/
def lR (K : PySem.W.Frag) (rd : D → D → Mp → DK → Prop) : R2 := fun v u H Q => ∃ x y M QD, Rep K H x v ∧ Rep K H y u ∧ Sm K M H ∧ rd x y M QD ∧ Wk K H QD Q
theorem lOp {rd : D → D → Mp → DK → Prop} {σ : L2.St} {H : Hp} {Q : VK} (h : lE X.K (dOp rd ta tb) σ H Q) : tOp (lR X.K rd) (lE X.K ta) (lE X.K tb) σ H Q := by
  obtain ⟨δ, M, QD, r, s, h, w⟩ := h
  refine ⟨δ, M, _, r, s, h, fun d M1 v H1 q1 r1 s1 p1 => ?_⟩
  refine ⟨δ, M1, _, r.mono p1, s1, q1, fun y M2 u H2 q2 r2 s2 p2 => ?_⟩
  exact ⟨d, y, M2, QD, Rep.mono p2 _ _ r1, r2, s2, q2, w.on (p1.trans p2)⟩
theorem qe_op {op : Operator} {rd : D → D → Mp → DK → Prop} (ho : OpR X (binaryOp op) (lR X.K rd)) (ha : PE X a (lE X.K ta)) (hb : PE X b (lE X.K tb)) : PE X (.BinOp a op b pos) (lE X.K (dOp rd ta tb)) :=
  PE.wk (pe_op ho ha hb) fun σ H Q h => lOp h
theorem qe_cmp {op : CmpOp} {rd : D → D → Mp → DK → Prop} (ho : OpR X (compareOp op) (lR X.K rd)) (ha : PE X a (lE X.K ta)) (hb : PE X b (lE X.K tb)) (hm : behindInMarks op b = false) : PE X (.Compare a [op] [b] pos) (lE X.K (dOp rd ta tb)) :=
  PE.wk (pe_cmpR ho ha hb hm) fun σ H Q h => lOp h
def lU (K : PySem.W.Frag) (rd : D → Mp → DK → Prop) : V → Hp → VK → Prop := fun v H Q => ∃ x M QD, Rep K H x v ∧ Sm K M H ∧ rd x M QD ∧ Wk K H QD Q
theorem qe_un {op : UnaryOp} {rd : D → Mp → DK → Prop} (ho : UnR X (unaryOp op) (lU X.K rd)) (ha : PE X a (lE X.K ta)) : PE X (.UnaryOp op a pos) (lE X.K (dUn rd ta)) := by
  refine PE.wk (pe_un ho ha) fun σ H Q ⟨δ, M, QD, r, s, h, w⟩ => ?_
  exact ⟨δ, M, _, r, s, h, fun d M1 v H1 q1 r1 s1 p1 => ⟨d, M1, QD, r1, s1, q1, w.on p1⟩⟩
def lC (K : PySem.W.Frag) (rd : List D → Mp → DK → Prop) : List V → Hp → VK → Prop := fun vs H Q => ∃ ds M QD, Reps K H ds vs ∧ Sm K M H ∧ rd ds M QD ∧ Wk K H QD Q
theorem lCB {rd : List D → Mp → DK → Prop} {σ : L2.St} {H : Hp} {Q : VK} (h : lE X.K (dCB rd t) σ H Q) : tCB (lC X.K rd) (lA X.K t) σ H Q := by
  obtain ⟨δ, M, QD, r, s, h, w⟩ := h
  exact ⟨δ, M, _, r, s, h, fun ds M1 vs H1 q1 r1 s1 p1 => ⟨ds, M1, QD, r1, s1, q1, w.on p1⟩⟩
theorem qe_callB {x : Str} {id : String} {p : Pos} {rd : List D → Mp → DK → Prop} (hc : CallR X (.builtin id) (lC X.K rd)) (hg : Gl X x) (hm : X.mg x = none) (hv : bootBuiltins x = some (.builtin id)) (ha : PA X (e :: es) (lA X.K t)) (hn : x ≠ "__name__" := by decide) (hdb : (x == ("__debug__" : Str)) = false := by decide)
    (he : starEach (e :: es) X.env = (false, eval e X.env) :: starEach es X.env := by rfl) (hpl : (backTo pos (starEach es X.env)).any (·.1) = false := by rfl) : PE X (.Call (.Name x p) (e :: es) [] pos) (lE X.K (dCB rd t)) :=
  PE.wk (pe_callB hc hg hm hv ha hn hdb he hpl) fun σ H Q h => lCB h
theorem qe_callTy {x : Str} {T : String} {p : Pos} {rd : List D → Mp → DK → Prop} (hc : CallR X (.type T) (lC X.K rd)) (hg : Gl X x) (hm : X.mg x = none) (hv : bootBuiltins x = some (.type T)) (ha : PA X (e :: es) (lA X.K t)) (hn : x ≠ "__name__" := by decide) (hdb : (x == ("__debug__" : Str)) = false := by decide)
    (he : starEach (e :: es) X.env = (false, eval e X.env) :: starEach es X.env := by rfl) (hpl : (backTo pos (starEach es X.env)).any (·.1) = false := by rfl) : PE X (.Call (.Name x p) (e :: es) [] pos) (lE X.K (dCB rd t)) :=
  PE.wk (pe_callTy hc hg hm hv ha hn hdb he hpl) fun σ H Q h => lCB h

/-! ### tests -/
variable {tA tB' : RT} {rest : List Expr}
theorem qt_val (h : PE X e (lE X.K te)) (he : ∀ whole, isTrue e X.env whole = (do let v ← whole; standAt e.pos; holding [v] (truthy v)) := by intro _; rfl) : PT X e (lT X.K (dTest te)) := by
  refine PT.wk (pt_val h he) fun σ H Q ⟨δ, M, QD, r, s, h, w⟩ => ?_
  refine ⟨δ, M, _, r, s, h, fun d M1 v H1 q1 r1 s1 p1 => ?_⟩
  cases d with
  | bl b => simp only [Rep] at r1; exact ⟨b, r1, w b M1 H1 q1 s1 p1⟩
  | _ => exact q1.elim
theorem qt_cmp {op : CmpOp} {rd : D → D → Mp → DK → Prop} (ho : OpR X (compareOp op) (lR X.K rd)) (ha : PE X a (lE X.K ta)) (hb : PE X b (lE X.K tb)) (hm : behindInMarks op b = false) : PT X (.Compare a [op] [b] pos) (lT X.K (dTest (dOp rd ta tb))) := by
  refine PT.wk (pt_cmpR ho ha hb hm) fun σ H Q ⟨δ, M, QD, r, s, h, w⟩ => ?_
  refine lOp (X := X) ⟨δ, M, _, r, s, h, fun d M1 v H1 q1 r1 s1 p1 => ?_⟩
  cases d with
  | bl b => simp only [Rep] at r1; exact ⟨b, r1, w b M1 H1 q1 s1 p1⟩
  | _ => exact q1.elim
theorem lChain {r r' : D → D → Mp → DK → Prop} {σ : L2.St} {H : Hp} {Q : VK} (h : lE X.K (dChain r r' ta tb tc) σ H Q) : tChain (lR X.K r) (lR X.K r') (lE X.K ta) (lE X.K tb) (lE X.K tc) σ H Q := by
  obtain ⟨δ, M, QD, rr, s, h, w⟩ := h
  refine ⟨δ, M, _, rr, s, h, fun x M1 v H1 q1 r1 s1 p1 => ?_⟩
  refine ⟨δ, M1, _, rr.mono p1, s1, q1, fun y M2 u H2 q2 r2 s2 p2 => ?_⟩
  refine ⟨x, y, M2, _, Rep.mono p2 _ _ r1, r2, s2, q2, fun z M3 zv H3 q3 r3 s3 p3 => ?_⟩
  cases z with
  | bl k =>
    simp only [Rep] at r3
    refine ⟨k, r3, ?_⟩
    cases k with
    | true =>
      dsimp only at q3
      rw [if_pos rfl] at q3 ⊢
      refine ⟨δ, M3, _, rr.mono ((p1.trans p2).trans p3), s3, q3, fun z' M4 zu H4 q4 r4 s4 p4 => ?_⟩
      exact ⟨y, z', M4, QD, Rep.mono (p3.trans p4) _ _ r2, r4, s4, q4, w.on (((p1.trans p2).trans p3).trans p4)⟩
    | false =>
      dsimp only at q3
      rw [if_neg Bool.false_ne_true] at q3 ⊢
      exact w _ _ _ _ q3 (by simp only [Rep]) s3 ((p1.trans p2).trans p3)
  | _ => exact q3.elim
theorem qe_chain {op op' : CmpOp} {r r' : D → D → Mp → DK → Prop} (ho : OpR X (compareOp op) (lR X.K r)) (ho' : OpR X (compareOp op') (lR X.K r')) (ha : PE X a (lE X.K ta)) (hb : PE X b (lE X.K tb)) (hc : PE X c (lE X.K tc))
    (hm : lastMarks [op, op'] [b, c] = false := by with_unfolding_all rfl) : PE X (.Compare a [op, op'] [b, c] pos) (lE X.K (dChain r r' ta tb tc)) :=
  PE.wk (pe_chain ho ho' ha hb hc hm) fun σ H Q h => lChain h
theorem qt_chain {op op' : CmpOp} {r r' : D → D → Mp → DK → Prop} (ho : OpR X (compareOp op) (lR X.K r)) (ho' : OpR X (compareOp op') (lR X.K r')) (ha : PE X a (lE X.K ta)) (hb : PE X b (lE X.K tb)) (hc : PE X c (lE X.K tc))
    (hm : lastMarks [op, op'] [b, c] = false := by with_unfolding_all rfl) : PT X (.Compare a [op, op'] [b, c] pos) (lT X.K (dTest (dChain r r' ta tb tc))) := by
  refine PT.wk (pt_chain ho ho' ha hb hc hm) fun σ H Q ⟨δ, M, QD, r, s, h, w⟩ => ?_
  refine lChain (X := X) ⟨δ, M, _, r, s, h, fun d M1 v H1 q1 r1 s1 p1 => ?_⟩
  cases d with
  | bl b => simp only [Rep] at r1; exact ⟨b, r1, w b M1 H1 q1 s1 p1⟩
  | _ => exact q1.elim
theorem qw_and1 (ha : PT X a (lT X.K tA)) : PW X (.BoolOp .And [a] pos) (lT X.K tA) := pw_and1 ha
theorem qw_or1 (ha : PT X a (lT X.K tA)) : PW X (.BoolOp .Or [a] pos) (lT X.K tA) := pw_or1 ha
theorem qw_and (ha : PT X a (lT X.K tA)) (hb : PW X (.BoolOp .And (b :: rest) pos) (lT X.K tB')) : PW X (.BoolOp .And (a :: b :: rest) pos) (lT X.K (dAnd tA tB')) := by
  refine PW.wk (pw_and ha hb) fun σ H Q ⟨δ, M, QD, r, s, h, w⟩ => ?_
  refine ⟨δ, M, _, r, s, h, fun c M1 H1 q1 s1 p1 => ?_⟩
  cases c with
  | true => rw [if_pos rfl] at q1 ⊢; exact ⟨δ, M1, QD, r.mono p1, s1, q1, w.on p1⟩
  | false => rw [if_neg Bool.false_ne_true] at q1 ⊢; exact w _ _ _ q1 s1 p1
theorem qw_or (ha : PT X a (lT X.K tA)) (hb : PW X (.BoolOp .Or (b :: rest) pos) (lT X.K tB')) : PW X (.BoolOp .Or (a :: b :: rest) pos) (lT X.K (dOr tA tB')) := by
  refine PW.wk (pw_or ha hb) fun σ H Q ⟨δ, M, QD, r, s, h, w⟩ => ?_
  refine ⟨δ, M, _, r, s, h, fun c M1 H1 q1 s1 p1 => ?_⟩
  cases c with
  | true => rw [if_pos rfl] at q1 ⊢; exact w _ _ _ q1 s1 p1
  | false => rw [if_neg Bool.false_ne_true] at q1 ⊢; exact ⟨δ, M1, QD, r.mono p1, s1, q1, w.on p1⟩
theorem qt_not (ha : PT X a (lT X.K tA)) : PT X (.UnaryOp .Not a pos) (lT X.K (dNot tA)) := by
  refine PT.wk (pt_not ha) fun σ H Q ⟨δ, M, QD, r, s, h, w⟩ => ?_
  exact ⟨δ, M, _, r, s, h, fun c M1 H1 q1 s1 p1 => w _ _ _ q1 s1 p1⟩
theorem qe_one {op} (h : PE X a (lE X.K ta)) : PE X (.BoolOp op [a] pos) (lE X.K ta) := pe_one h
theorem qe_and (ha : PE X a (lE X.K ta)) (hb : PE X (.BoolOp .And (b :: rest) pos) (lE X.K tb)) : PE X (.BoolOp .And (a :: b :: rest) pos) (lE X.K (dAndV ta tb)) := by
  refine PE.wk (pe_and ha hb) fun σ H Q ⟨δ, M, QD, r, s, h, w⟩ => ?_
  refine ⟨δ, M, _, r, s, h, fun d M1 v H1 q1 r1 s1 p1 => ?_⟩
  cases d with
  | bl c =>
    simp only [Rep] at r1
    refine ⟨c, r1, ?_⟩
    cases c with
    | true => dsimp only at q1; rw [if_pos rfl] at q1 ⊢; exact ⟨δ, M1, QD, r.mono p1, s1, q1, w.on p1⟩
    | false => dsimp only at q1; rw [if_neg Bool.false_ne_true] at q1 ⊢; exact w _ _ _ _ q1 (by simp only [Rep]) s1 p1
  | _ => exact q1.elim
theorem qe_or (ha : PE X a (lE X.K ta)) (hb : PE X (.BoolOp .Or (b :: rest) pos) (lE X.K tb)) : PE X (.BoolOp .Or (a :: b :: rest) pos) (lE X.K (dOrV ta tb)) := by
  refine PE.wk (pe_or ha hb) fun σ H Q ⟨δ, M, QD, r, s, h, w⟩ => ?_
  refine ⟨δ, M, _, r, s, h, fun d M1 v H1 q1 r1 s1 p1 => ?_⟩
  cases d with
  | bl c =>
    simp only [Rep] at r1
    refine ⟨c, r1, ?_⟩
    cases c with
    | true => dsimp only at q1; rw [if_pos rfl] at q1 ⊢; exact w _ _ _ _ q1 (by simp only [Rep]) s1 p1
    | false => dsimp only at q1; rw [if_neg Bool.false_ne_true] at q1 ⊢; exact ⟨δ, M1, QD, r.mono p1, s1, q1, w.on p1⟩
  | _ => exact q1.elim
theorem qe_not (ha : PE X a (lE X.K ta)) : PE X (.UnaryOp .Not a pos) (lE X.K (dNotV ta)) := by
  refine PE.wk (pe_not ha) fun σ H Q ⟨δ, M, QD, r, s, h, w⟩ => ?_
  refine ⟨δ, M, _, r, s, h, fun d M1 v H1 q1 r1 s1 p1 => ?_⟩
  cases d with
  | bl c => simp only [Rep] at r1; exact ⟨c, r1, w _ _ _ _ q1 (by simp only [Rep]) s1 p1⟩
  | _ => exact q1.elim
theorem qe_ifExp (hc : PT X c (lT X.K tA)) (ha : PE X a (lE X.K ta)) (hb : PE X b (lE X.K tb)) : PE X (.IfExp c a b pos) (lE X.K (dIfE tA ta tb)) := by
  refine PE.wk (pe_ifExp hc ha hb) fun σ H Q ⟨δ, M, QD, r, s, h, w⟩ => ?_
  refine ⟨δ, M, _, r, s, h, fun c M1 H1 q1 s1 p1 => ?_⟩
  cases c with
  | true => rw [if_pos rfl] at q1 ⊢; exact ⟨δ, M1, QD, r.mono p1, s1, q1, w.on p1⟩
  | false => rw [if_neg Bool.false_ne_true] at q1 ⊢; exact ⟨δ, M1, QD, r.mono p1, s1, q1, w.on p1⟩
end

/-! ### statements -/
section
variable {X : Cx} {st : Stmt} {rest : List Stmt} {t u : RS} {e : Expr} {te : RE} {pos : Pos}
theorem qss_nil : PSs X [] (lS X.K dNext) := PSs.wk pss_nil fun D σ H ⟨δ, M, E, r, s, h, w⟩ => w.nx _ _ _ _ h r s (Pers.refl H)
theorem qss_cons (h1 : PS X st (lS X.K t)) (h2 : PSs X rest (lS X.K u)) : PSs X (st :: rest) (lS X.K (dSeq t u)) := by
  refine PSs.wk (pss_cons h1 h2) fun D σ H ⟨δ, M, E, r, s, h, w⟩ => ?_
  exact ⟨δ, M, _, r, s, h, ⟨fun δ' M' σ' H' q r' s' p => ⟨δ', M', E, r', s', q, w.on p⟩, w.rt, w.bk, w.ct⟩⟩
theorem qss_one (h1 : PS X st (lS X.K t)) : PSs X [st] (lS X.K t) := pss_one h1
theorem qs_pass : PS X (.Pass pos) (lS X.K dNext) := PS.wk ps_pass fun D σ H ⟨δ, M, E, r, s, h, w⟩ => w.nx _ _ _ _ h r s (Pers.refl H)
theorem qs_break : PS X (.Break pos) (lS X.K dBreak) := PS.wk ps_break fun D σ H ⟨δ, M, E, r, s, h, w⟩ => w.bk _ _ _ _ h r s (Pers.refl H)
theorem qs_continue : PS X (.Continue pos) (lS X.K dCont) := PS.wk ps_continue fun D σ H ⟨δ, M, E, r, s, h, w⟩ => w.ct _ _ _ _ h r s (Pers.refl H)
theorem qs_expr (he : PE X e (lE X.K te)) (hs : swapsWith e none pos.line X.env = pure false := by rfl) : PS X (.Expr e pos) (lS X.K (dDrop te)) := by
  refine PS.wk (ps_expr he hs) fun D σ H ⟨δ, M, E, r, s, h, w⟩ => ?_
  exact ⟨δ, M, _, r, s, h, fun d M1 v H1 q1 r1 s1 p1 => w.nx _ _ _ _ q1 (r.mono p1) s1 p1⟩
theorem qs_ret (he : PE X e (lE X.K te)) : PS X (.Return (some e) pos) (lS X.K (dRet te)) := by
  refine PS.wk (ps_ret he) fun D σ H ⟨δ, M, E, r, s, h, w⟩ => ?_
  exact ⟨δ, M, _, r, s, h, w.rt⟩
theorem qs_retN : PS X (.Return none pos) (lS X.K dRetN) := PS.wk ps_retN fun D σ H ⟨δ, M, E, r, s, h, w⟩ => w.rt _ _ _ _ h (by simp only [Rep]) s (Pers.refl H)
theorem qs_if {c : Expr} {a b : List Stmt} {tc : RT} (hc : PT X c (lT X.K tc)) (ha : PSs X a (lS X.K t)) (hb : PSs X b (lS X.K u)) : PS X (.If c a b pos) (lS X.K (dIf tc t u)) := by
  refine PS.wk (ps_if hc ha hb) fun D σ H ⟨δ, M, E, r, s, h, w⟩ => ?_
  refine ⟨δ, M, _, r, s, h, fun c M1 H1 q1 s1 p1 => ?_⟩
  cases c with
  | true => rw [if_pos rfl] at q1 ⊢; exact ⟨δ, M1, E, r.mono p1, s1, q1, w.on p1⟩
  | false => rw [if_neg Bool.false_ne_true] at q1 ⊢; exact ⟨δ, M1, E, r.mono p1, s1, q1, w.on p1⟩
theorem qg_name (i : Nat) {x : Str} (hN : X.N.Nodup) (hi : X.N[i]? = some x := by rfl) (hx : Loc X.env.scope x := by first | exact Or.inl rfl | exact Or.inr rfl) (hf : X.fn x = true ∨ X.env.scope.names.lookup x = some .local := by first | exact .inl rfl | exact .inr rfl | assumption) : PG X (.Name x pos) (lG X.K (dgName i)) := by
  refine PG.wk (pg_name hN hi hx hf) fun v σ H Q ⟨d, δ, M, QD, rd, r, s, h, w⟩ => ?_
  exact w _ _ _ _ h (r.set i rd) s (Pers.refl H)
theorem qgs_nil : PGs X [] (lGs X.K dgNil) := PGs.wk pgs_nil fun vs σ H Q ⟨ds, δ, M, QD, rd, r, s, h, w⟩ => by
  obtain ⟨rfl, h⟩ := h
  exact ⟨reps_nil_inv rd, w _ _ _ _ h r s (Pers.refl H)⟩
theorem qgs_cons {e : Expr} {es : List Expr} {t : RG} {u : RGs} (h1 : PG X e (lG X.K t)) (h2 : PGs X es (lGs X.K u))
    (hs : (assignEach (e :: es) X.env).map (·.2) = assign e X.env :: (assignEach es X.env).map (·.2) := by rfl) : PGs X (e :: es) (lGs X.K (dgCons t u)) := by
  refine PGs.wk (pgs_cons h1 h2 hs) fun vs σ H Q ⟨ds, δ, M, QD, rd, r, s, h, w⟩ => ?_
  cases ds with
  | nil => exact h.elim
  | cons d ds =>
    obtain ⟨v, vr, rfl, a, b⟩ := reps_cons_inv rd
    refine ⟨v, vr, rfl, d, δ, M, _, a, r, s, h, fun δ1 M1 σ1 H1 q1 r1 s1 p1 => ?_⟩
    exact ⟨ds, δ1, M1, QD, Reps.mono p1 _ _ b, r1, s1, q1, w.on p1⟩
theorem qg_tup {es : List Expr} {k : Nat} {t : RGs} {n : Nat} (hc : X.calm = true) (h : PGs X es (lGs X.K t))
    (hn : (assignEach es X.env).length = n := by rfl) (hst : (assignEach es X.env).findIdx? (·.1) = none := by rfl) : PG X (.Tuple es k pos) (lG X.K (dgTup n t)) := by
  refine PG.wk (pg_tup hc h hn hst) fun v σ H Q ⟨d, δ, M, QD, rd, r, s, h, w⟩ => ?_
  cases d with
  | tup ds =>
    obtain ⟨p, xs, rfl, hs, hr⟩ := rep_tup rd
    exact ⟨p, xs, rfl, hs, by rw [hr.len]; exact h.1, ds, δ, M, QD, hr, r, s, h.2, w⟩
  | _ => exact h.elim
theorem qs_set (i : Nat) {x : Str} {pos' : Pos} (hN : X.N.Nodup) (he : PE X e (lE X.K te)) (hi : X.N[i]? = some x := by rfl) (hx : Loc X.env.scope x := by first | exact Or.inl rfl | exact Or.inr rfl) (hs : swapsWith e (some (.Name x pos')) pos.line X.env = pure false := by rfl) (hf : X.fn x = true ∨ X.env.scope.names.lookup x = some .local := by first | exact .inl rfl | exact .inr rfl | assumption) :
    PS X (.Assign [.Name x pos'] e pos) (lS X.K (dAsg te (dgName i))) := by
  refine PS.wk (ps_set hN hi hx he hs hf) fun D σ H ⟨δ, M, E, r, s, h, w⟩ => ?_
  exact ⟨δ, M, _, r, s, h, fun d M1 v H1 q1 r1 s1 p1 => w.nx _ _ _ _ q1 ((r.mono p1).set i r1) s1 p1⟩
theorem qs_asg {tg : Expr} {g : RG} (he : PE X e (lE X.K te)) (hg : PG X tg (lG X.K g)) (hs : swapsWithSole [tg] e pos.line X.env = pure false := by rfl) (hw : swappedStores [tg] e X.env = pure none := by rfl)
    (h1 : (assignEach [tg] X.env).map (·.2) = [assign tg X.env] := by rfl) : PS X (.Assign [tg] e pos) (lS X.K (dAsg te g)) := by
  refine PS.wk (ps_asg he hg hs hw h1) fun D σ H ⟨δ, M, E, r, s, h, w⟩ => ?_
  exact ⟨δ, M, _, r, s, h, fun d M1 v H1 q1 r1 s1 p1 => ⟨d, δ, M1, _, r1, r.mono p1, s1, q1, w.nx.on p1⟩⟩
end
end Dl
/-! Operators, subscripts, loops, comprehensions, calls over data. -/
namespace Dl
open PySem PySem.Spec PyProof.Rows L2

/-! ### operators -/
def rdII (C : Int → Int → Prop) (g : Int → Int → D) : D → D → Mp → DK → Prop := fun x y M Q => match x, y with
  | .int i, .int j => C i j ∧ Q (g i j) M
  | _, _ => False
def rdI0 (g : Int → Int → D) : D → D → Mp → DK → Prop := fun x y M Q => match x, y with
  | .int i, .int j => Q (g i j) M
  | _, _ => False
/-- a list's items -/
def lstOf (M : Mp) (a : Addr) : Option (List D) := match M a with
  | some (.lst ds) => some ds
  | _ => none
def rdAdd : D → D → Mp → DK → Prop := fun x y M Q => match x with
  | .int i => (match y with
    | .int j => Q (.int (i + j)) M
    | _ => False)
  | .str i => (match y with
    | .str j => i.length + j.length ≤ 1000000 ∧ Q (.str (i ++ j)) M
    | _ => False)
  | .tup i => (match y with
    | .tup j => i.length + j.length ≤ 1000000 ∧ Q (.tup (i ++ j)) M
    | _ => False)
  | .ref a => (match y with
    | .ref b => (match lstOf M a, lstOf M b with
      | some i, some j => i.length + j.length ≤ 1000000 ∧ ∀ p, M p = none → Q (.ref p) (mup M p (.lst (i ++ j)))
      | _, _ => False)
    | _ => False)
  | _ => False
theorem lstOf_some {M : Mp} {a : Addr} {ds : List D} (h : lstOf M a = some ds) : M a = some (.lst ds) := by
  unfold lstOf at h
  split at h
  · rename_i e; cases h; exact e
  · cases h
section
variable {X : Cx} {op : Operator}
theorem q_i0 {f : Value → Value → Sem Value} {g : Int → Int → V} {g' : Int → Int → D} (ho : OpR X f (rI0 g)) (hg : ∀ H i j, Rep X.K H (g' i j) (g i j)) : OpR X f (lR X.K (rdI0 g')) := by
  intro pins s σ H v u vv uu Q I rv ru ⟨x, y, M, QD, rx, ry, sm, h, w⟩
  cases x with
  | int i =>
    cases y with
    | int j =>
      simp only [Rep] at rx ry
      exact ho pins s σ H v u vv uu Q I rv ru ⟨i, j, rx, ry, w _ _ _ _ h (hg H i j) sm (Pers.refl H)⟩
    | _ => exact h.elim
  | _ => cases y <;> exact h.elim
theorem q_ii {f : Value → Value → Sem Value} {C C' : Int → Int → Prop} {g : Int → Int → V} {g' : Int → Int → D} (ho : OpR X f (rI C g)) (hC : ∀ i j, C' i j → C i j) (hg : ∀ H i j, Rep X.K H (g' i j) (g i j)) : OpR X f (lR X.K (rdII C' g')) := by
  intro pins s σ H v u vv uu Q I rv ru ⟨x, y, M, QD, rx, ry, sm, h, w⟩
  cases x with
  | int i =>
    cases y with
    | int j =>
      simp only [Rep] at rx ry
      exact ho pins s σ H v u vv uu Q I rv ru ⟨i, j, rx, ry, hC i j h.1, w _ _ _ _ h.2 (hg H i j) sm (Pers.refl H)⟩
    | _ => exact h.elim
  | _ => cases y <;> exact h.elim
theorem o_sub : OpR X (binaryOp .Sub) (lR X.K (rdI0 fun i j => .int (i - j))) := q_i0 op_sub fun H i j => by simp only [Rep]
theorem o_mod : OpR X (binaryOp .Mod) (lR X.K (rdII (fun _ j => 0 < j) fun i j => .int (i % j))) := q_ii op_mod (fun _ _ h => h) fun H i j => by simp only [Rep]
theorem o_fdiv : OpR X (binaryOp .FloorDiv) (lR X.K (rdII (fun _ j => 0 < j ∧ j < 1073741824) fun i j => .int (i / j))) := q_ii op_fdiv (fun _ _ h => h) fun H i j => by simp only [Rep]
theorem o_mulI : OpR X (binaryOp .Mult) (lR X.K (rdII (fun i j => (-18446744073709551616 < i ∧ i < 18446744073709551616) ∨ (-18446744073709551616 < j ∧ j < 18446744073709551616)) fun i j => .int (i * j))) :=
  q_ii op_mul (fun i j h => by unfold CMul; rcases h with h | h <;> first | exact .inl ⟨by omega, by omega⟩ | exact .inr ⟨by omega, by omega⟩) fun H i j => by simp only [Rep]
theorem o_pow : OpR X (binaryOp .Pow) (lR X.K (rdII (fun i j => 0 ≤ j ∧ j ≤ 1000 ∧ -1000 < i ∧ i < 1000) fun i j => .int (i ^ j.toNat))) :=
  q_ii op_pow (fun i j h => ⟨h.1, by omega, by omega⟩) fun H i j => by simp only [Rep]
theorem o_lt : OpR X (compareOp .Lt) (lR X.K (rdI0 fun i j => .bl (decide (i < j)))) := q_i0 op_lt fun H i j => by simp only [Rep]
theorem o_le : OpR X (compareOp .LtE) (lR X.K (rdI0 fun i j => .bl (decide (i ≤ j)))) := q_i0 op_le fun H i j => by simp only [Rep]
theorem o_gt : OpR X (compareOp .Gt) (lR X.K (rdI0 fun i j => .bl (decide (j < i)))) := q_i0 op_gt fun H i j => by simp only [Rep]
theorem o_ge : OpR X (compareOp .GtE) (lR X.K (rdI0 fun i j => .bl (decide (j ≤ i)))) := q_i0 op_ge fun H i j => by simp only [Rep]
theorem o_add : OpR X (binaryOp .Add) (lR X.K rdAdd) := by
  intro pins s σ H v u vv uu Q I rv ru ⟨x, y, M, QD, rx, ry, sm, h, w⟩
  cases x with
  | int i =>
    cases y with
    | int j =>
      simp only [Rep] at rx ry
      exact op_add pins s σ H v u vv uu Q I rv ru ⟨i, j, rx, ry, w _ _ _ _ h (by simp only [Rep]) sm (Pers.refl H)⟩
    | _ => exact h.elim
  | str i =>
    cases y with
    | str j =>
      simp only [Rep] at rx ry
      exact op_add_str pins s σ H v u vv uu Q I rv ru ⟨i, j, rx, ry, line_mil h.1, w _ _ _ _ h.2 (by simp only [Rep]) sm (Pers.refl H)⟩
    | _ => exact h.elim
  | tup i =>
    cases y with
    | tup j =>
      obtain ⟨p, xs, rfl, hs, hr⟩ := rep_tup rx
      obtain ⟨q, ys, rfl, gs, gr⟩ := rep_tup ry
      refine op_catA pins s σ H _ _ vv uu Q I rv ru ⟨p, q, xs, ys, rfl, rfl, hs, gs, line_mil (by rw [hr.len, gr.len]; exact h.1), fun e => ?_, fun _ e => ?_, fun _ _ t ht => ?_⟩
      · subst e
        have e : i = [] := List.eq_nil_of_length_eq_zero hr.len.symm
        subst e
        exact w _ _ _ _ h.2 ry sm (Pers.refl H)
      · subst e
        have e : j = [] := List.eq_nil_of_length_eq_zero gr.len.symm
        subst e
        exact w _ _ _ _ h.2 (by rw [List.append_nil]; exact rx) sm (Pers.refl H)
      · have pn : Pers H (upd H t (.tup (xs ++ ys))) := Pers.new ht
        exact w _ _ _ _ h.2 (rep_tup_mk upd_same (Reps.mono pn _ _ (hr.app gr))) (sm.new ht) pn
    | _ => exact h.elim
  | ref a =>
    cases y with
    | ref b =>
      dsimp only [rdAdd] at h
      split at h
      · rename_i i j e1 e2
        obtain ⟨xs, g1, r1⟩ := sm _ _ (lstOf_some e1)
        obtain ⟨ys, g2, r2⟩ := sm _ _ (lstOf_some e2)
        simp only [Rep] at rx ry
        refine op_cat pins s σ H _ _ vv uu Q I rv ru ⟨a, b, xs, ys, rx, ry, g1, g2, line_mil (by rw [r1.len, r2.len]; exact h.1), fun p hp => ?_⟩
        have pn : Pers H (upd H p (.lst (xs ++ ys))) := Pers.new hp
        exact w _ _ _ _ (h.2 p (sm.free hp)) (by simp only [Rep]) (sm.put pn ⟨_, upd_same, Reps.mono pn _ _ (r1.app r2)⟩) pn
      · exact h.elim
    | _ => exact h.elim
  | _ => exact h.elim
end
def rdNeg : D → Mp → DK → Prop := fun x M Q => match x with
  | .int i => Q (.int (-i)) M
  | _ => False
theorem u_neg {X : Cx} : UnR X (unaryOp .USub) (lU X.K rdNeg) := by
  intro pins s σ H v u Q I rv ⟨x, M, QD, rx, sm, h, w⟩
  cases x with
  | int i => simp only [Rep] at rx; exact un_neg pins s σ H v u Q I rv ⟨i, rx, w _ _ _ _ h (by simp only [Rep]) sm (Pers.refl H)⟩
  | _ => exact h.elim
/-- is None, is not None -/
def isN : D → Bool
  | .non => true
  | _ => false
def dIsN (ta : RE) : RE := fun δ M Q => ta δ M fun x M1 => Q (.bl (isN x)) M1
def dNotN (ta : RE) : RE := fun δ M Q => ta δ M fun x M1 => Q (.bl (!isN x)) M1
theorem rep_isN {K : PySem.W.Frag} {H : Hp} {d : D} {v : V} (h : Rep K H d v) : decide (v = .non) = isN d := by
  cases d with
  | tup ds => obtain ⟨p, xs, rfl, _⟩ := rep_tup h; rfl
  | fzt ds => obtain ⟨p, xs, rfl, _⟩ := rep_fzt h; rfl
  | fzl ds => obtain ⟨p, xs, rfl, _⟩ := rep_fzl h; rfl
  | _ => simp only [Rep] at h; subst h; rfl
section
variable {X : Cx} {a : Expr} {ta : RE} {pos : Pos}
theorem qe_isN {j pos'} (ha : PE X a (lE X.K ta)) : PE X (.Compare a [.Is] [.Constant .none j pos'] pos) (lE X.K (dIsN ta)) := by
  refine PE.wk (pe_cmp (pc_isN ha) rfl) fun σ H Q ⟨δ, M, QD, r, s, h, w⟩ => ?_
  exact ⟨δ, M, _, r, s, h, fun d M1 v H1 q1 r1 s1 p1 => w _ _ _ _ q1 (by rw [rep_isN r1]; simp only [Rep]) s1 p1⟩
theorem qe_notN {j pos'} (ha : PE X a (lE X.K ta)) : PE X (.Compare a [.IsNot] [.Constant .none j pos'] pos) (lE X.K (dNotN ta)) := by
  refine PE.wk (pe_cmp (pc_notN ha) rfl) fun σ H Q ⟨δ, M, QD, r, s, h, w⟩ => ?_
  exact ⟨δ, M, _, r, s, h, fun d M1 v H1 q1 r1 s1 p1 => w _ _ _ _ q1 (by rw [rep_isN r1]; simp only [Rep]) s1 p1⟩
theorem qt_isN {j pos'} (ha : PE X a (lE X.K ta)) : PT X (.Compare a [.Is] [.Constant .none j pos'] pos) (lT X.K (dTest (dIsN ta))) := by
  refine PT.wk (pt_cmp (pc_isN ha) rfl) fun σ H Q ⟨δ, M, QD, r, s, h, w⟩ => ?_
  exact ⟨δ, M, _, r, s, h, fun d M1 v H1 q1 r1 s1 p1 => ⟨_, rfl, by rw [rep_isN r1]; exact w _ _ _ q1 s1 p1⟩⟩
theorem qt_notN {j pos'} (ha : PE X a (lE X.K ta)) : PT X (.Compare a [.IsNot] [.Constant .none j pos'] pos) (lT X.K (dTest (dNotN ta))) := by
  refine PT.wk (pt_cmp (pc_notN ha) rfl) fun σ H Q ⟨δ, M, QD, r, s, h, w⟩ => ?_
  exact ⟨δ, M, _, r, s, h, fun d M1 v H1 q1 r1 s1 p1 => ⟨_, rfl, by rw [rep_isN r1]; exact w _ _ _ q1 s1 p1⟩⟩
end

/-! ### == -/
mutual
/-- data that == looks through -/
def py : D → PyData
  | .non => .none
  | .bl b => .bool b
  | .int i => .int i
  | .str x => .str x
  | .ty _ => .none
  | .ref _ => .none
  | .tup ds => .tuple (pys ds)
  | .fzl ds => .list (pys ds)
  | .fzt ds => .tuple (pys ds)
def pys : List D → List PyData
  | [] => []
  | d :: ds => py d :: pys ds
end
mutual
def plain : D → Bool
  | .ty _ => false
  | .ref _ => false
  | .tup ds => plains ds
  | .fzl ds => plains ds
  | .fzt ds => plains ds
  | _ => true
def plains : List D → Bool
  | [] => true
  | d :: ds => plain d && plains ds
end
/-- what stands for a datum, lists looked up: n deep -/
inductive Dt (M : Mp) : D → PyData → Prop where
  | pl (d : D) (h : plain d = true) : Dt M d (py d)
  | lst {a : Addr} {ds : List D} {ps : List PyData} (h : M a = some (.lst ds)) (r : Paired (Dt M) ds ps) : Dt M (.ref a) (.list ps)
  | tup {ds : List D} {ps : List PyData} (r : Paired (Dt M) ds ps) : Dt M (.tup ds) (.tuple ps)
theorem Dt.lstP {M : Mp} {a : Addr} {ds : List D} (h : M a = some (.lst ds)) (hp : plains ds = true) : Dt M (.ref a) (.list (pys ds)) := by
  refine .lst h ?_
  clear h
  induction ds with
  | nil => exact .nil
  | cons d r ih =>
    simp only [plains, Bool.and_eq_true] at hp
    simp only [pys]
    exact .cons (.pl d hp.1) (ih hp.2)
mutual
theorem dp_pl {K : PySem.W.Frag} {H : Hp} : ∀ (d : D) (v : V), plain d = true → Rep K H d v → Dp K H v (py d)
  | .non, v, _, h => by simp only [Rep] at h; subst h; exact .non
  | .bl b, v, _, h => by simp only [Rep] at h; subst h; exact .bl b
  | .int i, v, _, h => by simp only [Rep] at h; subst h; exact .int i
  | .str x, v, _, h => by simp only [Rep] at h; subst h; exact .str x
  | .ty n, v, p, h => by simp [plain] at p
  | .ref a, v, p, h => by simp [plain] at p
  | .tup ds, v, p, h => by
    obtain ⟨q, xs, rfl, s, r⟩ := rep_tup h
    simp only [plain] at p
    simp only [py]
    exact .tup s (dp_pls ds xs p r)
  | .fzt ds, v, p, h => by
    obtain ⟨q, xs, rfl, s, r⟩ := rep_fzt h
    simp only [plain] at p
    simp only [py]
    exact .tup (s H) (dp_pls ds xs p r)
  | .fzl ds, v, p, h => by
    obtain ⟨q, xs, rfl, s, r⟩ := rep_fzl h
    simp only [plain] at p
    simp only [py]
    exact .lst s (dp_pls ds xs p r)
theorem dp_pls {K : PySem.W.Frag} {H : Hp} : ∀ (ds : List D) (vs : List V), plains ds = true → Reps K H ds vs → DpAll K H vs (pys ds)
  | [], vs, _, h => by rw [reps_nil_inv h]; simp only [pys]; exact .nil
  | d :: ds, vs, p, h => by
    obtain ⟨v, r, rfl, a, b⟩ := reps_cons_inv h
    simp only [plains, Bool.and_eq_true] at p
    simp only [pys]
    exact .cons (dp_pl d v p.1 a) (dp_pls ds r p.2 b)
end
end Dl
/-! ==, sorted, subscripts, lists' methods, len and its like, over data. -/
namespace Dl
open PySem PySem.Spec PyProof.Rows L2

/-! ### plain data, at most n deep -/
def Pln : Nat → D → Prop
  | _, .non => True
  | _, .bl _ => True
  | _, .int _ => True
  | _, .str x => PyData.strOk x = true
  | _, .ty _ => False
  | _, .ref _ => False
  | 0, .tup _ => False
  | 0, .fzl _ => False
  | 0, .fzt _ => False
  | _ + 1, .fzt _ => False
  | n + 1, .tup ds => ∀ d ∈ ds, Pln n d
  | n + 1, .fzl ds => ∀ d ∈ ds, Pln n d
theorem pys_map (ds : List D) : pys ds = ds.map py := by
  induction ds with
  | nil => rfl
  | cons d r ih => simp only [pys, List.map_cons, ih]
theorem plains_of {ds : List D} (h : ∀ d ∈ ds, plain d = true) : plains ds = true := by
  induction ds with
  | nil => rfl
  | cons d r ih =>
    simp only [plains, Bool.and_eq_true]
    exact ⟨h d (by simp), ih fun x m => h x (by simp [m])⟩
theorem canAll_of {ds : List D} (h : ∀ d ∈ ds, (py d).canLay0 = true) : PyData.canLayAll0 (pys ds) = true := by
  induction ds with
  | nil => simp only [pys, PyData.canLayAll0]
  | cons d r ih =>
    simp only [pys, PyData.canLayAll0, Bool.and_eq_true]
    exact ⟨h d (by simp), ih fun x m => h x (by simp [m])⟩
theorem depthAll_of {n : Nat} {ds : List D} (h : ∀ d ∈ ds, (py d).depth ≤ n) : PyData.depthAll (pys ds) ≤ n := by
  induction ds with
  | nil => simp only [pys, PyData.depthAll]; exact Nat.zero_le _
  | cons d r ih =>
    simp only [pys, PyData.depthAll]
    have a := h d (by simp)
    have b := ih fun x m => h x (by simp [m])
    omega
theorem Pln.ok : ∀ {n : Nat} {d : D}, Pln n d → plain d = true ∧ (py d).canLay0 = true ∧ (py d).depth ≤ n
  | n, .non, _ => by simp [plain, py, PyData.canLay0, PyData.depth]
  | n, .bl b, _ => by simp [plain, py, PyData.canLay0, PyData.depth]
  | n, .int i, _ => by simp [plain, py, PyData.canLay0, PyData.depth]
  | n, .str x, h => by
    cases n <;> (simp only [Pln] at h; simp [plain, py, PyData.canLay0, PyData.depth, h])
  | n, .ty s, h => by cases n <;> simp only [Pln] at h
  | n, .ref a, h => by cases n <;> simp only [Pln] at h
  | 0, .tup ds, h => by simp only [Pln] at h
  | 0, .fzl ds, h => by simp only [Pln] at h
  | n, .fzt ds, h => by cases n <;> simp only [Pln] at h
  | n + 1, .tup ds, h => by
    simp only [Pln] at h
    have ih : ∀ d ∈ ds, plain d = true ∧ (py d).canLay0 = true ∧ (py d).depth ≤ n := fun d m => Pln.ok (h d m)
    refine ⟨by simp only [plain]; exact plains_of fun d m => (ih d m).1, by simp only [py, PyData.canLay0]; exact canAll_of fun d m => (ih d m).2.1, ?_⟩
    simp only [py, PyData.depth]
    have := depthAll_of (ds := ds) (n := n) fun d m => (ih d m).2.2
    omega
  | n + 1, .fzl ds, h => by
    simp only [Pln] at h
    have ih : ∀ d ∈ ds, plain d = true ∧ (py d).canLay0 = true ∧ (py d).depth ≤ n := fun d m => Pln.ok (h d m)
    refine ⟨by simp only [plain]; exact plains_of fun d m => (ih d m).1, by simp only [py, PyData.canLay0]; exact canAll_of fun d m => (ih d m).2.1, ?_⟩
    simp only [py, PyData.depth]
    have := depthAll_of (ds := ds) (n := n) fun d m => (ih d m).2.2
    omega
theorem Pln.mono : ∀ {n m : Nat} {d : D}, Pln n d → n ≤ m → Pln m d
  | n, m, .non, _, _ => by simp [Pln]
  | n, m, .bl b, _, _ => by simp [Pln]
  | n, m, .int i, _, _ => by simp [Pln]
  | n, m, .str x, h, _ => by cases n <;> cases m <;> simpa [Pln] using h
  | n, m, .ty s, h, _ => by cases n <;> simp only [Pln] at h
  | n, m, .ref a, h, _ => by cases n <;> simp only [Pln] at h
  | 0, m, .tup ds, h, _ => by simp only [Pln] at h
  | 0, m, .fzl ds, h, _ => by simp only [Pln] at h
  | n, m, .fzt ds, h, _ => by cases n <;> simp only [Pln] at h
  | n + 1, 0, _, _, l => absurd l (by omega)
  | n + 1, m + 1, .tup ds, h, l => by
    simp only [Pln] at h ⊢
    exact fun d k => Pln.mono (h d k) (by omega)
  | n + 1, m + 1, .fzl ds, h, l => by
    simp only [Pln] at h ⊢
    exact fun d k => Pln.mono (h d k) (by omega)

/-- what == compares: plain data, lists of them (looked up), n deep -/
def Dn (M : Mp) : Nat → D → PyData → Prop
  | 0, d, p => Pln 0 d ∧ p = py d
  | n + 1, d, p => (Pln (n + 1) d ∧ p = py d) ∨ (∃ a ds ps, d = .ref a ∧ M a = some (.lst ds) ∧ p = .list ps ∧ Paired (Dn M n) ds ps) ∨ (∃ ds ps, d = .tup ds ∧ p = .tuple ps ∧ Paired (Dn M n) ds ps)
theorem Dn.pl {M : Mp} {n : Nat} {d : D} (h : Pln n d) : Dn M n d (py d) := by
  cases n with
  | zero => exact ⟨h, rfl⟩
  | succ n => exact .inl ⟨h, rfl⟩
theorem Dn.lst {M : Mp} {n : Nat} {a : Addr} {ds : List D} {ps : List PyData} (h : M a = some (.lst ds)) (r : Paired (Dn M n) ds ps) : Dn M (n + 1) (.ref a) (.list ps) := .inr (.inl ⟨a, ds, ps, rfl, h, rfl, r⟩)
theorem Dn.tup {M : Mp} {n : Nat} {ds : List D} {ps : List PyData} (r : Paired (Dn M n) ds ps) : Dn M (n + 1) (.tup ds) (.tuple ps) := .inr (.inr ⟨ds, ps, rfl, rfl, r⟩)
theorem Dn.pls {M : Mp} {n : Nat} {ds : List D} (hp : ∀ d ∈ ds, Pln n d) : Paired (Dn M n) ds (pys ds) := by
  induction ds with
  | nil => simp only [pys]; exact .nil
  | cons d r ih =>
    simp only [pys]
    exact .cons (.pl (hp d (by simp))) (ih fun x m => hp x (by simp [m]))
theorem Dn.ls {M : Mp} {n : Nat} {a : Addr} {ds : List D} (h : M a = some (.lst ds)) (hp : ∀ d ∈ ds, Pln n d) : Dn M (n + 1) (.ref a) (.list (pys ds)) := .lst h (Dn.pls hp)
theorem dn_ok {K : PySem.W.Frag} {H : Hp} {M : Mp} (s : Sm K M H) : ∀ (n : Nat) (d : D) (p : PyData) (v : V), Dn M n d p → Rep K H d v → Dp K H v p ∧ p.canLay0 = true ∧ p.depth ≤ n := by
  intro n
  induction n with
  | zero =>
    intro d p v h r
    obtain ⟨h, rfl⟩ := h
    exact ⟨dp_pl d v h.ok.1 r, h.ok.2⟩
  | succ n ih =>
    have all : ∀ {ds : List D} {ps : List PyData} {vs : List V}, Paired (Dn M n) ds ps → Reps K H ds vs → DpAll K H vs ps ∧ PyData.canLayAll0 ps = true ∧ PyData.depthAll ps ≤ n := by
      intro ds ps vs h
      induction h generalizing vs with
      | nil => intro r; rw [reps_nil_inv r]; exact ⟨.nil, by simp [PyData.canLayAll0], by simp [PyData.depthAll]⟩
      | cons a b ihh =>
        intro r
        obtain ⟨v, w, rfl, r1, r2⟩ := reps_cons_inv r
        obtain ⟨x1, x2, x3⟩ := ih _ _ _ a r1
        obtain ⟨y1, y2, y3⟩ := ihh r2
        exact ⟨.cons x1 y1, by simp [PyData.canLayAll0, x2, y2], by simp only [PyData.depthAll]; omega⟩
    intro d p v h r
    rcases h with ⟨h, rfl⟩ | ⟨a, ds, ps, rfl, h, rfl, q⟩ | ⟨ds, ps, rfl, rfl, q⟩
    · exact ⟨dp_pl d v h.ok.1 r, h.ok.2⟩
    · simp only [Rep] at r
      subst r
      obtain ⟨xs, e, g⟩ := s _ _ h
      obtain ⟨x1, x2, x3⟩ := all q g
      exact ⟨.lst (SqL.of e) x1, by simpa [PyData.canLay0] using x2, by simp only [PyData.depth]; omega⟩
    · obtain ⟨a, xs, rfl, e, g⟩ := rep_tup r
      obtain ⟨x1, x2, x3⟩ := all q g
      exact ⟨.tup e x1, by simpa [PyData.canLay0] using x2, by simp only [PyData.depth]; omega⟩

/-- the scalars' == -/
def sceq : D → D → Option Bool
  | .int i, .int j => some (decide (i = j))
  | .str i, .str j => some (decide (i = j))
  | .bl i, .bl j => some (decide (i = j))
  | .non, .non => some true
  | .non, .int _ => some false
  | .int _, .non => some false
  | .non, .str _ => some false
  | .str _, .non => some false
  | .non, .bl _ => some false
  | .bl _, .non => some false
  | .int _, .str _ => some false
  | .str _, .int _ => some false
  | .bl _, .str _ => some false
  | .str _, .bl _ => some false
  | _, _ => none
def rdEq : D → D → Mp → DK → Prop := fun x y M Q => match sceq x y with
  | some b => Q (.bl b) M
  | none => ∃ p q, Dn M 60 x p ∧ Dn M 60 y q ∧ Q (.bl (PyData.eqv p q)) M
def rdNe : D → D → Mp → DK → Prop := fun x y M Q => match sceq x y with
  | some b => Q (.bl (!b)) M
  | none => ∃ p q, Dn M 60 x p ∧ Dn M 60 y q ∧ Q (.bl (!PyData.eqv p q)) M
theorem sceq_ok {K : PySem.W.Frag} {H : Hp} {x y : D} {v u : V} {b : Bool} (h : sceq x y = some b) (rx : Rep K H x v) (ry : Rep K H y u) : scal v u = true ∧ decide (v = u) = b := by
  cases x <;> cases y <;> simp only [sceq, Option.some.injEq] at h <;> first
    | (simp only [Rep] at rx ry; subst rx; subst ry; subst h; simp [scal])
    | cases h
section
variable {X : Cx}
theorem o_eq (hu : X.A.units + 64 < cLine) : OpR X (compareOp .Eq) (lR X.K rdEq) := by
  intro pins s σ H v u vv uu Q I rv ru ⟨x, y, M, QD, rx, ry, sm, h, w⟩
  unfold rdEq at h
  split at h
  · rename_i b e
    obtain ⟨h1, h2⟩ := sceq_ok e rx ry
    exact op_eq pins s σ H v u vv uu Q I rv ru ⟨h1, by rw [h2]; exact w _ _ _ _ h (by simp only [Rep]) sm (Pers.refl H)⟩
  · obtain ⟨p, q, h1, h2, h3⟩ := h
    obtain ⟨a1, a2, a3⟩ := dn_ok sm _ _ _ _ h1 rx
    obtain ⟨b1, b2, b3⟩ := dn_ok sm _ _ _ _ h2 ry
    exact op_eqD hu pins s σ H v u vv uu Q I rv ru ⟨p, q, a1, b1, by simp only [SeqAt.shaped, Bool.and_eq_true, decide_eq_true_eq]; exact ⟨a2, by omega⟩, by simp only [SeqAt.shaped, Bool.and_eq_true, decide_eq_true_eq]; exact ⟨b2, by omega⟩, w _ _ _ _ h3 (by simp only [Rep]) sm (Pers.refl H)⟩
theorem o_ne (hu : X.A.units + 64 < cLine) : OpR X (compareOp .NotEq) (lR X.K rdNe) := by
  intro pins s σ H v u vv uu Q I rv ru ⟨x, y, M, QD, rx, ry, sm, h, w⟩
  unfold rdNe at h
  split at h
  · rename_i b e
    obtain ⟨h1, h2⟩ := sceq_ok e rx ry
    exact op_ne pins s σ H v u vv uu Q I rv ru ⟨h1, by rw [h2]; exact w _ _ _ _ h (by simp only [Rep]) sm (Pers.refl H)⟩
  · obtain ⟨p, q, h1, h2, h3⟩ := h
    obtain ⟨a1, a2, a3⟩ := dn_ok sm _ _ _ _ h1 rx
    obtain ⟨b1, b2, b3⟩ := dn_ok sm _ _ _ _ h2 ry
    exact op_neD hu pins s σ H v u vv uu Q I rv ru ⟨p, q, a1, b1, by simp only [SeqAt.shaped, Bool.and_eq_true, decide_eq_true_eq]; exact ⟨a2, by omega⟩, by simp only [SeqAt.shaped, Bool.and_eq_true, decide_eq_true_eq]; exact ⟨b2, by omega⟩, w _ _ _ _ h3 (by simp only [Rep]) sm (Pers.refl H)⟩
end

/-! ### subscripts -/
/-- the items of a list or tuple -/
def seqOf (M : Mp) : D → Option (List D)
  | .tup ds => some ds
  | .fzl ds => some ds
  | .fzt ds => some ds
  | .ref a => lstOf M a
  | _ => none
theorem seqOf_ok {K : PySem.W.Frag} {H : Hp} {M : Mp} {x : D} {v : V} {ds : List D} (s : Sm K M H) (h : seqOf M x = some ds) (r : Rep K H x v) : ∃ p xs, v = .ref p ∧ (SqL K H p xs ∨ SqT K H p xs) ∧ Reps K H ds xs := by
  cases x with
  | tup es => simp only [seqOf, Option.some.injEq] at h; subst h; obtain ⟨p, xs, e, a, b⟩ := rep_tup r; exact ⟨p, xs, e, .inr a, b⟩
  | fzl es => simp only [seqOf, Option.some.injEq] at h; subst h; obtain ⟨p, xs, e, a, b⟩ := rep_fzl r; exact ⟨p, xs, e, .inl a, b⟩
  | fzt es => simp only [seqOf, Option.some.injEq] at h; subst h; obtain ⟨p, xs, e, a, b⟩ := rep_fzt r; exact ⟨p, xs, e, .inr (a H), b⟩
  | ref a =>
    simp only [seqOf] at h
    obtain ⟨xs, e, g⟩ := s _ _ (lstOf_some h)
    simp only [Rep] at r
    exact ⟨a, xs, r, .inl (SqL.of e), g⟩
  | _ => simp [seqOf] at h
def rdIx : D → D → Mp → DK → Prop := fun x y M Q => match y with
  | .int i => (match x with
    | .str z => z.length ≤ 1000000 ∧ (match atI z.cps.toList i with
      | some c => Q (.str ⟨#[c]⟩) M
      | none => False)
    | _ => (match seqOf M x with
      | some ds => (match atI ds i with
        | some d => Q d M
        | none => False)
      | none => False))
  | _ => False
theorem reps_atI {K : PySem.W.Frag} {H : Hp} {ds : List D} {xs : List V} {i : Int} {d : D} (r : Reps K H ds xs) (h : atI ds i = some d) : ∃ v, atI xs i = some v ∧ Rep K H d v := by
  unfold atI at h ⊢
  rw [r.len]
  cases e : ixN ds.length i with
  | none => rw [e] at h; cases h
  | some j => rw [e] at h; exact r.get j h
section
variable {X : Cx} {a b : Expr} {ta tb : RE} {pos : Pos}
theorem x_ix : IxR X (lR X.K rdIx) := by
  intro value slice pins s σ H v u vv uu Q I rv ru ⟨x, y, M, QD, rx, ry, sm, h, w⟩ hs
  refine ix_seq value slice pins s σ H v u vv uu Q I rv ru ?_ hs
  cases y with
  | int i =>
    simp only [Rep] at ry
    have seq : ∀ ds, seqOf M x = some ds → (match atI ds i with
        | some d => QD d M
        | none => False) → rIx X.K v u H Q := fun ds e h => by
      obtain ⟨p, xs, rfl, hx, hr⟩ := seqOf_ok sm e rx
      split at h
      · rename_i d e2
        obtain ⟨z, e3, rz⟩ := reps_atI hr e2
        rcases hx with hx | hx
        · exact .inl ⟨p, xs, i, z, rfl, ry, hx, e3, w _ _ _ _ h rz sm (Pers.refl H)⟩
        · exact .inr (.inl ⟨p, xs, i, z, rfl, ry, hx, e3, w _ _ _ _ h rz sm (Pers.refl H)⟩)
      · exact h.elim
    cases x with
    | str z =>
      simp only [Rep] at rx
      obtain ⟨h1, h2⟩ := h
      split at h2
      · rename_i c e
        exact .inr (.inr ⟨z, i, c, rx, ry, line_mil h1, e, w _ _ _ _ h2 (by simp only [Rep]) sm (Pers.refl H)⟩)
      · exact h2.elim
    | tup ds => exact seq ds rfl h
    | fzl ds => exact seq ds rfl h
    | fzt ds => exact seq ds rfl h
    | ref a =>
      simp only [rdIx] at h
      split at h
      · rename_i ds e; exact seq ds e h
      · exact h.elim
    | _ => exact h.elim
  | _ => exact h.elim
theorem qe_ix (ha : PE X a (lE X.K ta)) (hb : PE X b (lE X.K tb)) (hs : PlainIx b := by exact fun _ _ => rfl) : PE X (.Subscript a b pos) (lE X.K (dOp rdIx ta tb)) :=
  PE.wk (pe_ix x_ix ha hb hs) fun σ H Q h => lOp h
end

/-! ### slices -/
def dNoPart : RO := fun _ M Q => Q none M
def dPart (t : RE) : RO := fun δ M Q => t δ M fun d M1 => match d with
  | .int i => Q (some i) M1
  | _ => False
def cutD {α : Type} (xs : List α) (lo hi : Option Int) : List α := (xs.drop (HT.sIx xs.length 0 lo)).take (HT.sIx xs.length xs.length hi - HT.sIx xs.length 0 lo)
theorem reps_cut {K : PySem.W.Frag} {H : Hp} {ds : List D} {xs : List V} {lo hi : Option Int} (r : Reps K H ds xs) : Reps K H (cutD ds lo hi) (cutV xs lo hi) := by
  unfold cutD cutV
  rw [r.len]
  exact (r.drop _).take _
def dSl (rd : D → Option Int → Option Int → Mp → DK → Prop) (te : RE) (tl th : RO) : RE := fun δ M Q => te δ M fun x M1 => tl δ M1 fun l M2 => th δ M2 fun u M3 => rd x l u M3 Q
def rdSl : D → Option Int → Option Int → Mp → DK → Prop := fun x l u M Q => match x with
  | .str z => z.length ≤ 1000000 ∧ Q (.str (cutS z l u)) M
  | .tup ds => Q (.tup (cutD ds l u)) M
  | .fzl ds => ∀ p, M p = none → Q (.ref p) (mup M p (.lst (cutD ds l u)))
  | .ref a => (match lstOf M a with
    | some ds => ∀ p, M p = none → Q (.ref p) (mup M p (.lst (cutD ds l u)))
    | none => False)
  | _ => False
def lSl (K : PySem.W.Frag) (rd : D → Option Int → Option Int → Mp → DK → Prop) : V → Option Int → Option Int → Hp → VK → Prop := fun v l u H Q => ∃ x M QD, Rep K H x v ∧ Sm K M H ∧ rd x l u M QD ∧ Wk K H QD Q
section
variable {X : Cx} {e lo hi : Expr} {ol oh : Option Expr} {te tl : RE} {rl rh : RO} {pos p2 : Pos}
theorem qo_none : PO X none (lO X.K dNoPart) := by
  refine ⟨fun p H Q s σ => ?_⟩
  rintro I ⟨δ, M, QD, r, sm, h, w⟩
  exact po_none.run _ _ _ _ _ I (w _ _ _ h sm (Pers.refl _))
theorem qo_some (h : PE X lo (lE X.K tl)) : PO X (some lo) (lO X.K (dPart tl)) := by
  refine ⟨fun p H Q s σ => ?_⟩
  rintro I ⟨δ, M, QD, r, sm, g, w⟩
  refine (po_some h).run _ _ _ _ _ I ⟨δ, M, _, r, sm, g, fun d M1 v H1 q1 r1 s1 p1 => ?_⟩
  cases d with
  | int i => simp only [Rep] at r1; exact ⟨i, r1, w _ _ _ q1 s1 p1⟩
  | _ => exact q1.elim
theorem SlR.or {r r' : V → Option Int → Option Int → Hp → VK → Prop} (h : SlR X r) (h' : SlR X r') : SlR X (fun x lo hi H Q => r x lo hi H Q ∨ r' x lo hi H Q) := by
  intro pins s σ H x v vl vu lo hi sl Q I rx hs pl pu q
  rcases q with q | q
  · exact h pins s σ H x v vl vu lo hi sl Q I rx hs pl pu q
  · exact h' pins s σ H x v vl vu lo hi sl Q I rx hs pl pu q
theorem x_sl : SlR X (lSl X.K rdSl) := by
  intro pins s σ H v vv vl vu lo hi sl Q I rv hs pl pu ⟨x, M, QD, rx, sm, h, w⟩
  cases x with
  | str z =>
    simp only [Rep] at rx
    exact sl_str pins s σ H v vv vl vu lo hi sl Q I rv hs pl pu ⟨z, rx, line_mil h.1, w _ _ _ _ h.2 (by simp only [Rep]) sm (Pers.refl H)⟩
  | tup ds =>
    obtain ⟨p, xs, rfl, hx, hr⟩ := rep_tupH rx
    refine sl_tupA pins s σ H _ vv vl vu lo hi sl Q I rv hs pl pu ⟨p, xs, rfl, SqT.of hx, fun e => ?_, fun _ q hq => ?_⟩
    · refine w _ _ _ _ h (rep_tup_mk hx ?_) sm (Pers.refl H)
      have e2 : cutV xs lo hi = xs := by
        unfold cutV
        rw [e.1, e.2]
        simp
      have := reps_cut (lo := lo) (hi := hi) hr
      rw [e2] at this
      exact this
    · have pn : Pers H (upd H q (.tup (cutV xs lo hi))) := Pers.new hq
      exact w _ _ _ _ h (rep_tup_mk upd_same (Reps.mono pn _ _ (reps_cut hr))) (sm.new hq) pn
  | fzl ds =>
    obtain ⟨p, xs, rfl, hx, hr⟩ := rep_fzl rx
    refine sl_list pins s σ H _ vv vl vu lo hi sl Q I rv hs pl pu ⟨p, xs, rfl, hx, fun q hq => ?_⟩
    have pn : Pers H (upd H q (.lst (cutV xs lo hi))) := Pers.new hq
    exact w _ _ _ _ (h q (sm.free hq)) (by simp only [Rep]) (sm.put pn ⟨_, upd_same, Reps.mono pn _ _ (reps_cut hr)⟩) pn
  | ref a =>
    simp only [rdSl] at h
    split at h
    · rename_i ds e
      obtain ⟨xs, e1, hr⟩ := sm _ _ (lstOf_some e)
      simp only [Rep] at rx
      refine sl_list pins s σ H _ vv vl vu lo hi sl Q I rv hs pl pu ⟨a, xs, rx, SqL.of e1, fun q hq => ?_⟩
      have pn : Pers H (upd H q (.lst (cutV xs lo hi))) := Pers.new hq
      exact w _ _ _ _ (h q (sm.free hq)) (by simp only [Rep]) (sm.put pn ⟨_, upd_same, Reps.mono pn _ _ (reps_cut hr)⟩) pn
    · exact h.elim
  | _ => exact h.elim
theorem qe_slice (he : PE X e (lE X.K te)) (hl : PO X ol (lO X.K rl)) (hh : PO X oh (lO X.K rh)) : PE X (.Subscript e (.Slice ol oh none p2) pos) (lE X.K (dSl rdSl te rl rh)) := by
  refine PE.wk (pe_slice x_sl he hl hh) fun σ H Q ⟨δ, M, QD, r, s, h, w⟩ => ?_
  refine ⟨δ, M, _, r, s, h, fun x M1 v H1 q1 r1 s1 p1 => ?_⟩
  refine ⟨δ, M1, _, r.mono p1, s1, q1, fun l M2 H2 q2 s2 p2 => ?_⟩
  refine ⟨δ, M2, _, (r.mono p1).mono p2, s2, q2, fun u M3 H3 q3 s3 p3 => ?_⟩
  exact ⟨x, M3, QD, Rep.mono (p2.trans p3) _ _ r1, s3, q3, w.on ((p1.trans p2).trans p3)⟩
end
end Dl
/-! Loops, comprehensions, calls of defs, over data. -/
namespace Dl
open PySem PySem.Spec PyProof.Rows L2 RZ

/-! ### what is walked -/
structure ItD (K : PySem.W.Frag) (J : It) (G : Mp → Prop) (ds : List D) (H0 : Hp) : Prop where
  go : ∀ i M H, Pers H0 H → Sm K M H → G M → i < ds.length → J.go i H
  yld : ∀ i M H x H' d, Pers H0 H → Sm K M H → G M → ds[i]? = some d → J.yld i H x H' → Rep K H' d x ∧ Sm K M H' ∧ Pers H H'
  stop : ∀ i M H, Pers H0 H → Sm K M H → G M → ds.length ≤ i → J.stop i H
def WkI (K : PySem.W.Frag) (H : Hp) (RD : (Mp → Prop) → List D → Mp → Prop) (R : It → Hp → Prop) : Prop := ∀ J G ds M' H', RD G ds M' → ItD K J G ds H' → Sm K M' H' → Pers H H' → R J H'
def lI (K : PySem.W.Frag) (t : RI) : TI := fun σ H R => ∃ δ M RD, RepS K H δ σ ∧ Sm K M H ∧ t δ M RD ∧ WkI K H RD R
def noG : Mp → Prop := fun _ => True
def isL (a : Addr) (ds : List D) : Mp → Prop := fun M => M a = some (.lst ds)
def signs (z : Str) : List D := z.cps.toList.map fun c => D.str ⟨#[c]⟩
def dIter (te : RE) : RI := fun δ M R => te δ M fun x M1 => match x with
  | .tup ds => R noG ds M1
  | .fzl ds => R noG ds M1
  | .ref a => (match lstOf M1 a with
    | some ds => R (isL a ds) ds M1
    | none => False)
  | .str z => R noG (signs z) M1
  | _ => False
/-- the list at a is read as xs alone: what J tells of it -/
theorem itd_l {K : PySem.W.Frag} {a : Addr} {ds : List D} {H0 : Hp} {G : Mp → Prop} (h : ∀ M H, Pers H0 H → Sm K M H → G M → ∃ xs, SqL K H a xs ∧ Reps K H ds xs) : ItD K (Itl K a) G ds H0 := by
  refine ⟨fun i M H p s g hi => ?_, fun i M H x H' d p s g hd y => ?_, fun i M H p s g hi => ?_⟩
  · obtain ⟨xs, e, r⟩ := h M H p s g
    have hl : i < xs.length := by rw [r.len]; exact hi
    exact ⟨xs, xs[i], e, List.getElem?_eq_getElem hl⟩
  · obtain ⟨xs, e, r⟩ := h M H p s g
    obtain ⟨rfl, y⟩ := y
    obtain ⟨v, e1, r1⟩ := r.get i hd
    have := y xs e
    rw [e1] at this
    cases this
    exact ⟨r1, s, Pers.refl _⟩
  · obtain ⟨xs, e, r⟩ := h M H p s g
    exact ⟨xs, e, by rw [r.len]; exact hi⟩
theorem itd_t {K : PySem.W.Frag} {a : Addr} {ds : List D} {H0 : Hp} {G : Mp → Prop} (h : ∀ M H, Pers H0 H → Sm K M H → G M → ∃ xs, SqT K H a xs ∧ Reps K H ds xs) : ItD K (Itt K a) G ds H0 := by
  refine ⟨fun i M H p s g hi => ?_, fun i M H x H' d p s g hd y => ?_, fun i M H p s g hi => ?_⟩
  · obtain ⟨xs, e, r⟩ := h M H p s g
    have hl : i < xs.length := by rw [r.len]; exact hi
    exact ⟨xs, xs[i], e, List.getElem?_eq_getElem hl⟩
  · obtain ⟨xs, e, r⟩ := h M H p s g
    obtain ⟨rfl, y⟩ := y
    obtain ⟨v, e1, r1⟩ := r.get i hd
    have := y xs e
    rw [e1] at this
    cases this
    exact ⟨r1, s, Pers.refl _⟩
  · obtain ⟨xs, e, r⟩ := h M H p s g
    exact ⟨xs, e, by rw [r.len]; exact hi⟩
theorem fzl_keeps {K : PySem.W.Frag} {H0 : Hp} {ds : List D} {v : V} (r : Rep K H0 (.fzl ds) v) : ∃ p, v = .ref p ∧ (∃ xs, SqL K H0 p xs) ∧ ∀ H, Pers H0 H → ∃ xs, SqL K H p xs ∧ Reps K H ds xs := by
  simp only [Rep] at r
  obtain ⟨p, xs, e, s, q⟩ := r
  refine ⟨p, e, ?_, fun H pr => ?_⟩
  · rcases s with ⟨o, s⟩ | (s | ⟨o, s⟩) | s
    · exact ⟨xs, .inl (.inr ⟨o, s⟩)⟩
    · cases s
    · cases s
    · exact ⟨xs, .inr s⟩
  · refine ⟨xs, ?_, Reps.mono pr _ _ q⟩
    rcases s with ⟨o, s⟩ | (s | ⟨o, s⟩) | s
    · exact .inl (.inr ⟨o, pr.fl _ _ _ s⟩)
    · cases s
    · cases s
    · exact .inr s
section
variable {X : Cx} {tg l : Expr}
/-- an iterator over what a value is: list, tuple, text -/
theorem qi_any {te : RE} (hl : PE X l (lE X.K te)) : PI X tg l (lI X.K (dIter te)) := by
  refine ⟨fun pins s σ H R I ⟨δ, M, RD, r, sm, h, w⟩ => ?_⟩
  -- the value, then its own walk: each by the layer's own rule at a reading that says which value comes
  refine thn (hl.run pins s σ H (fun v H1 => Pers H H1 ∧ ∃ x M1, Rep X.K H1 x v ∧ Sm X.K M1 H1 ∧ (match x with
      | .tup ds => RD noG ds M1
      | .fzl ds => RD noG ds M1
      | .ref a => (match lstOf M1 a with
        | some ds => RD (isL a ds) ds M1
        | none => False)
      | .str z => RD noG (signs z) M1
      | _ => False)) I ⟨δ, M, _, r, sm, h, fun x M1 v H1 q1 r1 s1 p1 => ⟨p1, x, M1, r1, s1, q1⟩⟩) fun v s1 ⟨y, H1, I1, ry, p1, x, M1, rx, sm1, q⟩ => ?_
  have goL : ∀ (a : Addr) (ys : List V), y = .ref a → SqL X.K H1 a ys → R (Itl X.K a) H1 → wpAny (model X.prog X.w) X.A (pyIter v) (PIE X pins σ tg R) X.xe s1 := by
    intro a ys ea hq q
    subst ea
    cases ry
    obtain ⟨its, rv, p, hz⟩ := I1.list hq
    refine wpAny_pyIter_list p.isList ?_
    refine ⟨s1.heap.objs.size, [s1.heap.objs.size], _, _, H1, rfl, I1.kept (t' := s1.toks) fun b o e => Heap.get?_push_of_some _ e, turn_list a _, ⟨_, Heap.get?_push_size _ rfl, rfl, rfl⟩, fun b hb => ?_, q⟩
    have e : b = s1.heap.objs.size := by simpa using hb
    subst e
    exact I1.fpOk (Nat.le_refl _) (I1.hok.fresh (Nat.le_refl _))
  cases x with
  | tup ds =>
    obtain ⟨a, xs, rfl, hq, hr⟩ := rep_tup rx
    cases ry
    obtain ⟨its, rv, p, hz⟩ := I1.tuple hq
    refine wpAny_pyIter_tuple (show s1.heap.IsTuple a its.toArray from p) ?_
    refine ⟨s1.heap.objs.size, [s1.heap.objs.size], _, _, H1, rfl, I1.kept (t' := s1.toks) fun b o e => Heap.get?_push_of_some _ e, turn_tuple a _, ⟨_, Heap.get?_push_size _ rfl, rfl, rfl⟩, fun b hb => ?_, ?_⟩
    · have e : b = s1.heap.objs.size := by simpa using hb
      subst e
      exact I1.fpOk (Nat.le_refl _) (I1.hok.fresh (Nat.le_refl _))
    · exact w _ _ _ _ _ q (itd_t fun M' H' p' s' _ => ⟨xs, p'.sqt hq, Reps.mono p' _ _ hr⟩) sm1 p1
  | fzl ds =>
    obtain ⟨a, e, ⟨ys, hq⟩, k⟩ := fzl_keeps rx
    exact goL a ys e hq (w _ _ _ _ _ q (itd_l fun M' H' p' s' _ => k H' p') sm1 p1)
  | ref a =>
    simp only [Rep] at rx
    dsimp only at q
    split at q
    · rename_i ds e
      obtain ⟨xs, e1, hr⟩ := sm1 _ _ (lstOf_some e)
      refine goL a xs rx (SqL.of e1) (w _ _ _ _ _ q (itd_l fun M' H' p' s' g => ?_) sm1 p1)
      obtain ⟨zs, e2, hr2⟩ := s' _ _ g
      exact ⟨zs, SqL.of e2, hr2⟩
    · exact q.elim
  | str z =>
    simp only [Rep] at rx
    subst rx
    obtain ⟨t, rfl⟩ := ry
    have hD : ItD X.K (Its z) noG (signs z) H1 := by
      have hl : (signs z).length = z.cps.size := by unfold signs; rw [List.length_map, Array.length_toList]
      refine ⟨fun i M' H' p' s' _ hi => ?_, fun i M' H' x H2 d p' s' _ hd y => ?_, fun i M' H' p' s' _ hi => ?_⟩
      · show i < z.cps.size; omega
      · obtain ⟨rfl, c, e, rfl⟩ := y
        unfold signs at hd
        rw [List.getElem?_map, Array.getElem?_toList, e] at hd
        cases hd
        exact ⟨by simp only [Rep], s', Pers.refl _⟩
      · show z.cps.size ≤ i; omega
    have q' := w _ _ _ _ _ q hD sm1 p1
    cases ha : z.cps.all (· < 128)
    · exact wpAny_pyIter_wide ha (pi_one (tk := s1.toks) I1 _ (turn_str _ z t "str_iterator" (.inr rfl)) ⟨_, Heap.get?_push_size _ rfl, rfl, rfl⟩ q')
    · exact wpAny_pyIter_ascii ha (pi_one (tk := s1.toks) I1 _ (turn_str _ z t "str_ascii_iterator" (.inl rfl)) ⟨_, Heap.get?_push_size _ rfl, rfl, rfl⟩ q')
  | _ => exact q.elim
end
/-- a list of one, of two, of three -/
def one (ds : List D) (k : D → Prop) : Prop := match ds with
  | [d] => k d
  | _ => False
def two (ds : List D) (k : D → D → Prop) : Prop := match ds with
  | [d, e] => k d e
  | _ => False
def three (ds : List D) (k : D → D → D → Prop) : Prop := match ds with
  | [d, e, f] => k d e f
  | _ => False
theorem one_inv {K : PySem.W.Frag} {H : Hp} {ds : List D} {k : D → Prop} {vs : List V} (h : one ds k) (r : Reps K H ds vs) : ∃ d v, ds = [d] ∧ vs = [v] ∧ Rep K H d v ∧ k d := by
  unfold one at h
  split at h
  · obtain ⟨v, r, rfl, a1, b1⟩ := reps_cons_inv r
    have e1 := reps_nil_inv b1
    subst e1
    exact ⟨_, v, rfl, rfl, a1, h⟩
  · exact h.elim
theorem two_inv {K : PySem.W.Frag} {H : Hp} {ds : List D} {k : D → D → Prop} {vs : List V} (h : two ds k) (r : Reps K H ds vs) : ∃ d e v w, ds = [d, e] ∧ vs = [v, w] ∧ Rep K H d v ∧ Rep K H e w ∧ k d e := by
  unfold two at h
  split at h
  · obtain ⟨v, r, rfl, a1, b1⟩ := reps_cons_inv r
    obtain ⟨v2, r2, rfl, a2, b2⟩ := reps_cons_inv b1
    have e1 := reps_nil_inv b2
    subst e1
    exact ⟨_, _, v, v2, rfl, rfl, a1, a2, h⟩
  · exact h.elim
theorem three_inv {K : PySem.W.Frag} {H : Hp} {ds : List D} {k : D → D → D → Prop} {vs : List V} (h : three ds k) (r : Reps K H ds vs) : ∃ d e f v w z, ds = [d, e, f] ∧ vs = [v, w, z] ∧ Rep K H d v ∧ Rep K H e w ∧ Rep K H f z ∧ k d e f := by
  unfold three at h
  split at h
  · obtain ⟨v, r, rfl, a1, b1⟩ := reps_cons_inv r
    obtain ⟨v2, r2, rfl, a2, b2⟩ := reps_cons_inv b1
    obtain ⟨v3, r3, rfl, a3, b3⟩ := reps_cons_inv b2
    have e1 := reps_nil_inv b3
    subst e1
    exact ⟨_, _, _, v, v2, v3, rfl, rfl, a1, a2, a3, h⟩
  · exact h.elim
/-- an int -/
def anInt (d : D) (k : Int → Prop) : Prop := match d with
  | .int i => k i
  | _ => False
theorem anInt_inv {K : PySem.W.Frag} {H : Hp} {d : D} {k : Int → Prop} {v : V} (h : anInt d k) (r : Rep K H d v) : ∃ i, d = .int i ∧ v = .int i ∧ k i := by
  cases d with
  | int i => simp only [Rep] at r; exact ⟨i, rfl, r, h⟩
  | _ => exact h.elim
/-- range(n), range(a, b) -/
def intsD (lo : Int) (n : Nat) : List D := (List.range n).map fun (i : Nat) => D.int (lo + (i : Int))
def dRng1 (ta : RA) : RI := fun δ M R => ta δ M fun ds M1 => one ds fun d => anInt d fun j => (-1000000000 ≤ j ∧ j ≤ 1000000000000000) ∧ R noG (intsD 0 j.toNat) M1
def dRng2 (ta : RA) : RI := fun δ M R => ta δ M fun ds M1 => two ds fun d e => anInt d fun i => anInt e fun j => (-1000000000000000 ≤ i ∧ i ≤ 1000000000000000 ∧ -1000000000000000 ≤ j ∧ j ≤ 1000000000000000) ∧ R noG (intsD i (j - i).toNat) M1
theorem itd_r {K : PySem.W.Frag} {lo : Int} {n : Nat} {H0 : Hp} {G : Mp → Prop} : ItD K (Itr lo n) G (intsD lo n) H0 := by
  have hl : (intsD lo n).length = n := by unfold intsD; rw [List.length_map, List.length_range]
  refine ⟨fun i M' H' p' s' _ hi => ?_, fun i M' H' x H2 d p' s' _ hd y => ?_, fun i M' H' p' s' _ hi => ?_⟩
  · show i < n; omega
  · obtain ⟨rfl, rfl⟩ := y
    unfold intsD at hd
    rw [List.getElem?_map] at hd
    cases e : (List.range n)[i]? with
    | none => rw [e] at hd; cases hd
    | some k =>
      rw [e] at hd
      have e2 : k = i := by
        obtain ⟨h1, h2⟩ := List.getElem?_eq_some_iff.mp e
        rw [← h2, List.getElem_range]
      subst e2
      cases hd
      exact ⟨by simp only [Rep], s', Pers.refl _⟩
  · show n ≤ i; omega
section
variable {X : Cx} {tg a b : Expr} {ta : RA} {p pos : Pos}
theorem qi_range1 (hg : Gl X "range") (hm : X.mg "range" = none) (ha : PA X [a] (lA X.K ta)) (hs : starEach [a] X.env = [(false, eval a X.env)] := by rfl) : PI X tg (.Call (.Name "range" p) [a] [] pos) (lI X.K (dRng1 ta)) := by
  refine PI.wk (pi_range1 hg hm ha hs) fun σ H R ⟨δ, M, RD, r, s, h, w⟩ => ?_
  refine ⟨δ, M, _, r, s, h, fun ds M1 vs H1 q1 r1 s1 p1 => ?_⟩
  obtain ⟨d, v, rfl, rfl, a1, q1⟩ := one_inv q1 r1
  obtain ⟨j, rfl, rfl, q1⟩ := anInt_inv q1 a1
  exact ⟨j, rfl, by omega, by omega, w _ _ _ _ _ q1.2 itd_r s1 p1⟩
theorem qi_range2 (hg : Gl X "range") (hm : X.mg "range" = none) (ha : PA X [a, b] (lA X.K ta)) (hs : starEach [a, b] X.env = [(false, eval a X.env), (false, eval b X.env)] := by rfl) (hs2 : starEach [b] X.env = [(false, eval b X.env)] := by rfl) : PI X tg (.Call (.Name "range" p) [a, b] [] pos) (lI X.K (dRng2 ta)) := by
  refine PI.wk (pi_range2 hg hm ha hs hs2) fun σ H R ⟨δ, M, RD, r, s, h, w⟩ => ?_
  refine ⟨δ, M, _, r, s, h, fun ds M1 vs H1 q1 r1 s1 p1 => ?_⟩
  obtain ⟨d, e, v, v', rfl, rfl, a1, a2, q1⟩ := two_inv q1 r1
  obtain ⟨i, rfl, rfl, q1⟩ := anInt_inv q1 a1
  obtain ⟨j, rfl, rfl, q1⟩ := anInt_inv q1 a2
  exact ⟨i, j, rfl, ⟨by omega, by omega, by omega, by omega⟩, w _ _ _ _ _ q1.2 itd_r s1 p1⟩
end
/-- zip(x, y): two lists, two tuples -/
def zipD (xs ys : List D) : List D := (xs.zip ys).map fun p => D.tup [p.1, p.2]
def isL2 (x y : D) (xs ys : List D) : Mp → Prop := fun M => seqOf M x = some xs ∧ seqOf M y = some ys
def kindT : D → Bool
  | .tup _ => true
  | .fzt _ => true
  | _ => false
def dZip (ta : RA) : RI := fun δ M R => ta δ M fun ds M1 => two ds fun x y => kindT x = kindT y ∧ (match seqOf M1 x, seqOf M1 y with
    | some xs, some ys => R (isL2 x y xs ys) (zipD xs ys) M1
    | _, _ => False)
section
variable {X : Cx} {e e2 : Expr} {ta : RA} {p pos tpos : Pos} {elts : List Expr} {kk : Nat}
theorem zip_get {xs ys : List D} {i : Nat} {d : D} (h : (zipD xs ys)[i]? = some d) : ∃ x y, xs[i]? = some x ∧ ys[i]? = some y ∧ d = .tup [x, y] := by
  unfold zipD at h
  rw [List.getElem?_map] at h
  cases e : (xs.zip ys)[i]? with
  | none => rw [e] at h; cases h
  | some q =>
    rw [e] at h
    obtain ⟨h1, h2⟩ := List.getElem?_zip_eq_some.mp e
    exact ⟨q.1, q.2, h1, h2, (Option.some.inj h).symm⟩
theorem zip_len {xs ys : List D} : (zipD xs ys).length = min xs.length ys.length := by unfold zipD; rw [List.length_map, List.length_zip]
theorem pair_rep {K : PySem.W.Frag} {H : Hp} {T : Addr} {x y : D} {v w : V} (n : H T = none) (a : Rep K H x v) (b : Rep K H y w) : Rep K (upd H T (.tup [v, w])) (.tup [x, y]) (.ref T) := by
  have pn : Pers H (upd H T (.tup [v, w])) := Pers.new n
  exact rep_tup_mk upd_same (reps_cons (Rep.mono pn _ _ a) (reps_cons (Rep.mono pn _ _ b) reps_nil))
theorem qi_zip (hg : Gl X "zip") (hm : X.mg "zip" = none) (ha : PA X [e, e2] (lA X.K ta)) (hs : starEach [e, e2] X.env = (false, eval e X.env) :: starEach [e2] X.env := by rfl) (hpl : (backTo pos (starEach [e2] X.env)).any (·.1) = false := by rfl) :
    PI X (.Tuple elts kk tpos) (.Call (.Name "zip" p) [e, e2] [] pos) (lI X.K (dZip ta)) := by
  refine PI.wk (pi_zipA hg hm ha hs hpl) fun σ H R ⟨δ, M, RD, r, s, h, w⟩ => ?_
  refine ⟨δ, M, _, r, s, h, fun ds M1 vs H1 q1 r1 s1 p1 => ?_⟩
  obtain ⟨x, y, v, v2, rfl, rfl, a1, a2, q1⟩ := two_inv q1 r1
  obtain ⟨hk, q⟩ := q1
  split at q
  · rename_i xs ys ex ey
    -- what stands at both for ever
    have look : ∀ {x : D} {v : V} {xs : List D}, seqOf M1 x = some xs → Rep X.K H1 x v → ∃ p, v = .ref p ∧ ((kindT x = true ∧ (∃ zs, SqT X.K H1 p zs) ∧ ∀ M' H', Pers H1 H' → Sm X.K M' H' → seqOf M' x = some xs → ∃ zs, SqT X.K H' p zs ∧ Reps X.K H' xs zs) ∨
        (kindT x = false ∧ (∃ zs, SqL X.K H1 p zs) ∧ ∀ M' H', Pers H1 H' → Sm X.K M' H' → seqOf M' x = some xs → ∃ zs, SqL X.K H' p zs ∧ Reps X.K H' xs zs)) := by
      intro x v xs ex rx
      cases x with
      | tup es =>
        simp only [seqOf, Option.some.injEq] at ex
        subst ex
        obtain ⟨p, zs, rfl, a, b⟩ := rep_tup rx
        exact ⟨p, rfl, .inl ⟨rfl, ⟨zs, a⟩, fun M' H' p' _ _ => ⟨zs, p'.sqt a, Reps.mono p' _ _ b⟩⟩⟩
      | fzl es =>
        simp only [seqOf, Option.some.injEq] at ex
        subst ex
        obtain ⟨p, rfl, ⟨zs, a⟩, k⟩ := fzl_keeps rx
        exact ⟨p, rfl, .inr ⟨rfl, ⟨zs, a⟩, fun M' H' p' _ _ => k H' p'⟩⟩
      | ref a =>
        simp only [Rep] at rx
        simp only [seqOf] at ex
        obtain ⟨zs, e1, r1⟩ := s1 _ _ (lstOf_some ex)
        refine ⟨a, rx, .inr ⟨rfl, ⟨zs, SqL.of e1⟩, fun M' H' p' s' g => ?_⟩⟩
        simp only [seqOf] at g
        obtain ⟨zs, e1, r1⟩ := s' _ _ (lstOf_some g)
        exact ⟨zs, SqL.of e1, r1⟩
      | fzt es =>
        simp only [seqOf, Option.some.injEq] at ex
        subst ex
        obtain ⟨p, zs, rfl, a, b⟩ := rep_fzt rx
        exact ⟨p, rfl, .inl ⟨rfl, ⟨zs, a _⟩, fun M' H' p' _ _ => ⟨zs, a _, Reps.mono p' _ _ b⟩⟩⟩
      | _ => simp [seqOf] at ex
    obtain ⟨p, rfl, kx⟩ := look ex a1
    obtain ⟨p2, rfl, ky⟩ := look ey a2
    rcases kx with ⟨tx, ⟨zs, hx⟩, kx⟩ | ⟨tx, ⟨zs, hx⟩, kx⟩
    · rcases ky with ⟨ty, ⟨ws, hy⟩, ky⟩ | ⟨ty, _⟩
      · refine ⟨p, p2, zs, ws, rfl, .inr ⟨hx, hy, w _ _ _ _ _ q ?_ s1 p1⟩⟩
        refine ⟨fun i M' H' p' s' g hi => ?_, fun i M' H' v H2 d p' s' g hd yl => ?_, fun i M' H' p' s' g hi => ?_⟩
        · obtain ⟨as, ha, ra⟩ := kx M' H' p' s' g.1
          obtain ⟨bs, hb, rb⟩ := ky M' H' p' s' g.2
          rw [zip_len] at hi
          have h1 : i < as.length := by rw [ra.len]; omega
          have h2 : i < bs.length := by rw [rb.len]; omega
          exact ⟨as, bs, as[i], bs[i], ha, hb, List.getElem?_eq_getElem h1, List.getElem?_eq_getElem h2⟩
        · obtain ⟨as, ha, ra⟩ := kx M' H' p' s' g.1
          obtain ⟨bs, hb, rb⟩ := ky M' H' p' s' g.2
          obtain ⟨x', y', e1, e2, rfl⟩ := zip_get hd
          obtain ⟨T, v1, v2, rfl, nT, rfl, f1, f2⟩ := yl
          obtain ⟨u1, g1, r1⟩ := ra.get i e1
          obtain ⟨u2, g2, r2⟩ := rb.get i e2
          have z1 := f1 as ha
          have z2 := f2 bs hb
          rw [g1] at z1; rw [g2] at z2
          cases z1; cases z2
          exact ⟨pair_rep nT r1 r2, s'.new nT, Pers.new nT⟩
        · obtain ⟨as, ha, ra⟩ := kx M' H' p' s' g.1
          obtain ⟨bs, hb, rb⟩ := ky M' H' p' s' g.2
          rw [zip_len] at hi
          exact ⟨as, bs, ha, hb, by rw [ra.len, rb.len]; omega⟩
      · rw [tx, ty] at hk; cases hk
    · rcases ky with ⟨ty, _⟩ | ⟨ty, ⟨ws, hy⟩, ky⟩
      · rw [tx, ty] at hk; cases hk
      · refine ⟨p, p2, zs, ws, rfl, .inl ⟨hx, hy, w _ _ _ _ _ q ?_ s1 p1⟩⟩
        refine ⟨fun i M' H' p' s' g hi => ?_, fun i M' H' v H2 d p' s' g hd yl => ?_, fun i M' H' p' s' g hi => ?_⟩
        · obtain ⟨as, ha, ra⟩ := kx M' H' p' s' g.1
          obtain ⟨bs, hb, rb⟩ := ky M' H' p' s' g.2
          rw [zip_len] at hi
          have h1 : i < as.length := by rw [ra.len]; omega
          have h2 : i < bs.length := by rw [rb.len]; omega
          exact ⟨as, bs, as[i], bs[i], ha, hb, List.getElem?_eq_getElem h1, List.getElem?_eq_getElem h2⟩
        · obtain ⟨as, ha, ra⟩ := kx M' H' p' s' g.1
          obtain ⟨bs, hb, rb⟩ := ky M' H' p' s' g.2
          obtain ⟨x', y', e1, e2, rfl⟩ := zip_get hd
          obtain ⟨T, v1, v2, rfl, nT, rfl, f1, f2⟩ := yl
          obtain ⟨u1, g1, r1⟩ := ra.get i e1
          obtain ⟨u2, g2, r2⟩ := rb.get i e2
          have z1 := f1 as ha
          have z2 := f2 bs hb
          rw [g1] at z1; rw [g2] at z2
          cases z1; cases z2
          exact ⟨pair_rep nT r1 r2, s'.new nT, Pers.new nT⟩
        · obtain ⟨as, ha, ra⟩ := kx M' H' p' s' g.1
          obtain ⟨bs, hb, rb⟩ := ky M' H' p' s' g.2
          rw [zip_len] at hi
          exact ⟨as, bs, ha, hb, by rw [ra.len, rb.len]; omega⟩
  · exact q.elim
end

/-! ### for -/
def dLoop (G : Mp → Prop) (g : RG) (tb : RS) (E : DEnds) : List D → DSt → Mp → Prop
  | [], δ, M => G M ∧ E.nx δ M
  | d :: r, δ, M => G M ∧ g d δ M fun δ1 M1 => tb { E with nx := dLoop G g tb E r, ct := dLoop G g tb E r, bk := E.nx } δ1 M1
def dFor (it : RI) (g : RG) (tb : RS) : RS := fun E δ M => it δ M fun G ds M1 => dLoop G g tb E ds δ M1
section
variable {X : Cx} {tg iter : Expr} {body : List Stmt} {ti : RI} {g : RG} {tb : RS} {pos : Pos}
theorem loop_G {G : Mp → Prop} {E : DEnds} : ∀ {ds : List D} {δ : DSt} {M : Mp}, dLoop G g tb E ds δ M → G M
  | [], _, _, h => h.1
  | _ :: _, _, _, h => h.1
theorem qs_for (hp : PassesOwn (model X.prog X.w) X.A X.env X.xe) (hc : X.calm = true) (hi : PI X tg iter (lI X.K ti)) (hg : PG X tg (lG X.K g)) (hb : PSs X body (lS X.K tb))
    (hs : ∀ x, foldedSetIterable iter X.env x = pure x := by intro _; rfl) : PS X (.For tg iter body [] pos) (lS X.K (dFor ti g tb)) := by
  refine PS.wk (ps_for hp hc hi hg hb hs) fun D σ H ⟨δ, M, E, r, s, h, w⟩ => ?_
  refine ⟨δ, M, _, r, s, h, fun J G ds M1 H1 q1 it s1 p1 => ?_⟩
  refine ⟨fun i m σ' H' => ∃ δ' M', RepS X.K H' δ' σ' ∧ Sm X.K M' H' ∧ Pers H1 H' ∧ dLoop G g tb E (ds.drop i) δ' M' ∧ m = ds.length - i ∧ i ≤ ds.length, ⟨ds.length, δ, M1, r.mono p1, s1, Pers.refl _, q1, by simp, Nat.zero_le _⟩, ?_⟩
  rintro i m σ' H' ⟨δ', M', r', s', p', hl, rfl, hi⟩
  by_cases hlt : i < ds.length
  · rw [List.drop_eq_getElem_cons hlt] at hl
    obtain ⟨hG, hl⟩ := hl
    refine .inr ⟨it.go i M' H' p' s' hG hlt, fun σ2 H2 => ∃ δ2 M2, RepS X.K H2 δ2 σ2 ∧ Sm X.K M2 H2 ∧ Pers H1 H2 ∧ dLoop G g tb E (ds.drop (i + 1)) δ2 M2, fun σ2 H2 ⟨δ2, M2, a, b, c, d⟩ => ⟨ds.length - (i + 1), by omega, δ2, M2, a, b, c, d, rfl, by omega⟩, fun x H2 y => ?_⟩
    obtain ⟨rx, s2, p2⟩ := it.yld i M' H' x H2 _ p' s' hG (List.getElem?_eq_getElem hlt) y
    refine ⟨_, δ', M', _, rx, r'.mono p2, s2, hl, fun δ3 M3 σ3 H3 q3 r3 s3 p3 => ?_⟩
    refine ⟨δ3, M3, _, r3, s3, q3, ⟨fun δ4 M4 σ4 H4 q4 r4 s4 p4 => ⟨δ4, M4, r4, s4, ((p'.trans p2).trans p3).trans p4, q4⟩, ?_, ?_, fun δ4 M4 σ4 H4 q4 r4 s4 p4 => ⟨δ4, M4, r4, s4, ((p'.trans p2).trans p3).trans p4, q4⟩⟩⟩
    · exact w.rt.on (((p1.trans p').trans p2).trans p3)
    · exact w.nx.on (((p1.trans p').trans p2).trans p3)
  · have e : ds.drop i = [] := List.drop_eq_nil_of_le (by omega)
    rw [e] at hl
    exact .inl ⟨it.stop i M' H' p' s' hl.1 (by omega), w.nx _ _ _ _ hl.2 r' s' (p1.trans p')⟩
end
/-- while: by an invariant and a measure -/
def dWhile (c : RT) (tb : RS) : RS := fun E δ M => ∃ W : Nat → DSt → Mp → Prop, (∃ m, W m δ M) ∧ ∀ m δ M, W m δ M →
  c δ M fun b M1 => if b = true then ∃ N : DSt → Mp → Prop, (∀ δ' M', N δ' M' → ∃ m', m' < m ∧ W m' δ' M') ∧ tb { E with nx := N, ct := N, bk := E.nx } δ M1 else E.nx δ M1
section
variable {X : Cx} {c : Expr} {body : List Stmt} {tc : RT} {tb : RS} {pos : Pos}
theorem qs_while (hp : PassesOwn (model X.prog X.w) X.A X.env X.xe) (hc : PT X c (lT X.K tc)) (hb : PSs X body (lS X.K tb)) : PS X (.While c body [] pos) (lS X.K (dWhile tc tb)) := by
  refine PS.wk (ps_while hp hc hb) fun D σ H ⟨δ, M, E, r, s, ⟨W, ⟨m, w0⟩, turn⟩, w⟩ => ?_
  refine ⟨fun m σ' H' => ∃ δ' M', RepS X.K H' δ' σ' ∧ Sm X.K M' H' ∧ Pers H H' ∧ W m δ' M', ⟨m, δ, M, r, s, Pers.refl _, w0⟩, ?_⟩
  rintro m σ' H' ⟨δ', M', r', s', p', w'⟩
  refine ⟨δ', M', _, r', s', turn m δ' M' w', fun b M1 H1 q1 s1 p1 => ?_⟩
  cases b with
  | true =>
    rw [if_pos rfl] at q1 ⊢
    obtain ⟨N, hN, q⟩ := q1
    refine ⟨fun σ2 H2 => ∃ δ2 M2, RepS X.K H2 δ2 σ2 ∧ Sm X.K M2 H2 ∧ Pers H H2 ∧ N δ2 M2, fun σ2 H2 ⟨δ2, M2, a, b, c, d⟩ => ?_, δ', M1, _, r'.mono p1, s1, q, ⟨fun δ4 M4 σ4 H4 q4 r4 s4 p4 => ⟨δ4, M4, r4, s4, (p'.trans p1).trans p4, q4⟩, w.rt.on (p'.trans p1), w.nx.on (p'.trans p1), fun δ4 M4 σ4 H4 q4 r4 s4 p4 => ⟨δ4, M4, r4, s4, (p'.trans p1).trans p4, q4⟩⟩⟩
    obtain ⟨m', h1, h2⟩ := hN _ _ d
    exact ⟨m', h1, δ2, M2, a, b, c, h2⟩
  | false =>
    rw [if_neg Bool.false_ne_true] at q1 ⊢
    exact w.nx _ _ _ _ q1 (r'.mono p1) s1 (p'.trans p1)
end
end Dl
/-! Comprehensions, defs and their calls, over data. -/
namespace Dl
open PySem PySem.Spec PyProof.Rows L2

/-! ### comprehensions -/
def wipeD (δ : DSt) : List Nat → DSt
  | [] => δ
  | v :: vs => (wipeD δ vs).set v none
theorem RepS.wipe {K : PySem.W.Frag} {H : Hp} {δ : DSt} {σ : L2.St} (r : RepS K H δ σ) : ∀ vs : List Nat, RepS K H (wipeD δ vs) (L2.wipe σ vs)
  | [] => r
  | v :: vs => (RepS.wipe r vs).unset v
theorem wipe_set {i : Nat} {x : Option V} : ∀ {vs : List Nat} {σ : L2.St}, i ∈ vs → L2.wipe (σ.set i x) vs = L2.wipe σ vs
  | [], σ, h => by cases h
  | v :: vs, σ, h => by
    show (L2.wipe (σ.set i x) vs).set v none = (L2.wipe σ vs).set v none
    by_cases e : i ∈ vs
    · rw [wipe_set e]
    · rcases List.mem_cons.mp h with rfl | h
      · have com : ∀ (ws : List Nat) (σ : L2.St), i ∉ ws → L2.wipe (σ.set i x) ws = (L2.wipe σ ws).set i x := by
          intro ws
          induction ws with
          | nil => intro σ _; rfl
          | cons w ws ih =>
            intro σ hn
            show (L2.wipe (σ.set i x) ws).set w none = ((L2.wipe σ ws).set w none).set i x
            rw [ih σ (fun z => hn (List.mem_cons_of_mem _ z)), List.set_comm]
            intro z
            exact hn (by simp [z])
        rw [com vs σ e, List.set_set]
      · exact absurd h e
def WkV (K : PySem.W.Frag) (H : Hp) (σ : L2.St) (vs : List Nat) (QD : DSt → Mp → Prop) (Q : L2.St → Hp → Prop) : Prop := ∀ δ M' σ' H', QD δ M' → RepS K H' δ σ' → Sm K M' H' → Pers H H' → L2.wipe σ' vs = L2.wipe σ vs → Q σ' H'
def lGv (K : PySem.W.Frag) (vs : List Nat) (g : RG) : TG := fun v σ H Q => ∃ d δ M QD, Rep K H d v ∧ RepS K H δ σ ∧ Sm K M H ∧ g d δ M QD ∧ WkV K H σ vs QD Q
def lGvs (K : PySem.W.Frag) (vs : List Nat) (g : RGs) : TGs := fun us σ H Q => ∃ ds δ M QD, Reps K H ds us ∧ RepS K H δ σ ∧ Sm K M H ∧ g ds δ M QD ∧ WkV K H σ vs QD Q
section
variable {X : Cx} {vs : List Nat} {pos : Pos}
theorem qv_name (i : Nat) {x : Str} (hN : X.N.Nodup) (hv : i ∈ vs := by decide) (hi : X.N[i]? = some x := by rfl) (hx : Loc X.env.scope x := by first | exact Or.inl rfl | exact Or.inr rfl) (hf : X.fn x = true ∨ X.env.scope.names.lookup x = some .local := by first | exact .inl rfl | exact .inr rfl | assumption) : PG X (.Name x pos) (lGv X.K vs (dgName i)) := by
  refine PG.wk (pg_name hN hi hx hf) fun v σ H Q ⟨d, δ, M, QD, rd, r, s, h, w⟩ => ?_
  exact w _ _ _ _ h (r.set i rd) s (Pers.refl H) (wipe_set hv)
theorem qvs_nil : PGs X [] (lGvs X.K vs dgNil) := PGs.wk pgs_nil fun us σ H Q ⟨ds, δ, M, QD, rd, r, s, h, w⟩ => by
  obtain ⟨rfl, h⟩ := h
  exact ⟨reps_nil_inv rd, w _ _ _ _ h r s (Pers.refl H) rfl⟩
theorem qvs_cons {e : Expr} {es : List Expr} {t : RG} {u : RGs} (h1 : PG X e (lGv X.K vs t)) (h2 : PGs X es (lGvs X.K vs u))
    (hs : (assignEach (e :: es) X.env).map (·.2) = assign e X.env :: (assignEach es X.env).map (·.2) := by rfl) : PGs X (e :: es) (lGvs X.K vs (dgCons t u)) := by
  refine PGs.wk (pgs_cons h1 h2 hs) fun us σ H Q ⟨ds, δ, M, QD, rd, r, s, h, w⟩ => ?_
  cases ds with
  | nil => exact h.elim
  | cons d ds =>
    obtain ⟨v, vr, rfl, a, b⟩ := reps_cons_inv rd
    refine ⟨v, vr, rfl, d, δ, M, _, a, r, s, h, fun δ1 M1 σ1 H1 q1 r1 s1 p1 e1 => ?_⟩
    exact ⟨ds, δ1, M1, QD, Reps.mono p1 _ _ b, r1, s1, q1, fun δ2 M2 σ2 H2 q2 r2 s2 p2 e2 => w _ _ _ _ q2 r2 s2 (p1.trans p2) (e2.trans e1)⟩
theorem qv_tup {es : List Expr} {k : Nat} {t : RGs} {n : Nat} (hc : X.calm = true) (h : PGs X es (lGvs X.K vs t))
    (hn : (assignEach es X.env).length = n := by rfl) (hst : (assignEach es X.env).findIdx? (·.1) = none := by rfl) : PG X (.Tuple es k pos) (lGv X.K vs (dgTup n t)) := by
  refine PG.wk (pg_tup hc h hn hst) fun v σ H Q ⟨d, δ, M, QD, rd, r, s, h, w⟩ => ?_
  cases d with
  | tup ds =>
    obtain ⟨p, xs, rfl, hs, hr⟩ := rep_tup rd
    exact ⟨p, xs, rfl, hs, by rw [hr.len]; exact h.1, ds, δ, M, QD, hr, r, s, h.2, w⟩
  | _ => exact h.elim
end
def dYes : RT := fun _ M Q => Q true M
def dLcLoop (G : Mp → Prop) (g : RG) (tt : RT) (te : RE) (δ0 : DSt) (p : Addr) (Q : Mp → Prop) : List D → List D → Mp → Prop
  | [], _, M => G M ∧ Q M
  | d :: r, acc, M => G M ∧ g d δ0 M fun δ1 M1 => tt δ1 M1 fun b M2 => if b = true then te δ1 M2 fun e M3 => M3 p = some (.lst acc) ∧ acc.length < 1000000 ∧ dLcLoop G g tt te δ0 p Q r (acc ++ [e]) (mup M3 p (.lst (acc ++ [e]))) else dLcLoop G g tt te δ0 p Q r acc M2
def dLc (it : RI) (g : RG) (tt : RT) (te : RE) (vs : List Nat) : RE := fun δ M Q => it δ M fun G ds M1 => ∀ p, M1 p = none → dLcLoop G g tt te (wipeD δ vs) p (Q (.ref p)) ds [] (mup M1 p (.lst []))
section
variable {X : Cx}
theorem qts_nil : PTs X [] (lT X.K dYes) := ⟨fun pins s σ H Q I ⟨δ, M, QD, r, sm, h, w⟩ => pts_nil.run pins s σ H Q I (w _ _ _ h sm (Pers.refl H))⟩
theorem qts_one {c : Expr} {t : RT} (h : PT X c (lT X.K t)) : PTs X [c] (lT X.K t) := pts_one h
theorem lLc {wi : RI} {g : RG} {tt : RT} {te : RE} {vs : List Nat} {σ : L2.St} {H : Hp} {Q : VK} (h : lE X.K (dLc wi g tt te vs) σ H Q) : tLc (lI X.K wi) (lGv X.K vs g) (lT X.K tt) (lE X.K te) vs σ H Q := by
  obtain ⟨δ, M, QD, r, s, h, w⟩ := h
  refine ⟨δ, M, _, r, s, h, fun J G ds M1 H1 q1 it s1 p1 => ?_⟩
  intro Dl hD
  have q1 := q1 Dl (s1.free hD)
  have pn : Pers H1 (upd H1 Dl (.lst [])) := Pers.new hD
  refine ⟨fun i m H' => ∃ acc M', Sm X.K M' H' ∧ Pers H1 H' ∧ dLcLoop G g tt te (wipeD δ vs) Dl (QD (.ref Dl)) (ds.drop i) acc M' ∧ m = ds.length - i ∧ i ≤ ds.length, ⟨ds.length, [], _, s1.put (u := .lst []) pn ⟨[], upd_same, reps_nil⟩, pn, q1, by simp, Nat.zero_le _⟩, ?_⟩
  rintro i m H' ⟨acc, M', s', p', hl, rfl, hi⟩
  by_cases hlt : i < ds.length
  · rw [List.drop_eq_getElem_cons hlt] at hl
    obtain ⟨hG, hl⟩ := hl
    refine .inr ⟨it.go i M' H' p' s' hG hlt, fun H2 => ∃ acc M2, Sm X.K M2 H2 ∧ Pers H1 H2 ∧ dLcLoop G g tt te (wipeD δ vs) Dl (QD (.ref Dl)) (ds.drop (i + 1)) acc M2, fun H2 ⟨acc, M2, a, b, d⟩ => ⟨ds.length - (i + 1), by omega, acc, M2, a, b, d, rfl, by omega⟩, fun x H2 y => ?_⟩
    obtain ⟨rx, s2, p2⟩ := it.yld i M' H' x H2 _ p' s' hG (List.getElem?_eq_getElem hlt) y
    have rw0 : RepS X.K H2 (wipeD δ vs) (L2.wipe σ vs) := (r.mono ((p1.trans p').trans p2)).wipe vs
    have aux : ∀ (ws : List Nat) (v : Nat), (∀ y ∈ ws, y ∈ vs) → v ∈ vs → L2.wipe ((L2.wipe σ ws).set v none) vs = L2.wipe (L2.wipe σ ws) vs := fun ws v _ hv => wipe_set hv
    have idem : ∀ ws : List Nat, (∀ y ∈ ws, y ∈ vs) → L2.wipe (L2.wipe σ ws) vs = L2.wipe σ vs := by
      intro ws
      induction ws with
      | nil => intro _; rfl
      | cons v ws ih =>
        intro hs
        show L2.wipe ((L2.wipe σ ws).set v none) vs = _
        rw [wipe_set (hs v (by simp))]
        exact ih fun y hy => hs y (by simp [hy])
    have ww : L2.wipe (L2.wipe σ vs) vs = L2.wipe σ vs := idem vs fun _ h => h
    refine ⟨_, _, M', _, rx, rw0, s2, hl, fun δ3 M3 σ3 H3 q3 r3 s3 p3 e3 => ⟨e3.trans ww, ?_⟩⟩
    refine ⟨δ3, M3, _, r3, s3, q3, fun b M4 H4 q4 s4 p4 => ?_⟩
    cases b with
    | true =>
      rw [if_pos rfl] at q4 ⊢
      refine ⟨δ3, M4, _, r3.mono p4, s4, q4, fun e M5 v H5 q5 r5 s5 p5 => ?_⟩
      obtain ⟨g1, g2, g3⟩ := q5
      obtain ⟨xs, h1, h2⟩ := s5 _ _ g1
      have pc : Pers H5 (upd H5 Dl (.lst (xs ++ [v]))) := Pers.chg h1 (by intro _ z; cases z) (by intro _ _ z; cases z)
      refine ⟨xs, h1, by rw [h2.len]; exact Nat.lt_of_lt_of_le g2 (by decide), acc ++ [e], _, s5.put (u := .lst (acc ++ [e])) pc ⟨_, upd_same, (Reps.mono pc _ _ h2).app (reps_cons (Rep.mono pc _ _ r5) reps_nil)⟩, (((((p'.trans p2).trans p3).trans p4).trans p5)).trans pc, g3⟩
    | false =>
      rw [if_neg Bool.false_ne_true] at q4 ⊢
      exact ⟨acc, M4, s4, ((p'.trans p2).trans p3).trans p4, q4⟩
  · have e : ds.drop i = [] := List.drop_eq_nil_of_le (by omega)
    rw [e] at hl
    exact .inl ⟨it.stop i M' H' p' s' hl.1 (by omega), w _ _ _ _ hl.2 (by simp only [Rep]) s' (p1.trans p')⟩
theorem qe_lc {elt tg iter : Expr} {ifs : List Expr} {scope : Scope} {own : List (Str × Nat)} {pos : Pos} {wi : RI} {g : RG} {tt : RT} {te : RE} (hc : X.calm = true) (hN : X.N.Nodup) (hi : PI X tg iter (lI X.K wi)) (ok : BlkOk X.N X.env.scope scope own)
    (hg : ∀ (s : Shared) (H : Hp) (C : Addr) (cl : List (Str × Addr)) (fp : List Addr), PG (X.blk s H scope (compEnvC scope cl C X.env) fp) tg (lGv X.K (own.map (·.2)) g)) (ht : ∀ (s : Shared) (H : Hp) (C : Addr) (cl : List (Str × Addr)) (fp : List Addr), PTs (X.blk s H scope (compEnvC scope cl C X.env) fp) ifs (lT X.K tt))
    (he : ∀ (s : Shared) (H : Hp) (C : Addr) (cl : List (Str × Addr)) (fp : List Addr), PE (X.blk s H scope (compEnvC scope cl C X.env) fp) elt (lE X.K te)) (hs : ∀ x, foldedSetIterable iter X.env x = pure x := by intro _; rfl) :
    PE X (.ListComp elt [⟨tg, iter, ifs, 0⟩] scope pos) (lE X.K (dLc wi g tt te (own.map (·.2)))) :=
  PE.wk (pe_lc hc hN hi ok hg ht he hs) fun σ H Q h => lLc h
theorem qs_setLc (i : Nat) {y : Str} {py : Pos} {elt tg iter : Expr} {ifs : List Expr} {scope : Scope} {own : List (Str × Nat)} {pos spos : Pos} {wi : RI} {g : RG} {tt : RT} {te : RE} (hc : X.calm = true) (hN : X.N.Nodup) (hy : X.N[i]? = some y) (hyl : X.env.scope.names.lookup y = some .local)
    (hsw : swapsWith (.ListComp elt [⟨tg, iter, ifs, 0⟩] scope pos) (some (.Name y py)) spos.line X.env = pure true) (hi : PI X tg iter (lI X.K wi)) (ok : BlkOk X.N X.env.scope scope own)
    (hg : ∀ (s : Shared) (H : Hp) (C : Addr) (cl : List (Str × Addr)) (fp : List Addr), PG (X.blk s H scope (compEnvC scope cl C X.env) fp) tg (lGv X.K (own.map (·.2)) g)) (ht : ∀ (s : Shared) (H : Hp) (C : Addr) (cl : List (Str × Addr)) (fp : List Addr), PTs (X.blk s H scope (compEnvC scope cl C X.env) fp) ifs (lT X.K tt))
    (he : ∀ (s : Shared) (H : Hp) (C : Addr) (cl : List (Str × Addr)) (fp : List Addr), PE (X.blk s H scope (compEnvC scope cl C X.env) fp) elt (lE X.K te)) (hs : ∀ x, foldedSetIterable iter X.env x = pure x := by intro _; rfl) :
    PS X (.Assign [.Name y py] (.ListComp elt [⟨tg, iter, ifs, 0⟩] scope pos) spos) (lS X.K (dAsg (dLc wi g tt te (own.map (·.2))) (dgName i))) := by
  refine PS.wk (ps_setLc hc hN hy hyl hsw hi ok hg ht he hs) fun D σ H ⟨δ, M, E, r, s, h, w⟩ => ?_
  refine lLc (X := X) ⟨δ, M, _, r, s, h, fun d M1 v H1 q1 r1 s1 p1 => w.nx _ _ _ _ q1 ((r.mono p1).set i r1) s1 p1⟩
end

/-! ### what a def promises, over data -/
abbrev DSp := List D → Mp → DK → DX → Prop
def lSp (K : PySem.W.Frag) (p : DSp) : Sp := fun vs H Q E => ∃ ds M QD ED, Reps K H ds vs ∧ Sm K M H ∧ p ds M QD ED ∧ Wk K H QD Q ∧ WkX K H ED E
abbrev FnD (P : Program) (w : World) (K : PySem.W.Frag) (mg : Str → Option Value) (base : Heap) (k : Nat) (f : Addr) (fd : FuncData) (ps : List Str) (p : DSp) : Prop := FnOk P w K mg base (L2.CX P w) k f fd ps (lSp K p)
/-- what a smaller store gives a greater one gives -/
def up (Q : DK) : DK := fun d M => ∃ M0, Sub M0 M ∧ Q d M0
def upX (E : DX) : DX := fun c fs M => ∃ M0, Sub M0 M ∧ E c fs M0
theorem up.of {Q : DK} {d : D} {M : Mp} (h : Q d M) : up Q d M := ⟨M, Sub.refl M, h⟩
theorem up.by {Q : DK} {d : D} {M M0 : Mp} (s : Sub M0 M) (h : Q d M0) : up Q d M := ⟨M0, s, h⟩
/-- nothing is raised -/
def eX0 : DX := fun _ _ _ => False
/-- a wish about exceptions, over the layer -/
def xk (K : PySem.W.Frag) (ED : DX) : XK := fun cls d H' => ∃ fs M', ED cls fs M' ∧ Xd K H' fs d ∧ Sm K M' H'
theorem Inv.pers {X : Cx} {pins : List (Addr × Obj)} {σ : L2.St} {H : Hp} {s : Shared} (I : Inv X pins σ H s) : Pers X.H_0 H :=
  ⟨I.base.tups, fun b o xs e => I.base.frzs b o _ e, fun b o xs e => I.base.frzs b o _ e⟩
theorem takes_xk {X : Cx} {ED : DX} {E : XK} (hE : WkX X.K X.H_0 ED E) (tk : Takes X (fun cls d _ H => E cls d H)) : Takes X (fun cls d _ H => xk X.K ED cls d H) := fun u s' h => by
  refine tk u s' ?_
  obtain ⟨a, B, sI, pins, σ, H, cls, d, e, I, nb, up, sky, na, os, ag, w⟩ := h
  refine ⟨a, B, sI, pins, σ, H, cls, d, e, I, nb, up, sky, na, os, ag, ?_⟩
  obtain ⟨fs, M', h1, h2, h3⟩ := w
  exact hE _ _ _ _ _ h1 h2 h3 (Inv.pers I)
section
variable {P : Program} {w : World} {K : PySem.W.Frag} {mg : Str → Option Value} {base : Heap}
theorem okD {x qual : Str} {st : Stmt} {f : Addr} {fd : FuncData} {N ps : List Str} {k : Nat} {p : DSp} (F : Fun K x qual st f fd) (S : FnScope N ps (defScope st)) (len : ∀ ds M Q E, p ds M Q E → ds.length = ps.length)
    (hbody : ∀ (cdv : Value) (A : Around) (outer : List Env) (s : Shared) (H : Hp) (E : XK) (ds : List D) (M : Mp) (Q : DK) (ED : DX), Room k (A.deeper (envOfC qual (defScope st) s.heap.objs.size f cdv)) → p ds M Q ED →
      Takes (cxOf (L2.CX P w) P w K mg base N qual (defScope st) f cdv A outer s H E) (fun cls d _ H => xk K ED cls d H) → PassesOwn (model P w) (A.deeper (envOfC qual (defScope st) s.heap.objs.size f cdv)) (envOfC qual (defScope st) s.heap.objs.size f cdv) (cxOf (L2.CX P w) P w K mg base N qual (defScope st) f cdv A outer s H E).xe →
      ∃ t, PSs (cxOf (L2.CX P w) P w K mg base N qual (defScope st) f cdv A outer s H E) (defBody st) (lS K t) ∧ t { nx := fun _ M' => up Q .non M', rt := up Q } (startD N ds) M) : FnD P w K mg base (k + 1) f fd ps p := by
  refine F.okX S (fun vs H Q E ⟨ds, M, QD, ED, r, s, h, _, _⟩ => by rw [r.len]; exact len _ _ _ _ h) fun cdv A outer s H vs Q E hr ⟨ds, M, QD, ED, r, sm, h, wq, we⟩ => ?_
  have tk : Takes (cxOf (L2.CX P w) P w K mg base N qual (defScope st) f cdv A outer s H E) (fun cls d _ H => E cls d H) := takes_of rfl rfl rfl rfl
  obtain ⟨t, h1, h2⟩ := hbody cdv A outer s H E ds M QD ED hr h (takes_xk we tk) (passes_of (K := fun e s' => L2.CX P w outer H s E e s') rfl)
  refine ⟨_, h1, startD N ds, M, _, ?_, sm, h2, ⟨?_, ?_, fun _ _ _ _ z => z.elim, fun _ _ _ _ z => z.elim⟩⟩
  · have hl : ds.length ≤ N.length := by
      rw [len _ _ _ _ h]
      have := congrArg List.length S.pre
      rw [List.length_take] at this
      omega
    rw [startD_eq hl]
    unfold L2.start
    rw [show vs.length = ds.length from r.len]
    exact (RepS.of r).app (RepS.nones _ _ (by rw [List.length_replicate]))
  · rintro δ M' σ' H' ⟨M0, sb, q⟩ r' s' p'
    exact wq _ _ _ _ q (by simp only [Rep]) (s'.sub sb) p'
  · rintro d M' v H' ⟨M0, sb, q⟩ r' s' p'
    exact wq _ _ _ _ q r' (s'.sub sb) p'
end
/-- f(..), nothing raised; f(..) that may raise -/
def dCall (p : DSp) (dd : List D) (t : RA) : RE := fun δ M Q => t δ M fun ds M1 => p (ds ++ dd) M1 Q eX0
def dCallX (p : DSp) (dd : List D) (ED : DX) (t : RA) : RE := fun δ M Q => t δ M fun ds M1 => p (ds ++ dd) M1 Q ED
section
variable {X : Cx} {k : Nat} {f C : Addr} {fd : FuncData} {ps : List Str} {sp : DSp} {dvs : List V} {dd : List D} {dv : List Value} {x m : Str} {p pos apos : Pos} {e o : Expr} {es : List Expr} {ta : RE} {t : RA} {ED : DX}
theorem lCall {E : XK} {σ : L2.St} {H : Hp} {Q : VK} (hd : ∀ H, Reps X.K H dd dvs) (hE : ∀ H, WkX X.K H ED E) (h : lE X.K (dCallX sp dd ED t) σ H Q) : tCall (lSp X.K sp) dvs E (lA X.K t) σ H Q := by
  obtain ⟨δ, M, QD, r, s, h, w⟩ := h
  exact ⟨δ, M, _, r, s, h, fun ds M1 vs H1 q1 r1 s1 p1 => ⟨_, M1, QD, ED, r1.app (hd H1), s1, q1, w.on p1, hE H1⟩⟩
theorem x0 {K : PySem.W.Frag} {H : Hp} : WkX K H eX0 E0 := fun _ _ _ _ _ z => z.elim
theorem xkk {K : PySem.W.Frag} {H : Hp} : WkX K H ED (xk K ED) := fun cls fs M' d H' h1 h2 h3 _ => ⟨fs, M', h1, h2, h3⟩
theorem WkX.up {K : PySem.W.Frag} {H : Hp} {E : XK} (w : WkX K H ED E) : WkX K H (upX ED) E := fun cls fs M' d H' h1 h2 h3 h4 => h1.elim fun M0 y => w cls fs M0 d H' y.2 h2 (h3.sub y.1) h4
theorem dd0 {K : PySem.W.Frag} : ∀ H, Reps K H [] [] := fun _ => reps_nil
theorem qe_call (F : FnD X.prog X.w X.K X.mg X.base k f fd ps sp) (hr : Room k X.A) (hg : Gl X x) (hm : X.mg x = some (.ref f)) (hk : PySem.W.keepIn X.K (.ref f) = true) (hb : Binds X.K fd ps dv) (hd : Vals dvs dv) (hdd : ∀ H, Reps X.K H dd dvs)
    (ha : PA X (e :: es) (lA X.K t)) (hdb : (x == ("__debug__" : Str)) = false := by decide) (he : starEach (e :: es) X.env = (false, eval e X.env) :: starEach es X.env := by rfl) (hpl : (backTo pos (starEach es X.env)).any (·.1) = false := by rfl) :
    PE X (.Call (.Name x p) (e :: es) [] pos) (lE X.K (dCall sp dd t)) :=
  PE.wk (pe_call F hr hg hm hk hb hd passL ha hdb he hpl) fun σ H Q h => lCall hdd (fun _ => x0) h
theorem qe_callX (F : FnD X.prog X.w X.K X.mg X.base k f fd ps sp) (hr : Room k X.A) (hg : Gl X x) (hm : X.mg x = some (.ref f)) (hk : PySem.W.keepIn X.K (.ref f) = true) (hb : Binds X.K fd ps dv) (hd : Vals dvs dv) (hdd : ∀ H, Reps X.K H dd dvs)
    (tk : Takes X (fun cls d _ H => xk X.K ED cls d H))
    (ha : PA X (e :: es) (lA X.K t)) (hdb : (x == ("__debug__" : Str)) = false := by decide) (he : starEach (e :: es) X.env = (false, eval e X.env) :: starEach es X.env := by rfl) (hpl : (backTo pos (starEach es X.env)).any (·.1) = false := by rfl) :
    PE X (.Call (.Name x p) (e :: es) [] pos) (lE X.K (dCallX sp dd (upX ED) t)) :=
  PE.wk (pe_call F hr hg hm hk hb hd (passes_call tk fun _ _ _ _ z => z) ha hdb he hpl) fun σ H Q h => lCall hdd (fun _ => xkk.up) h
theorem qe_call0 (F : FnD X.prog X.w X.K X.mg X.base k f fd ps sp) (hr : Room k X.A) (hg : Gl X x) (hm : X.mg x = some (.ref f)) (hk : PySem.W.keepIn X.K (.ref f) = true) (hb : Binds X.K fd ps dv) (hd : Vals dvs dv) (hdd : ∀ H, Reps X.K H dd dvs)
    (hdb : (x == ("__debug__" : Str)) = false := by decide) : PE X (.Call (.Name x p) [] [] pos) (lE X.K (dCall sp dd dNil)) :=
  PE.wk (pe_call0 F hr hg hm hk hb hd passL hdb) fun σ H Q ⟨δ, M, QD, r, s, h, w⟩ => ⟨_, M, QD, eX0, (hdd H), s, h, w, x0⟩
end
end Dl
/-! Built-ins, methods of lists, dicts, over data. -/
namespace Dl
open PySem PySem.Spec PyProof.Rows L2

/-! ### an expression whose new objects are dropped -/
def dPure (t : RE) : RE := fun δ M Q => t δ M fun d M1 => Sub M M1 ∧ Q d M
theorem qe_pure {X : Cx} {e : Expr} {t : RE} (h : PE X e (lE X.K t)) : PE X e (lE X.K (dPure t)) :=
  PE.wk h fun σ H Q ⟨δ, M, QD, r, s, h, w⟩ => ⟨δ, M, _, r, s, h, fun d M1 v H1 q1 r1 s1 p1 => w _ _ _ _ q1.2 r1 (s1.sub q1.1) p1⟩
/-- .. but the list that it gives -/
def dPureL (t : RE) : RE := fun δ M Q => t δ M fun d M1 => match d with
  | .ref p => (match lstOf M1 p with
    | some ds => M p = none ∧ Sub M M1 ∧ Q (.ref p) (mup M p (.lst ds))
    | none => False)
  | _ => False
theorem qe_pureL {X : Cx} {e : Expr} {t : RE} (h : PE X e (lE X.K t)) : PE X e (lE X.K (dPureL t)) :=
  PE.wk h fun σ H Q ⟨δ, M, QD, r, s, h, w⟩ => ⟨δ, M, _, r, s, h, fun d M1 v H1 q1 r1 s1 p1 => by
    cases d with
    | ref p =>
      dsimp only at q1
      split at q1
      · rename_i ds e
        obtain ⟨h1, h2, h3⟩ := q1
        refine w _ _ _ _ h3 r1 (s1.sub fun a o g => ?_) p1
        by_cases ea : a = p
        · subst ea; rw [mup_same] at g; cases g; exact lstOf_some e
        · rw [mup_ne ea] at g; exact h2 a o g
      · exact q1.elim
    | _ => exact q1.elim⟩
def dPureT (t : RT) : RT := fun δ M Q => t δ M fun d M1 => Sub M M1 ∧ Q d M
theorem qt_pure {X : Cx} {e : Expr} {t : RT} (h : PT X e (lT X.K t)) : PT X e (lT X.K (dPureT t)) :=
  PT.wk h fun σ H Q ⟨δ, M, QD, r, s, h, w⟩ => ⟨δ, M, _, r, s, h, fun d M1 H1 q1 s1 p1 => w _ _ _ q1.2 (s1.sub q1.1) p1⟩

/-! ### built-ins -/
def rdLen : List D → Mp → DK → Prop := fun ds M Q => one ds fun d => match d with
  | .str z => z.length ≤ 1000000 ∧ Q (.int z.length) M
  | .ref a => (match M a with
    | some (.lst xs) => Q (.int xs.length) M
    | some (.dK xs) => Q (.int xs.length) M
    | _ => False)
  | _ => (match seqOf M d with
    | some xs => Q (.int xs.length) M
    | none => False)
def rdTuple : List D → Mp → DK → Prop := fun ds M Q => one ds fun d => match d with
  | .tup xs => Q (.tup xs) M
  | .fzl xs => Q (.tup xs) M
  | .ref a => (match lstOf M a with
    | some xs => Q (.tup xs) M
    | none => False)
  | _ => False
def rdListOf : List D → Mp → DK → Prop := fun ds M Q => one ds fun d => match seqOf M d with
  | some xs => ∀ p, M p = none → Q (.ref p) (mup M p (.lst xs))
  | none => False
/-- the truth values, the ints of a list -/
def blsOf : List D → Option (List Bool)
  | [] => some []
  | .bl b :: r => (blsOf r).map (b :: ·)
  | _ => none
def intsOf : List D → Option (List Int)
  | [] => some []
  | .int b :: r => (intsOf r).map (b :: ·)
  | _ => none
theorem blsOf_eq : ∀ {ds : List D} {bs : List Bool}, blsOf ds = some bs → ds = bs.map D.bl
  | [], bs, h => by simp only [blsOf, Option.some.injEq] at h; subst h; rfl
  | d :: r, bs, h => by
    cases d with
    | bl b =>
      simp only [blsOf, Option.map_eq_some_iff] at h
      obtain ⟨cs, e, rfl⟩ := h
      rw [blsOf_eq e]; rfl
    | _ => simp [blsOf] at h
theorem intsOf_eq : ∀ {ds : List D} {bs : List Int}, intsOf ds = some bs → ds = bs.map D.int
  | [], bs, h => by simp only [intsOf, Option.some.injEq] at h; subst h; rfl
  | d :: r, bs, h => by
    cases d with
    | int b =>
      simp only [intsOf, Option.map_eq_some_iff] at h
      obtain ⟨cs, e, rfl⟩ := h
      rw [intsOf_eq e]; rfl
    | _ => simp [intsOf] at h
theorem blsOf_map : ∀ (bs : List Bool), blsOf (bs.map D.bl) = some bs
  | [] => rfl
  | b :: r => by simp only [List.map_cons, blsOf, blsOf_map r, Option.map_some]
theorem intsOf_map : ∀ (bs : List Int), intsOf (bs.map D.int) = some bs
  | [] => rfl
  | b :: r => by simp only [List.map_cons, intsOf, intsOf_map r, Option.map_some]
def lstD (M : Mp) : D → Option (List D)
  | .ref a => lstOf M a
  | .fzl ds => some ds
  | _ => none
theorem lstD_ok {K : PySem.W.Frag} {H : Hp} {M : Mp} {x : D} {v : V} {ds : List D} (s : Sm K M H) (h : lstD M x = some ds) (r : Rep K H x v) : ∃ p xs, v = .ref p ∧ SqL K H p xs ∧ Reps K H ds xs := by
  cases x with
  | fzl es => simp only [lstD, Option.some.injEq] at h; subst h; obtain ⟨p, xs, e, a, b⟩ := rep_fzl r; exact ⟨p, xs, e, a, b⟩
  | ref a =>
    simp only [lstD] at h
    obtain ⟨xs, e, g⟩ := s _ _ (lstOf_some h)
    simp only [Rep] at r
    exact ⟨a, xs, r, SqL.of e, g⟩
  | _ => simp [lstD] at h
def rdAll : List D → Mp → DK → Prop := fun ds M Q => one ds fun d => match (lstD M d).bind blsOf with
  | some bs => Q (.bl (bs.all id)) M
  | none => False
def rdAny : List D → Mp → DK → Prop := fun ds M Q => one ds fun d => match (lstD M d).bind blsOf with
  | some bs => Q (.bl (bs.any id)) M
  | none => False
def rdSum : List D → Mp → DK → Prop := fun ds M Q => one ds fun d => match (lstD M d).bind intsOf with
  | some bs => Q (.int bs.sum) M
  | none => False
def rdMaxL : List D → Mp → DK → Prop := fun ds M Q => one ds fun d => match (lstD M d).bind intsOf with
  | some bs => 0 < bs.length ∧ ∀ m, m ∈ bs → (∀ y, y ∈ bs → y ≤ m) → Q (.int m) M
  | none => False
def rdMinL : List D → Mp → DK → Prop := fun ds M Q => one ds fun d => match (lstD M d).bind intsOf with
  | some bs => 0 < bs.length ∧ ∀ m, m ∈ bs → (∀ y, y ∈ bs → m ≤ y) → Q (.int m) M
  | none => False
def rdMax2 : List D → Mp → DK → Prop := fun ds M Q => two ds fun d e => anInt d fun i => anInt e fun j => Q (.int (max i j)) M
def rdMin2 : List D → Mp → DK → Prop := fun ds M Q => two ds fun d e => anInt d fun i => anInt e fun j => Q (.int (min i j)) M
def rdAbs : List D → Mp → DK → Prop := fun ds M Q => one ds fun d => anInt d fun i => Q (.int (if i < 0 then -i else i)) M
def rdInt : List D → Mp → DK → Prop := fun ds M Q => one ds fun d => match d with
  | .int i => Q (.int i) M
  | .bl b => Q (.int (if b then 1 else 0)) M
  | _ => False
/-- a value's type -/
def tyD (M : Mp) : D → Option String
  | .non => some "NoneType"
  | .bl _ => some "bool"
  | .int _ => some "int"
  | .str _ => some "str"
  | .tup _ => some "tuple"
  | .fzt _ => none
  | .fzl _ => none
  | .ty _ => none
  | .ref a => match M a with
    | some (.lst _) => some "list"
    | some (.dK _) => some "dict"
    | some (.dT _) => some "dict"
    | _ => none
def isB (t n : String) : Bool := t == n || (t == "bool" && n == "int")
def rdIsi : List D → Mp → DK → Prop := fun ds M Q => two ds fun d e => match e with
  | .ty n => (n = "int" ∨ n = "bool" ∨ n = "str" ∨ n = "tuple" ∨ n = "list") ∧ (match tyD M d with
    | some t => Q (.bl (isB t n)) M
    | none => False)
  | _ => False
theorem isB_kit {t n : String} (ht : t = "NoneType" ∨ t = "bool" ∨ t = "int" ∨ t = "str" ∨ t = "tuple" ∨ t = "list" ∨ t = "dict") (hn : n = "int" ∨ n = "bool" ∨ n = "str" ∨ n = "tuple" ∨ n = "list") : kitB t n = some (isB t n) := by
  rcases ht with rfl | rfl | rfl | rfl | rfl | rfl | rfl <;> rcases hn with rfl | rfl | rfl | rfl | rfl <;> decide +kernel
theorem tyD_ok {K : PySem.W.Frag} {H : Hp} {M : Mp} {x : D} {v : V} {t : String} (s : Sm K M H) (h : tyD M x = some t) (r : Rep K H x v) : TyX K H v (.type t) ∧ (t = "NoneType" ∨ t = "bool" ∨ t = "int" ∨ t = "str" ∨ t = "tuple" ∨ t = "list" ∨ t = "dict") := by
  cases x with
  | non => simp only [tyD, Option.some.injEq] at h; subst h; simp only [Rep] at r; subst r; exact ⟨.base .non, by simp⟩
  | bl b => simp only [tyD, Option.some.injEq] at h; subst h; simp only [Rep] at r; subst r; exact ⟨.base (.bl b), by simp⟩
  | int b => simp only [tyD, Option.some.injEq] at h; subst h; simp only [Rep] at r; subst r; exact ⟨.base (.int b), by simp⟩
  | str b => simp only [tyD, Option.some.injEq] at h; subst h; simp only [Rep] at r; subst r; exact ⟨.base (.str b), by simp⟩
  | tup b => simp only [tyD, Option.some.injEq] at h; subst h; obtain ⟨p, xs, rfl, e, _⟩ := rep_tupH r; exact ⟨.base (.tup e), by simp⟩
  | ref a =>
    simp only [Rep] at r
    subst r
    simp only [tyD] at h
    split at h
    · rename_i e; cases h; obtain ⟨xs, g, _⟩ := s _ _ e; exact ⟨.base (.lst g), by simp⟩
    · rename_i e; cases h; obtain ⟨xs, g, _⟩ := s _ _ e; exact ⟨.base (.dK g), by simp⟩
    · rename_i e; cases h; obtain ⟨xs, g, _⟩ := s _ _ e; exact ⟨.base (.dT g), by simp⟩
    · cases h
  | _ => simp [tyD] at h
section
variable {X : Cx}
theorem c_len : CallR X (.builtin "len") (lC X.K rdLen) := by
  intro pins s σ H vs us Q I rv ⟨ds, M, QD, rd, sm, h, w⟩
  obtain ⟨d, v, rfl, rfl, r1, h⟩ := one_inv h rd
  have sq : ∀ {xs : List D}, seqOf M d = some xs → QD (.int xs.length) M → wpAny (model X.prog X.w) X.A (call (.builtin "len") us) (EP X pins σ Q) X.xe s := fun {xs} e h => by
    obtain ⟨p, ys, rfl, hx, hr⟩ := seqOf_ok sm e r1
    exact call_len_seq pins s σ H _ us Q I rv ⟨p, ys, rfl, hx, by rw [hr.len]; exact w _ _ _ _ h (by simp only [Rep]) sm (Pers.refl H)⟩
  cases d with
  | str z =>
    simp only [Rep] at r1
    exact call_len_str pins s σ H _ us Q I rv ⟨z, by rw [r1], line_mil h.1, w _ _ _ _ h.2 (by simp only [Rep]) sm (Pers.refl H)⟩
  | ref a =>
    simp only [Rep] at r1
    dsimp only at h
    split at h
    · rename_i e
      exact sq (by simp only [seqOf, lstOf, e]) h
    · rename_i e
      obtain ⟨xs, g, r⟩ := sm _ _ e
      exact call_lenD pins s σ H _ us Q I rv ⟨a, xs, by rw [r1], g, by rw [r.len]; exact w _ _ _ _ h (by simp only [Rep]) sm (Pers.refl H)⟩
    · exact h.elim
  | tup ds => exact sq rfl h
  | fzl ds => exact sq rfl h
  | fzt ds => exact sq rfl h
  | _ => exact h.elim
theorem c_tuple : CallR X (.type "tuple") (lC X.K rdTuple) := by
  intro pins s σ H vs us Q I rv ⟨ds, M, QD, rd, sm, h, w⟩
  obtain ⟨d, v, rfl, rfl, r1, h⟩ := one_inv h rd
  cases d with
  | tup es =>
    obtain ⟨p, ys, rfl, a, b⟩ := rep_tup r1
    exact call_tupleT pins s σ H _ us Q I rv ⟨p, ys, rfl, a, w _ _ _ _ h r1 sm (Pers.refl H)⟩
  | fzl es =>
    obtain ⟨p', ys', rfl, a', b'⟩ := rep_fzl r1
    refine call_tuple_of pins s σ H _ us Q I rv ⟨p', ys', rfl, .inl ⟨a', fun l hl => ?_⟩⟩
    have pn : Pers H (upd H l (.tup ys')) := Pers.new hl
    exact w _ _ _ _ h (rep_tup_mk upd_same (Reps.mono pn _ _ b')) (sm.new hl) pn
  | ref a =>
    simp only [Rep] at r1
    subst r1
    dsimp only at h
    split at h
    · rename_i xs e
      obtain ⟨ys, g, b⟩ := sm _ _ (lstOf_some e)
      refine call_tuple_of pins s σ H _ us Q I rv ⟨a, ys, rfl, .inl ⟨SqL.of g, fun l hl => ?_⟩⟩
      have pn : Pers H (upd H l (.tup ys)) := Pers.new hl
      exact w _ _ _ _ h (rep_tup_mk upd_same (Reps.mono pn _ _ b)) (sm.new hl) pn
    · exact h.elim
  | _ => exact h.elim
theorem c_list : CallR X (.type "list") (lC X.K rdListOf) := by
  intro pins s σ H vs us Q I rv ⟨ds, M, QD, rd, sm, h, w⟩
  obtain ⟨d, v, rfl, rfl, r1, h⟩ := one_inv h rd
  split at h
  · rename_i xs e
    obtain ⟨p, ys, rfl, a, b⟩ := seqOf_ok sm e r1
    refine call_list_of pins s σ H _ us Q I rv ⟨p, ys, rfl, a, fun l hl => ?_⟩
    have pn : Pers H (upd H l (.lst ys)) := Pers.new hl
    exact w _ _ _ _ (h l (sm.free hl)) (by simp only [Rep]) (sm.put pn ⟨_, upd_same, Reps.mono pn _ _ b⟩) pn
  · exact h.elim
theorem bind_bl {M : Mp} {d : D} {bs : List Bool} (h : (lstD M d).bind blsOf = some bs) : ∃ ds, lstD M d = some ds ∧ ds = bs.map D.bl := by
  cases e : lstD M d with
  | none => rw [e] at h; cases h
  | some ds => rw [e] at h; exact ⟨ds, rfl, blsOf_eq h⟩
theorem bind_int {M : Mp} {d : D} {bs : List Int} (h : (lstD M d).bind intsOf = some bs) : ∃ ds, lstD M d = some ds ∧ ds = bs.map D.int := by
  cases e : lstD M d with
  | none => rw [e] at h; cases h
  | some ds => rw [e] at h; exact ⟨ds, rfl, intsOf_eq h⟩
theorem c_all (hc : X.calm = true) : CallR X (.builtin "all") (lC X.K rdAll) := by
  intro pins s σ H vs us Q I rv ⟨ds, M, QD, rd, sm, h, w⟩
  obtain ⟨d, v, rfl, rfl, r1, h⟩ := one_inv h rd
  split at h
  · rename_i bs e
    obtain ⟨es, e1, rfl⟩ := bind_bl e
    obtain ⟨p, xs, rfl, a, b⟩ := lstD_ok sm e1 r1
    rw [reps_bls_inv b] at a
    exact cr_all hc pins s σ H _ us Q I rv ⟨p, bs, rfl, a, w _ _ _ _ h (by simp only [Rep]) sm (Pers.refl H)⟩
  · exact h.elim
theorem c_any (hc : X.calm = true) : CallR X (.builtin "any") (lC X.K rdAny) := by
  intro pins s σ H vs us Q I rv ⟨ds, M, QD, rd, sm, h, w⟩
  obtain ⟨d, v, rfl, rfl, r1, h⟩ := one_inv h rd
  split at h
  · rename_i bs e
    obtain ⟨es, e1, rfl⟩ := bind_bl e
    obtain ⟨p, xs, rfl, a, b⟩ := lstD_ok sm e1 r1
    rw [reps_bls_inv b] at a
    exact cr_any hc pins s σ H _ us Q I rv ⟨p, bs, rfl, a, w _ _ _ _ h (by simp only [Rep]) sm (Pers.refl H)⟩
  · exact h.elim
theorem c_sum (hc : X.calm = true) : CallR X (.builtin "sum") (lC X.K rdSum) := by
  intro pins s σ H vs us Q I rv ⟨ds, M, QD, rd, sm, h, w⟩
  obtain ⟨d, v, rfl, rfl, r1, h⟩ := one_inv h rd
  split at h
  · rename_i bs e
    obtain ⟨es, e1, rfl⟩ := bind_int e
    obtain ⟨p, xs, rfl, a, b⟩ := lstD_ok sm e1 r1
    rw [reps_ints_inv b] at a
    exact cr_sum hc pins s σ H _ us Q I rv ⟨p, bs, rfl, a, w _ _ _ _ h (by simp only [Rep]) sm (Pers.refl H)⟩
  · exact h.elim
theorem c_maxL (hc : X.calm = true) : CallR X (.builtin "max") (lC X.K rdMaxL) := by
  intro pins s σ H vs us Q I rv ⟨ds, M, QD, rd, sm, h, w⟩
  obtain ⟨d, v, rfl, rfl, r1, h⟩ := one_inv h rd
  split at h
  · rename_i bs e
    obtain ⟨es, e1, rfl⟩ := bind_int e
    obtain ⟨p, xs, rfl, a, b⟩ := lstD_ok sm e1 r1
    rw [reps_ints_inv b] at a
    exact cr_max hc pins s σ H _ us Q I rv ⟨p, bs, rfl, a, h.1, fun m h1 h2 => w _ _ _ _ (h.2 m h1 h2) (by simp only [Rep]) sm (Pers.refl H)⟩
  · exact h.elim
theorem c_minL (hc : X.calm = true) : CallR X (.builtin "min") (lC X.K rdMinL) := by
  intro pins s σ H vs us Q I rv ⟨ds, M, QD, rd, sm, h, w⟩
  obtain ⟨d, v, rfl, rfl, r1, h⟩ := one_inv h rd
  split at h
  · rename_i bs e
    obtain ⟨es, e1, rfl⟩ := bind_int e
    obtain ⟨p, xs, rfl, a, b⟩ := lstD_ok sm e1 r1
    rw [reps_ints_inv b] at a
    exact cr_min hc pins s σ H _ us Q I rv ⟨p, bs, rfl, a, h.1, fun m h1 h2 => w _ _ _ _ (h.2 m h1 h2) (by simp only [Rep]) sm (Pers.refl H)⟩
  · exact h.elim
theorem c_max2 (hc : X.calm = true) : CallR X (.builtin "max") (lC X.K rdMax2) := by
  intro pins s σ H vs us Q I rv ⟨ds, M, QD, rd, sm, h, w⟩
  obtain ⟨d, e, v, v', rfl, rfl, r1, r2, h⟩ := two_inv h rd
  obtain ⟨i, rfl, rfl, h⟩ := anInt_inv h r1
  obtain ⟨j, rfl, rfl, h⟩ := anInt_inv h r2
  refine call_max2 hc pins s σ H _ us Q I rv ⟨i, j, rfl, ?_⟩
  have e : (if j > i then j else i) = max i j := by split <;> omega
  rw [e]
  exact w _ _ _ _ h (by simp only [Rep]) sm (Pers.refl H)
theorem c_min2 (hc : X.calm = true) : CallR X (.builtin "min") (lC X.K rdMin2) := by
  intro pins s σ H vs us Q I rv ⟨ds, M, QD, rd, sm, h, w⟩
  obtain ⟨d, e, v, v', rfl, rfl, r1, r2, h⟩ := two_inv h rd
  obtain ⟨i, rfl, rfl, h⟩ := anInt_inv h r1
  obtain ⟨j, rfl, rfl, h⟩ := anInt_inv h r2
  refine call_min2 hc pins s σ H _ us Q I rv ⟨i, j, rfl, ?_⟩
  have e : (if j < i then j else i) = min i j := by split <;> omega
  rw [e]
  exact w _ _ _ _ h (by simp only [Rep]) sm (Pers.refl H)
theorem c_abs : CallR X (.builtin "abs") (lC X.K rdAbs) := by
  intro pins s σ H vs us Q I rv ⟨ds, M, QD, rd, sm, h, w⟩
  obtain ⟨d, v, rfl, rfl, r1, h⟩ := one_inv h rd
  obtain ⟨i, rfl, rfl, h⟩ := anInt_inv h r1
  exact call_abs pins s σ H _ us Q I rv ⟨i, rfl, w _ _ _ _ h (by simp only [Rep]) sm (Pers.refl H)⟩
theorem c_int : CallR X (.type "int") (lC X.K rdInt) := by
  intro pins s σ H vs us Q I rv ⟨ds, M, QD, rd, sm, h, w⟩
  obtain ⟨d, v, rfl, rfl, r1, h⟩ := one_inv h rd
  cases d with
  | int i => simp only [Rep] at r1; subst r1; exact call_int1 pins s σ H _ us Q I rv (.inl ⟨i, rfl, w _ _ _ _ h (by simp only [Rep]) sm (Pers.refl H)⟩)
  | bl b => simp only [Rep] at r1; subst r1; exact call_int1 pins s σ H _ us Q I rv (.inr ⟨b, rfl, w _ _ _ _ h (by simp only [Rep]) sm (Pers.refl H)⟩)
  | _ => exact h.elim
theorem c_isi : CallR X (.builtin "isinstance") (lC X.K rdIsi) := by
  intro pins s σ H vs us Q I rv ⟨ds, M, QD, rd, sm, h, w⟩
  obtain ⟨d, e, v, v', rfl, rfl, r1, r2, h⟩ := two_inv h rd
  cases e with
  | ty n =>
    simp only [Rep] at r2
    subst r2
    obtain ⟨hn, h⟩ := h
    split at h
    · rename_i t e
      obtain ⟨h1, h2⟩ := tyD_ok sm e r1
      exact call_isi pins s σ H _ us Q I rv ⟨v, .ty n, .type t, .type n, isB t n, rfl, .ty n, h1, kit_ty (isB_kit h2 hn), w _ _ _ _ h (by simp only [Rep]) sm (Pers.refl H)⟩
    · exact h.elim
  | _ => exact h.elim
/-- a built-in type as a value -/
theorem qe_ty {x : Str} {n : String} {pos : Pos} (hg : Gl X x) (hm : X.mg x = none) (hv : bootBuiltins x = some (.type n)) (hn : x ≠ "__name__" := by decide) (hd : (x == ("__debug__" : Str)) = false := by decide) : PE X (.Name x pos) (lE X.K (dC (.ty n))) :=
  qe_c (pe_bltn (v := .ty n) hg hm hv rfl hn hd) fun H => by simp only [Rep]
end

/-! ### lists' methods -/
def isLst (x : D) (M : Mp) : Prop := match x with
  | .ref a => (match lstOf M a with
    | some _ => True
    | none => False)
  | _ => False
def dMt (rd : D → List D → Mp → DK → Prop) (to : RE) (t : RA) : RE := fun δ M Q => to δ M fun x M1 => isLst x M1 ∧ t δ M1 fun ds M2 => rd x ds M2 Q
def lM (K : PySem.W.Frag) (rd : D → List D → Mp → DK → Prop) : V → List V → Hp → VK → Prop := fun v vs H Q => ∃ x ds M QD, Rep K H x v ∧ Reps K H ds vs ∧ Sm K M H ∧ rd x ds M QD ∧ Wk K H QD Q
theorem isLst_ty {K : PySem.W.Frag} {H : Hp} {M : Mp} {x : D} {v : V} (s : Sm K M H) (h : isLst x M) (r : Rep K H x v) : tyV K "list" v H := by
  cases x with
  | ref a =>
    simp only [Rep] at r
    subst r
    simp only [isLst] at h
    split at h
    · rename_i e
      obtain ⟨xs, g, _⟩ := s _ _ (lstOf_some e)
      exact Or.inl ⟨rfl, _, SqL.of g⟩
    · exact h.elim
  | _ => exact h.elim
def aList (x : D) (M : Mp) (k : Addr → List D → Prop) : Prop := match x with
  | .ref a => (match lstOf M a with
    | some xs => k a xs
    | none => False)
  | _ => False
theorem aList_inv {K : PySem.W.Frag} {H : Hp} {M : Mp} {x : D} {v : V} {k : Addr → List D → Prop} (s : Sm K M H) (h : aList x M k) (r : Rep K H x v) : ∃ a xs ys, x = .ref a ∧ v = .ref a ∧ H a = some (.lst ys) ∧ Reps K H xs ys ∧ M a = some (.lst xs) ∧ k a xs := by
  cases x with
  | ref a =>
    simp only [Rep] at r
    simp only [aList] at h
    split at h
    · rename_i xs e
      obtain ⟨ys, g, q⟩ := s _ _ (lstOf_some e)
      exact ⟨a, xs, ys, rfl, r, g, q, lstOf_some e, h⟩
    · exact h.elim
  | _ => exact h.elim
def rdAppend : D → List D → Mp → DK → Prop := fun x ds M Q => one ds fun d => aList x M fun a xs => xs.length < 1000000 ∧ Q .non (mup M a (.lst (xs ++ [d])))
def rdExtend : D → List D → Mp → DK → Prop := fun x ds M Q => one ds fun d => aList x M fun a xs => aList d M fun _ ys => xs.length + ys.length ≤ 1000000 ∧ Q .non (mup M a (.lst (xs ++ ys)))
def rdPop : D → List D → Mp → DK → Prop := fun x ds M Q => ds = [] ∧ aList x M fun a xs => match xs.getLast? with
  | some d => Q d (mup M a (.lst xs.dropLast))
  | none => False
section
variable {X : Cx} {name : Str} {id : String} {o e : Expr} {es : List Expr} {to : RE} {t : RA} {apos cpos : Pos} {rd : D → List D → Mp → DK → Prop}
theorem m_append : MtM X "list.append" (lM X.K rdAppend) := by
  intro pins s σ H v vs vv us Q I rv rs ⟨x, ds, M, QD, rx, rds, sm, h, w⟩
  obtain ⟨d, u, rfl, rfl, r1, h⟩ := one_inv h rds
  obtain ⟨a, xs, ys, rfl, rfl, g, q, _, h1, h2⟩ := aList_inv sm h rx
  have pc : Pers H (upd H a (.lst (ys ++ [u]))) := Pers.chg g (by intro _ z; cases z) (by intro _ _ z; cases z)
  exact mt_append pins s σ H _ _ vv us Q I rv rs ⟨a, ys, u, rfl, rfl, g, by rw [q.len]; exact Nat.lt_of_lt_of_le h1 (by decide), w _ _ _ _ h2 (by simp only [Rep]) (sm.put (u := .lst (xs ++ [d])) pc ⟨_, upd_same, (Reps.mono pc _ _ q).app (reps_cons (Rep.mono pc _ _ r1) reps_nil)⟩) pc⟩
theorem m_extend : MtM X "list.extend" (lM X.K rdExtend) := by
  intro pins s σ H v vs vv us Q I rv rs ⟨x, ds, M, QD, rx, rds, sm, h, w⟩
  obtain ⟨d, u, rfl, rfl, r1, h⟩ := one_inv h rds
  obtain ⟨a, xs, ys, rfl, rfl, g, q, _, h⟩ := aList_inv sm h rx
  obtain ⟨b, zs, ws, rfl, rfl, g2, q2, _, h1, h2⟩ := aList_inv sm h r1
  have pc : Pers H (upd H a (.lst (ys ++ ws))) := Pers.chg g (by intro _ z; cases z) (by intro _ _ z; cases z)
  exact mt_extend pins s σ H _ _ vv us Q I rv rs ⟨a, b, ys, ws, rfl, rfl, g, g2, by rw [q.len, q2.len]; exact line_mil h1, w _ _ _ _ h2 (by simp only [Rep]) (sm.put (u := .lst (xs ++ zs)) pc ⟨_, upd_same, (Reps.mono pc _ _ q).app (Reps.mono pc _ _ q2)⟩) pc⟩
theorem qe_lm (pa : PlainAttrs "list") (slot : Slot "list" name id) (hty : typeOf (.builtin id) = pure (.type "method_descriptor")) (hm : MtR X id (lM X.K rd)) (ho : PE X o (lE X.K to)) (ha : PA X (e :: es) (lA X.K t))
    (hbase : attributeBase o name X.env (eval o X.env) = eval o X.env := by rfl)
    (hfew : ((backTo cpos (starEach (e :: es) X.env)).all (fun x => !x.1) && (backToKw cpos (keywordEach [] X.env)).all (fun x => x.1.isSome)
      && decide ((e :: es).length + ([] : List Keyword).length + (if ([] : List Keyword).isEmpty then 0 else 1) < 30)) = true := by rfl)
    (hline : (apos.endLine == cpos.line) = true := by rfl) (hs : starEach (e :: es) X.env = (false, eval e X.env) :: starEach es X.env := by rfl) (hplain : (backTo cpos (starEach es X.env)).any (·.1) = false := by rfl) : PE X (.Call (.Attribute o name apos) (e :: es) [] cpos) (lE X.K (dMt rd to t)) := by
  refine PE.wk (pe_bm pa slot hty hm ho ha hbase hfew hline hs hplain) fun σ H Q ⟨δ, M, QD, r, s, h, w⟩ => ?_
  refine ⟨δ, M, _, r, s, h, fun x M1 v H1 q1 r1 s1 p1 => ⟨isLst_ty s1 q1.1 r1, δ, M1, _, r.mono p1, s1, q1.2, fun ds M2 vs H2 q2 r2 s2 p2 => ?_⟩⟩
  exact ⟨x, ds, M2, QD, Rep.mono p2 _ _ r1, r2, s2, q2, w.on (p1.trans p2)⟩
end
end Dl
/-! Dicts, sorted, over data. -/
namespace Dl
open PySem PySem.Spec PyProof.Rows L2

section
variable {κ : Type} [DecidableEq κ]
def dlook (kvs : List (κ × D)) (k : κ) : Option D := (kvs.find? fun kv => decide (kv.1 = k)).map (·.2)
def dput (kvs : List (κ × D)) (k : κ) (v : D) : List (κ × D) :=
  if (kvs.any fun kv => decide (kv.1 = k)) = true then kvs.map (fun kv => if kv.1 = k then (kv.1, v) else kv) else kvs ++ [(k, v)]
def ddrop (kvs : List (κ × D)) (k : κ) : List (κ × D) := kvs.filter fun kv => decide (kv.1 ≠ k)
variable {K : PySem.W.Frag} {H : Hp}
theorem look_rep {k : κ} : ∀ {kvs : List (κ × D)} {xs : List (κ × V)}, RepKV K H kvs xs → (∀ d, dlook kvs k = some d → ∃ v, valV xs k = some v ∧ Rep K H d v) ∧ (dlook kvs k = none → valV xs k = none)
  | [], xs, h => by
    rw [show xs = [] from h]
    exact ⟨fun d e => by simp [dlook] at e, fun _ => rfl⟩
  | (j, d) :: r, xs, h => by
    obtain ⟨v, vs, rfl, a, b⟩ := h
    by_cases e : j = k
    · subst e
      refine ⟨fun d' e => ?_, fun e => ?_⟩
      · simp [dlook] at e; subst e; exact ⟨v, valV_pos rfl, a⟩
      · simp [dlook] at e
    · have e1 : dlook ((j, d) :: r) k = dlook r k := by simp [dlook, List.find?_cons, e]
      rw [e1, valV_neg (show ¬ (j, v).1 = k from e)]
      exact look_rep b
theorem any_rep {k : κ} : ∀ {kvs : List (κ × D)} {xs : List (κ × V)}, RepKV K H kvs xs → (xs.any fun kv => decide (kv.1 = k)) = (kvs.any fun kv => decide (kv.1 = k))
  | [], xs, h => by rw [show xs = [] from h]; rfl
  | (j, d) :: r, xs, h => by
    obtain ⟨v, vs, rfl, a, b⟩ := h
    rw [List.any_cons, List.any_cons, any_rep b]
theorem repKV_app : ∀ {kvs kvs' : List (κ × D)} {xs xs' : List (κ × V)}, RepKV K H kvs xs → RepKV K H kvs' xs' → RepKV K H (kvs ++ kvs') (xs ++ xs')
  | [], _, xs, _, h, g => by rw [show xs = [] from h]; exact g
  | (j, d) :: r, _, xs, _, h, g => by
    obtain ⟨v, vs, rfl, a, b⟩ := h
    exact ⟨v, vs ++ _, rfl, a, repKV_app b g⟩
theorem map_rep {k : κ} {d : D} {v : V} (q : Rep K H d v) : ∀ {kvs : List (κ × D)} {xs : List (κ × V)}, RepKV K H kvs xs → RepKV K H (kvs.map fun kv => if kv.1 = k then (kv.1, d) else kv) (xs.map fun kv => if kv.1 = k then (kv.1, v) else kv)
  | [], xs, h => by rw [show xs = [] from h]; exact rfl
  | (j, e) :: r, xs, h => by
    obtain ⟨u, vs, rfl, a, b⟩ := h
    rw [List.map_cons, List.map_cons]
    by_cases ej : j = k
    · rw [if_pos (show (j, e).1 = k from ej), if_pos (show (j, u).1 = k from ej)]
      exact ⟨v, _, rfl, q, map_rep q b⟩
    · rw [if_neg (show ¬ (j, e).1 = k from ej), if_neg (show ¬ (j, u).1 = k from ej)]
      exact ⟨u, _, rfl, a, map_rep q b⟩
theorem put_rep {k : κ} {d : D} {v : V} {kvs : List (κ × D)} {xs : List (κ × V)} (h : RepKV K H kvs xs) (q : Rep K H d v) : RepKV K H (dput kvs k d) (putK xs k v) := by
  unfold dput putK
  rw [any_rep h]
  split
  · exact map_rep q h
  · exact repKV_app h ⟨v, [], rfl, q, rfl⟩
theorem drop_rep {k : κ} : ∀ {kvs : List (κ × D)} {xs : List (κ × V)}, RepKV K H kvs xs → RepKV K H (ddrop kvs k) (dropK xs k)
  | [], xs, h => by rw [show xs = [] from h]; exact rfl
  | (j, e) :: r, xs, h => by
    obtain ⟨u, vs, rfl, a, b⟩ := h
    have ih := drop_rep (k := k) b
    unfold ddrop dropK at ih ⊢
    rw [List.filter_cons, List.filter_cons]
    by_cases ej : j = k
    · rw [if_neg (by simp [ej]), if_neg (by simp [ej])]; exact ih
    · rw [if_pos (by simp [ej]), if_pos (by simp [ej])]; exact ⟨u, _, rfl, a, ih⟩
end
/-- a key, of a dict with int and text keys; of one with tuple keys -/
def keyD : D → Option Key
  | .int i => some (.inl i)
  | .str x => some (.inr x)
  | _ => none
def keysD : List D → Option (List Key)
  | [] => some []
  | d :: r => match keyD d, keysD r with
    | some k, some ks => some (k :: ks)
    | _, _ => none
def tkeyD : D → Option (List Key)
  | .tup ds => keysD ds
  | _ => none
theorem keyD_ok {K : PySem.W.Frag} {H : Hp} {d : D} {v : V} {k : Key} (h : keyD d = some k) (r : Rep K H d v) : v = kV k := by
  cases d with
  | int i => simp only [keyD, Option.some.injEq] at h; subst h; simp only [Rep] at r; exact r
  | str i => simp only [keyD, Option.some.injEq] at h; subst h; simp only [Rep] at r; exact r
  | _ => simp [keyD] at h
theorem keysD_ok {K : PySem.W.Frag} {H : Hp} : ∀ {ds : List D} {vs : List V} {ks : List Key}, keysD ds = some ks → Reps K H ds vs → vs = ks.map kV
  | [], vs, ks, h, r => by simp only [keysD, Option.some.injEq] at h; subst h; exact reps_nil_inv r
  | d :: ds, vs, ks, h, r => by
    obtain ⟨v, w, rfl, a, b⟩ := reps_cons_inv r
    simp only [keysD] at h
    split at h
    · rename_i k l e1 e2
      cases h
      rw [keyD_ok e1 a, keysD_ok e2 b]; rfl
    · cases h
theorem tkeyD_ok {K : PySem.W.Frag} {H : Hp} {d : D} {v : V} {k : List Key} (h : tkeyD d = some k) (r : Rep K H d v) : ∃ b, v = .ref b ∧ H b = some (.tup (k.map kV)) := by
  cases d with
  | tup ds =>
    obtain ⟨p, xs, rfl, e, q⟩ := rep_tupH r
    rw [keysD_ok (show keysD ds = some k from h) q] at e
    exact ⟨p, rfl, e⟩
  | _ => simp [tkeyD] at h
/-- what a dict has at a key: none where it has no such key -/
def dGetAt (M : Mp) (x y : D) (k : Option D → Prop) : Prop := match x with
  | .ref a => (match M a with
    | some (.dK kvs) => (match keyD y with
      | some j => k (dlook kvs j)
      | none => False)
    | some (.lk (.dK kvs)) => (match keyD y with
      | some j => k (dlook kvs j)
      | none => False)
    | some (.dT kvs) => (match tkeyD y with
      | some j => k (dlook kvs j)
      | none => False)
    | _ => False)
  | _ => False
theorem dGetAt_ok {K : PySem.W.Frag} {H : Hp} {M : Mp} {x y : D} {v u : V} {k : Option D → Prop} (s : Sm K M H) (h : dGetAt M x y k) (rx : Rep K H x v) (ry : Rep K H y u) :
    ∃ a o d, v = .ref a ∧ DGet H a u o ∧ k d ∧ ((d = none ∧ o = none) ∨ ∃ e w, d = some e ∧ o = some w ∧ Rep K H e w) := by
  cases x with
  | ref a =>
    simp only [Rep] at rx
    subst rx
    have fin : ∀ {κ : Type} [DecidableEq κ] {kvs : List (κ × D)} {xs : List (κ × V)} {j : κ}, RepKV K H kvs xs → (∃ o, o = valV xs j ∧ ((dlook kvs j = none ∧ o = none) ∨ ∃ e w, dlook kvs j = some e ∧ o = some w ∧ Rep K H e w)) := fun {κ} _ {kvs xs j} r => by
      refine ⟨_, rfl, ?_⟩
      cases e : dlook kvs j with
      | none => exact .inl ⟨rfl, (look_rep r).2 e⟩
      | some d => obtain ⟨w, h1, h2⟩ := (look_rep r).1 d e; exact .inr ⟨d, w, rfl, h1, h2⟩
    simp only [dGetAt] at h
    split at h
    · rename_i kvs e
      split at h
      · rename_i j ej
        obtain ⟨xs, g, r⟩ := s _ _ e
        obtain ⟨o, ho, q⟩ := fin (j := j) r
        rw [keyD_ok ej ry]
        exact ⟨a, o, _, rfl, ho ▸ DGet.k g, h, q⟩
      · exact h.elim
    · rename_i kvs e
      split at h
      · rename_i j ej
        obtain ⟨od, xs, g, r⟩ := s _ _ e
        obtain ⟨o, ho, q⟩ := fin (j := j) r
        rw [keyD_ok ej ry]
        exact ⟨a, o, _, rfl, .inl ⟨xs, j, .inr ⟨od, g⟩, rfl, ho⟩, h, q⟩
      · exact h.elim
    · rename_i kvs e
      split at h
      · rename_i j ej
        obtain ⟨xs, g, r⟩ := s _ _ e
        obtain ⟨o, ho, q⟩ := fin (j := j) r
        obtain ⟨b, rfl, hb⟩ := tkeyD_ok ej ry
        exact ⟨a, o, _, rfl, ho ▸ DGet.t g hb, h, q⟩
      · exact h.elim
    · exact h.elim
  | _ => exact h.elim
def dDGet (td ty : RE) : RE := fun δ M Q => td δ M fun x M1 => ty δ M1 fun y M2 => dGetAt M2 x y fun o => match o with
  | some d => Q d M2
  | none => False
def dDIn (ty td : RE) : RE := fun δ M Q => ty δ M fun y M1 => td δ M1 fun x M2 => dGetAt M2 x y fun o => Q (.bl o.isSome) M2
def dDNotIn (ty td : RE) : RE := fun δ M Q => ty δ M fun y M1 => td δ M1 fun x M2 => dGetAt M2 x y fun o => Q (.bl (!o.isSome)) M2
def dDNewK : RE := fun δ M Q => ∀ p, M p = none → Q (.ref p) (mup M p (.dK []))
def dDNewT : RE := fun δ M Q => ∀ p, M p = none → Q (.ref p) (mup M p (.dT []))
/-- x[y] = v -/
def dPutAt (M : Mp) (x y v : D) (k : Mp → Prop) : Prop := match x with
  | .ref a => (match M a with
    | some (.dK kvs) => (match keyD y with
      | some j => kvs.length < 1000000 ∧ k (mup M a (.dK (dput kvs j v)))
      | none => False)
    | some (.dT kvs) => (match tkeyD y with
      | some j => kvs.length < 1000000 ∧ k (mup M a (.dT (dput kvs j v)))
      | none => False)
    | _ => False)
  | _ => False
def dDPut (td ty tv : RE) : RS := fun E δ M => tv δ M fun v M1 => td δ M1 fun x M2 => ty δ M2 fun y M3 => dPutAt M3 x y v fun M4 => E.nx δ M4
def isDk (x : D) (M : Mp) : Prop := match x with
  | .ref a => (match M a with
    | some (.dK _) => True
    | _ => False)
  | _ => False
def dPopAt (M : Mp) (x y : D) (Q : DK) : Prop := match x with
  | .ref a => (match M a with
    | some (.dK kvs) => (match keyD y with
      | some j => (match dlook kvs j with
        | some d => Q d (mup M a (.dK (ddrop kvs j)))
        | none => False)
      | none => False)
    | _ => False)
  | _ => False
def dDPop (td ty : RE) : RE := fun δ M Q => td δ M fun x M1 => isDk x M1 ∧ ty δ M1 fun y M2 => dPopAt M2 x y Q
section
variable {X : Cx} {o i value e : Expr} {td ty tv : RE} {pos pos' apos cpos : Pos}
theorem qe_dnewK : PE X (.Dict [] [] pos) (lE X.K dDNewK) := PE.wk pe_dnewK fun σ H Q ⟨δ, M, QD, r, s, h, w⟩ p hp =>
  have pn : Pers H (upd H p (.dK [])) := Pers.new hp
  w _ _ _ _ (h p (s.free hp)) (by simp only [Rep]) (s.put (u := .dK []) pn ⟨[], upd_same, rfl⟩) pn
theorem qe_dnewT : PE X (.Dict [] [] pos) (lE X.K dDNewT) := PE.wk pe_dnewT fun σ H Q ⟨δ, M, QD, r, s, h, w⟩ p hp =>
  have pn : Pers H (upd H p (.dT [])) := Pers.new hp
  w _ _ _ _ (h p (s.free hp)) (by simp only [Rep]) (s.put (u := .dT []) pn ⟨[], upd_same, rfl⟩) pn
theorem qe_dget (hu : X.A.units + 1 < cLine) (ho : PE X o (lE X.K td)) (hi : PE X i (lE X.K ty)) (hs : NoSl i := by exact fun _ _ => rfl) : PE X (.Subscript o i pos) (lE X.K (dDGet td ty)) := by
  refine PE.wk (pe_dget hu ho hi hs) fun σ H Q ⟨δ, M, QD, r, s, h, w⟩ => ?_
  refine ⟨δ, M, _, r, s, h, fun x M1 v H1 q1 r1 s1 p1 => ⟨δ, M1, _, r.mono p1, s1, q1, fun y M2 u H2 q2 r2 s2 p2 => ?_⟩⟩
  obtain ⟨a, ov, d, rfl, g, hk, q⟩ := dGetAt_ok s2 q2 (Rep.mono p2 _ _ r1) r2
  rcases q with ⟨rfl, rfl⟩ | ⟨e, z, rfl, rfl, rz⟩
  · exact hk.elim
  · exact ⟨a, z, rfl, g, w _ _ _ _ hk rz s2 (p1.trans p2)⟩
theorem lDIn {σ : L2.St} {H : Hp} {Q : VK} (h : lE X.K (dDIn ty td) σ H Q) : tDIn (lE X.K ty) (lE X.K td) σ H Q := by
  obtain ⟨δ, M, QD, r, s, h, w⟩ := h
  refine ⟨δ, M, _, r, s, h, fun y M1 v H1 q1 r1 s1 p1 => ⟨δ, M1, _, r.mono p1, s1, q1, fun x M2 u H2 q2 r2 s2 p2 => ?_⟩⟩
  obtain ⟨a, ov, d, rfl, g, hk, q⟩ := dGetAt_ok s2 q2 r2 (Rep.mono p2 _ _ r1)
  refine ⟨a, ov, rfl, g, w _ _ _ _ hk ?_ s2 (p1.trans p2)⟩
  rcases q with ⟨rfl, rfl⟩ | ⟨e, z, rfl, rfl, rz⟩ <;> simp only [Rep] <;> rfl
theorem lDNotIn {σ : L2.St} {H : Hp} {Q : VK} (h : lE X.K (dDNotIn ty td) σ H Q) : tDNotIn (lE X.K ty) (lE X.K td) σ H Q := by
  obtain ⟨δ, M, QD, r, s, h, w⟩ := h
  refine ⟨δ, M, _, r, s, h, fun y M1 v H1 q1 r1 s1 p1 => ⟨δ, M1, _, r.mono p1, s1, q1, fun x M2 u H2 q2 r2 s2 p2 => ?_⟩⟩
  obtain ⟨a, ov, d, rfl, g, hk, q⟩ := dGetAt_ok s2 q2 r2 (Rep.mono p2 _ _ r1)
  refine ⟨a, ov, rfl, g, w _ _ _ _ hk ?_ s2 (p1.trans p2)⟩
  rcases q with ⟨rfl, rfl⟩ | ⟨e, z, rfl, rfl, rz⟩ <;> simp only [Rep] <;> rfl
theorem lTest {t : RE} {t' : TE} {σ : L2.St} {H : Hp} {Q : Bool → Hp → Prop} (k : ∀ Q, lE X.K t σ H Q → t' σ H Q) (h : lT X.K (dTest t) σ H Q) : tB t' σ H Q := by
  obtain ⟨δ, M, QD, r, s, h, w⟩ := h
  refine k _ ⟨δ, M, _, r, s, h, fun d M1 v H1 q1 r1 s1 p1 => ?_⟩
  cases d with
  | bl b => simp only [Rep] at r1; exact ⟨b, r1, w b M1 H1 q1 s1 p1⟩
  | _ => exact q1.elim
theorem qe_din (hu : X.A.units + 1 < cLine) (hi : PE X i (lE X.K ty)) (ho : PE X o (lE X.K td)) (h1 : behindInMarks .In o = false := by rfl) : PE X (.Compare i [.In] [o] pos) (lE X.K (dDIn ty td)) := PE.wk (pe_cmp (pc_din hu hi ho) h1) fun σ H Q h => lDIn h
theorem qe_dnotin (hu : X.A.units + 1 < cLine) (hi : PE X i (lE X.K ty)) (ho : PE X o (lE X.K td)) (h1 : behindInMarks .NotIn o = false := by rfl) : PE X (.Compare i [.NotIn] [o] pos) (lE X.K (dDNotIn ty td)) := PE.wk (pe_cmp (pc_dnotin hu hi ho) h1) fun σ H Q h => lDNotIn h
theorem qt_din (hu : X.A.units + 1 < cLine) (hi : PE X i (lE X.K ty)) (ho : PE X o (lE X.K td)) (h1 : behindInMarks .In o = false := by rfl) : PT X (.Compare i [.In] [o] pos) (lT X.K (dTest (dDIn ty td))) := PT.wk (pt_cmp (pc_din hu hi ho) h1) fun σ H Q h => lTest (fun _ => lDIn) h
theorem qt_dnotin (hu : X.A.units + 1 < cLine) (hi : PE X i (lE X.K ty)) (ho : PE X o (lE X.K td)) (h1 : behindInMarks .NotIn o = false := by rfl) : PT X (.Compare i [.NotIn] [o] pos) (lT X.K (dTest (dDNotIn ty td))) := PT.wk (pt_cmp (pc_dnotin hu hi ho) h1) fun σ H Q h => lTest (fun _ => lDNotIn) h
theorem qs_dput (hu : X.A.units + 1 < cLine) (ho : PE X o (lE X.K td)) (hi : PE X i (lE X.K ty)) (hv : PE X value (lE X.K tv)) (hs : swapsWith value (some (.Subscript o i pos')) pos.line X.env = pure false := by rfl) :
    PS X (.Assign [.Subscript o i pos'] value pos) (lS X.K (dDPut td ty tv)) := by
  refine PS.wk (ps_dput hu ho hi hv hs) fun D σ H ⟨δ, M, E, r, s, h, w⟩ => ?_
  refine ⟨δ, M, _, r, s, h, fun d M1 v H1 q1 r1 s1 p1 => ⟨δ, M1, _, r.mono p1, s1, q1, fun x M2 u H2 q2 r2 s2 p2 => ⟨δ, M2, _, (r.mono p1).mono p2, s2, q2, fun y M3 z H3 q3 r3 s3 p3 => ?_⟩⟩⟩
  have ru := Rep.mono p3 _ _ r2
  have rv := Rep.mono (p2.trans p3) _ _ r1
  have pp := (p1.trans p2).trans p3
  cases x with
  | ref a =>
    simp only [Rep] at ru
    subst ru
    simp only [dPutAt] at q3
    split at q3
    · rename_i kvs e
      split at q3
      · rename_i j ej
        obtain ⟨xs, g, rr⟩ := s3 _ _ e
        rw [keyD_ok ej r3]
        have pc : Pers H3 (upd H3 a (.dK (putK xs j v))) := Pers.chg g (by intro _ z; cases z) (by intro _ _ z; cases z)
        refine ⟨a, _, rfl, DPut.k g (by rw [rr.len]; exact Nat.lt_of_lt_of_le q3.1 (by decide)), ?_⟩
        exact w.nx _ _ _ _ q3.2 (r.mono (pp.trans pc)) (s3.put (u := .dK (dput kvs j d)) pc ⟨_, upd_same, (put_rep rr rv).mono pc⟩) (pp.trans pc)
      · exact q3.elim
    · rename_i kvs e
      split at q3
      · rename_i j ej
        obtain ⟨xs, g, rr⟩ := s3 _ _ e
        obtain ⟨b, rfl, hb⟩ := tkeyD_ok ej r3
        have pc : Pers H3 (upd H3 a (.dT (putK xs j v))) := Pers.chg g (by intro _ z; cases z) (by intro _ _ z; cases z)
        refine ⟨a, _, rfl, DPut.t g hb (by rw [rr.len]; exact Nat.lt_of_lt_of_le q3.1 (by decide)), ?_⟩
        exact w.nx _ _ _ _ q3.2 (r.mono (pp.trans pc)) (s3.put (u := .dT (dput kvs j d)) pc ⟨_, upd_same, (put_rep rr rv).mono pc⟩) (pp.trans pc)
      · exact q3.elim
    · exact q3.elim
  | _ => exact q3.elim
theorem qe_dpop (ho : PE X o (lE X.K td)) (he : PE X e (lE X.K ty)) (m : M1 X o "pop" apos e cpos) : PE X (.Call (.Attribute o "pop" apos) [e] [] cpos) (lE X.K (dDPop td ty)) := by
  refine PE.wk (pe_dpop1 ho he m) fun σ H Q ⟨δ, M, QD, r, s, h, w⟩ => ?_
  refine ⟨δ, M, _, r, s, h, fun x M1 v H1 q1 r1 s1 p1 => ?_⟩
  obtain ⟨q0, q1⟩ := q1
  cases x with
  | ref a =>
    simp only [isDk] at q0
    split at q0
    · rename_i kvs e2
      simp only [Rep] at r1
      obtain ⟨xs, g, rr⟩ := s1 _ _ e2
      refine ⟨a, r1, .inl ⟨xs, .inl g⟩, δ, M1, _, r.mono p1, s1, q1, fun y M2 u H2 q2 r2 s2 p2 => ?_⟩
      simp only [dPopAt] at q2
      split at q2
      · rename_i kvs2 f
        split at q2
        · rename_i j ej
          split at q2
          · rename_i d ed
            obtain ⟨ys, g2, rr2⟩ := s2 _ _ f
            obtain ⟨z, h1, h2⟩ := (look_rep rr2).1 d ed
            have pc : Pers H2 (upd H2 a (.dK (dropK ys j))) := Pers.chg g2 (by intro _ z; cases z) (by intro _ _ z; cases z)
            exact ⟨ys, j, z, g2, keyD_ok ej r2, h1, w _ _ _ _ q2 (Rep.mono pc _ _ h2) (s2.put (u := .dK (ddrop kvs2 j)) pc ⟨_, upd_same, (drop_rep rr2).mono pc⟩) ((p1.trans p2).trans pc)⟩
          · exact q2.elim
        · exact q2.elim
      · exact q2.elim
    · exact q0.elim
  | _ => exact q0.elim
end

/-! ### sorted -/
def sortD (ds : List D) : List D := ds.mergeSort (PySem.W.dataLe false py)
def rdSorted : List D → Mp → DK → Prop := fun ds M Q => one ds fun d => match lstD M d with
  | some xs => (∀ x ∈ xs, Pln 60 x) ∧ PySem.W.AllAlike (xs.map py) ∧ PySem.W.Sortable (xs.map py) ∧ xs.length ≤ 1000000 ∧ ∀ p, M p = none → Q (.ref p) (mup M p (.lst (sortD xs)))
  | none => False
theorem each_reads {X : Cx} {pins : List (Addr × Obj)} {σ : L2.St} {H : Hp} {s : Shared} (I : Inv X pins σ H s) : ∀ {ds : List D} {xs : List V} {us : List Value}, (∀ x ∈ ds, Pln 60 x) → Reps X.K H ds xs → Vals xs us →
    PySem.W.EachIs (fun u d => ∃ x, RelV x u ∧ Rep X.K H d x) us ds ∧ PySem.W.EachIs (fun u d => ∃ as, Reads s.heap u (py d) as) us ds
  | [], xs, us, _, r, rv => by
    rw [reps_nil_inv r] at rv
    cases rv
    exact ⟨.nil, .nil⟩
  | d :: ds, xs, us, hp, r, rv => by
    obtain ⟨v, w, rfl, a, b⟩ := reps_cons_inv r
    cases rv with
    | cons r1 r2 =>
      obtain ⟨e1, e2⟩ := each_reads I (fun x m => hp x (List.mem_cons_of_mem _ m)) b r2
      obtain ⟨as, g⟩ := Dp.reads I (py d) v _ (dp_pl d v (hp d (by simp)).ok.1 a) r1
      exact ⟨.cons ⟨v, r1, a⟩ e1, .cons ⟨as, g⟩ e2⟩
theorem each_vals {K : PySem.W.Frag} {H : Hp} : ∀ {us : List Value} {ds : List D}, PySem.W.EachIs (fun u d => ∃ x, RelV x u ∧ Rep K H d x) us ds → ∃ xs, Vals xs us ∧ Reps K H ds xs
  | _, _, .nil => ⟨[], .nil, reps_nil⟩
  | _, _, .cons ⟨x, r, q⟩ t => by
    obtain ⟨xs, a, b⟩ := each_vals t
    exact ⟨x :: xs, .cons r a, reps_cons q b⟩
theorem c_sorted {X : Cx} (hu : X.A.units + 64 < cLine) : CallR X (.builtin "sorted") (lC X.K rdSorted) := by
  intro pins s σ H vs us Q I rv ⟨ds, M, QD, rd, sm, h, w⟩
  obtain ⟨d, v, rfl, rfl, r1, h⟩ := one_inv h rd
  split at h
  · rename_i xs e
    obtain ⟨h1, h2, h3, h4, h5⟩ := h
    obtain ⟨p, ys, rfl, a, b⟩ := lstD_ok sm e r1
    obtain ⟨its, rs, hl, hz⟩ := I.list a
    rw [Vals.ref1 rv]
    obtain ⟨e1, e2⟩ := each_reads I h1 b rs
    refine PySem.W.sorted_data (enc := py) hl.isList e1 e2 h2 h3 (line_mil h4) (fun b m => ?_) fun out ho e3 => ?_
    · have := (h1 b m).ok.2.2
      omega
    · obtain ⟨zs, g1, g2⟩ := each_vals e3
      obtain ⟨ep, he⟩ := PyProof.Rows.sortedAll_at s.heap its (List.toArray out)
      have hf : H (s.heap.objs.size + 1) = none := I.hok.fresh (Nat.le_succ _)
      have hlz : zs.length ≤ sizeLine := by rw [g1.length, ho]; exact line_mil h4
      have pn : Pers H (upd H (s.heap.objs.size + 1) (.lst zs)) := Pers.new hf
      exact ⟨.ref _, upd H (s.heap.objs.size + 1) (.lst zs), I.laid (t' := s.toks) (fun _ _ => PyProof.Rows.sortedAll_old) (Nat.le_succ _) ⟨hlz, out, ep, g1, he⟩, rfl, w _ _ _ _ (h5 _ (sm.free hf)) (by simp only [Rep]) (sm.put (u := .lst (sortD xs)) pn ⟨_, upd_same, Reps.mono pn _ _ g2⟩) pn⟩
  · exact h.elim
end Dl
/-! Small things: built-ins' names, a pair stored, facts about the top. -/
namespace Dl
open PySem PySem.Spec PyProof.Rows L2

/-- a, b = x, y: no tuple is made -/
def dPar (i j : Nat) (ta : RA) : RS := fun E δ M => ta δ M fun ds M1 => two ds fun d e => E.nx ((δ.set i (some d)).set j (some e)) M1
section
variable {X : Cx} {a b : Expr} {ta : RA}
theorem qs_par (i j : Nat) {x y : Str} {px py pt pos : Pos} {kt k2 pt2} (hc : X.calm = true) (hN : X.N.Nodup) (hi : X.N[i]? = some x) (hj : X.N[j]? = some y) (hij : i ≠ j)
    (hx : X.env.scope.names.lookup x = some .local) (hy : X.env.scope.names.lookup y = some .local) (ha : PA X [a, b] (lA X.K ta))
    (hw : swappedStores [.Tuple [.Name x px, .Name y py] kt pt] (.Tuple [a, b] k2 pt2) X.env = pure (some [x, y]))
    (hs : swapsWithSole [.Tuple [.Name x px, .Name y py] kt pt] (.Tuple [a, b] k2 pt2) pos.line X.env = pure false := by rfl) :
    PS X (.Assign [.Tuple [.Name x px, .Name y py] kt pt] (.Tuple [a, b] k2 pt2) pos) (lS X.K (dPar i j ta)) := by
  refine PS.wk (ps_par hc hN hi hj hij hx hy ha hw hs) fun D σ H ⟨δ, M, E, r, s, h, w⟩ => ?_
  refine ⟨δ, M, _, r, s, h, fun ds M1 vs H1 q1 r1 s1 p1 => ?_⟩
  obtain ⟨d, e, v, v', rfl, rfl, a1, a2, q⟩ := two_inv q1 r1
  exact ⟨v, v', rfl, w.nx _ _ _ _ q (((r.mono p1).set i a1).set j a2) s1 p1⟩
end

/-- xs * k, xs a list -/
def rdMulL : D → D → Mp → DK → Prop := fun x y M Q => aList x M fun _ xs => anInt y fun k => (-1000 ≤ k ∧ k ≤ 1000) ∧ xs.length ≤ 1000 ∧ ∀ p, M p = none → Q (.ref p) (mup M p (.lst (List.replicate k.toNat xs).flatten))
theorem reps_flat {K : PySem.W.Frag} {H : Hp} {ds : List D} {xs : List V} (r : Reps K H ds xs) : ∀ n : Nat, Reps K H (List.replicate n ds).flatten (List.replicate n xs).flatten
  | 0 => reps_nil
  | n + 1 => by
    rw [List.replicate_succ, List.replicate_succ, List.flatten_cons, List.flatten_cons]
    exact r.app (reps_flat r n)
theorem o_mulL {X : Cx} : OpR X (binaryOp .Mult) (lR X.K rdMulL) := by
  intro pins s σ H v u vv uu Q I rv ru ⟨x, y, M, QD, rx, ry, sm, h, w⟩
  obtain ⟨a, xs, ys, rfl, rfl, g, q, _, h⟩ := aList_inv sm h rx
  obtain ⟨k, rfl, rfl, h1, h2, h3⟩ := anInt_inv h ry
  have hk : k.toNat ≤ 1000 := by omega
  have hz : ys.length * k.toNat ≤ sizeLine := by
    rw [q.len]
    exact Nat.le_trans (Nat.mul_le_mul h2 hk) (by decide)
  refine op_rep pins s σ H _ _ vv uu Q I rv ru ⟨a, k, ys, rfl, rfl, g, by omega, by omega, hz, fun p hp => ?_⟩
  have pn : Pers H (upd H p (.lst (List.replicate k.toNat ys).flatten)) := Pers.new hp
  exact w _ _ _ _ (h3 p (sm.free hp)) (by simp only [Rep]) (sm.put (u := .lst _) pn ⟨_, upd_same, Reps.mono pn _ _ (reps_flat q _)⟩) pn

/-- a def of the text as it stands behind the top -/
structure Dfn (K : PySem.W.Frag) (mg : Str → Option Value) (x : Str) (qual : Str) (st : Stmt) (ps : List Str) (f : Addr) (fd : FuncData) : Prop where
  F : Fun K x qual st f fd
  g : mg x = some (.ref f)
  b : Binds K fd ps []
end Dl
/-! Small equations for the readings. -/
namespace Dl
open PySem PySem.Spec PyProof.Rows L2
theorem pow10 : (10 : Int) ^ Int.toNat 10 = 10000000000 := by decide
theorem pow11 : (10 : Int) ^ Int.toNat 11 = 100000000000 := by decide
theorem pow12 : (10 : Int) ^ Int.toNat 12 = 1000000000000 := by decide
theorem pow18 : (10 : Int) ^ Int.toNat 18 = 1000000000000000000 := by decide
theorem pow9 : (10 : Int) ^ Int.toNat 9 = 1000000000 := by decide
theorem atI_nat' {α : Type} (xs : List α) (j : Nat) : atI xs (j : Int) = xs[j]? := by
  unfold atI ixN
  rw [if_pos (Int.natCast_nonneg j)]
  by_cases h : j < xs.length
  · rw [if_pos (by omega)]
    show xs[((j : Nat) : Int).toNat]? = xs[j]?
    rw [Int.toNat_natCast]
  · rw [if_neg (by omega), List.getElem?_eq_none (by omega)]; rfl
theorem atI_int {α : Type} (xs : List α) (i : Int) (h : 0 ≤ i) : atI xs i = xs[i.toNat]? := by
  have e : i = ((i.toNat : Nat) : Int) := by omega
  rw [e, atI_nat', Int.toNat_natCast]
theorem atI0 {α : Type} {a : α} {l : List α} : atI (a :: l) 0 = some a := atI_nat' _ 0
theorem atI1 {α : Type} {a b : α} {l : List α} : atI (a :: b :: l) 1 = some b := atI_nat' _ 1
theorem atI2 {α : Type} {a b c : α} {l : List α} : atI (a :: b :: c :: l) 2 = some c := atI_nat' _ 2
theorem atI3 {α : Type} {a b c d : α} {l : List α} : atI (a :: b :: c :: d :: l) 3 = some d := atI_nat' _ 3
theorem atI4 {α : Type} {a b c d e : α} {l : List α} : atI (a :: b :: c :: d :: e :: l) 4 = some e := atI_nat' _ 4
theorem atI5 {α : Type} {a b c d e f : α} {l : List α} : atI (a :: b :: c :: d :: e :: f :: l) 5 = some f := atI_nat' _ 5
theorem atI_last' {α : Type} {l : List α} {a : α} : atI (l ++ [a]) (-1) = some a := by
  unfold atI ixN
  rw [if_neg (by decide), List.length_append, List.length_singleton, if_pos (by omega)]
  show (l ++ [a])[((-1 : Int) + ((l.length + 1 : Nat) : Int)).toNat]? = some a
  have e : ((-1 : Int) + ((l.length + 1 : Nat) : Int)).toNat = l.length := by omega
  rw [e, List.getElem?_append_right (Nat.le_refl _)]
  simp
theorem cut_from {α : Type} (xs : List α) (k : Nat) : cutD xs (some (k : Int)) none = xs.drop k := by
  unfold cutD
  rw [HT.sIx_none, HT.sIx_nat]
  by_cases h : k ≤ xs.length
  · rw [Nat.min_eq_left h, List.take_of_length_le (by rw [List.length_drop]; omega)]
  · rw [Nat.min_eq_right (by omega), List.drop_eq_nil_of_le (Nat.le_refl _), List.drop_eq_nil_of_le (by omega)]; simp
theorem cut_to {α : Type} (xs : List α) (k : Nat) : cutD xs none (some (k : Int)) = xs.take k := by
  unfold cutD
  rw [HT.sIx_none, HT.sIx_nat, List.drop_zero, Nat.sub_zero]
  by_cases h : k ≤ xs.length
  · rw [Nat.min_eq_left h]
  · rw [Nat.min_eq_right (by omega), List.take_of_length_le (Nat.le_refl _), List.take_of_length_le (by omega)]
theorem cut_both {α : Type} (xs : List α) (i j : Nat) : cutD xs (some (i : Int)) (some (j : Int)) = (xs.drop i).take (j - i) := by
  unfold cutD
  rw [HT.sIx_nat, HT.sIx_nat]
  by_cases hi : i ≤ xs.length
  · by_cases hj : j ≤ xs.length
    · rw [Nat.min_eq_left hi, Nat.min_eq_left hj]
    · rw [Nat.min_eq_left hi, Nat.min_eq_right (by omega : xs.length ≤ j)]
      rw [List.take_of_length_le (by rw [List.length_drop]; omega), List.take_of_length_le (by rw [List.length_drop]; omega)]
  · have e : min i xs.length = xs.length := Nat.min_eq_right (by omega)
    rw [e, List.drop_eq_nil_of_le (Nat.le_refl _), List.drop_eq_nil_of_le (by omega : xs.length ≤ i)]; simp
theorem cut_map {α β : Type} (f : α → β) (xs : List α) (lo hi : Option Int) : cutD (xs.map f) lo hi = (cutD xs lo hi).map f := by
  unfold cutD
  rw [List.length_map, List.map_take, List.map_drop]
theorem lstOf_mup {M : Mp} {p : Addr} {ds : List D} : lstOf (mup M p (.lst ds)) p = some ds := by unfold lstOf; rw [mup_same]
theorem lstOf_of {M : Mp} {p : Addr} {ds : List D} (h : M p = some (.lst ds)) : lstOf M p = some ds := by unfold lstOf; rw [h]
theorem mup_id {M : Mp} {p : Addr} {o : MO} (h : M p = some o) : mup M p o = M := by
  funext b; unfold mup
  by_cases e : b = p
  · subst e; rw [if_pos rfl, h]
  · rw [if_neg e]
theorem mup_old {M : Mp} {a p : Addr} {o u : MO} (h : M a = some u) (hp : M p = none) : mup M p o a = some u := by rw [mup_ne (mne h hp)]; exact h
/-- a comprehension whose elements leave the store as it is, no test -/
theorem lc_pure {α : Type} {G : Mp → Prop} {g : RG} {te : RE} {δ0 : DSt} {p : Addr} {Q : Mp → Prop} (src f : α → D) {M : Mp} : ∀ (xs : List α) (acc : List D), (∀ acc, G (mup M p (.lst acc))) → acc.length + xs.length ≤ 1000000 →
    (∀ x ∈ xs, ∀ acc (R : D → Mp → Prop), R (f x) (mup M p (.lst acc)) → g (src x) δ0 (mup M p (.lst acc)) fun δ1 M1 => te δ1 M1 R) → Q (mup M p (.lst (acc ++ xs.map f))) → dLcLoop G g dYes te δ0 p Q (xs.map src) acc (mup M p (.lst acc))
  | [], acc, hG, hl, he, hQ => by
    refine ⟨hG _, ?_⟩
    simpa using hQ
  | d :: ds, acc, hG, hl, he, hQ => by
    refine ⟨hG _, ?_⟩
    have ih := lc_pure (G := G) (g := g) (te := te) (δ0 := δ0) (Q := Q) src f ds (acc ++ [f d]) hG (by simp at hl ⊢; omega) (fun d' m => he d' (List.mem_cons_of_mem _ m)) (by simpa using hQ)
    show g (src d) δ0 (mup M p (.lst acc)) fun δ1 M1 => dYes δ1 M1 fun b M2 => if b = true then _ else _
    simp only [dYes, if_true]
    refine he d (List.mem_cons_self ..) acc _ ⟨mup_same, by simp at hl; omega, ?_⟩
    rw [mup_mup]
    exact ih
/-- a comprehension by an invariant -/
theorem lc_inv {α : Type} {G : Mp → Prop} {g : RG} {te : RE} {δ0 : DSt} {p : Addr} {Q : Mp → Prop} (src : α → D) : ∀ (xs : List α) (Pv : Nat → List D → Mp → Prop) {acc : List D} {M : Mp} (hG : ∀ i acc M, i ≤ xs.length → Pv i acc M → G M)
    (hs : ∀ (i : Nat) (x : α) (acc : List D) (M : Mp) (R : D → Mp → Prop), xs[i]? = some x → Pv i acc M → (∀ e M', M' p = some (.lst acc) → acc.length < 1000000 → Pv (i + 1) (acc ++ [e]) (mup M' p (.lst (acc ++ [e]))) → R e M') → g (src x) δ0 M fun δ1 M1 => te δ1 M1 R)
    (hd : ∀ acc M, Pv xs.length acc M → Q M) (h0 : Pv 0 acc M), dLcLoop G g dYes te δ0 p Q (xs.map src) acc M
  | [], Pv, acc, M, hG, hs, hd, h0 => ⟨hG 0 _ _ (Nat.le_refl _) h0, hd _ _ h0⟩
  | x :: xs, Pv, acc, M, hG, hs, hd, h0 => by
    refine ⟨hG 0 _ _ (Nat.zero_le _) h0, ?_⟩
    show g (src x) δ0 M fun δ1 M1 => dYes δ1 M1 fun b M2 => if b = true then _ else _
    simp only [dYes, if_true]
    refine hs 0 x acc M _ rfl h0 fun e M' h1 h2 h3 => ⟨h1, h2, ?_⟩
    exact lc_inv src xs (fun i => Pv (i + 1)) (fun i acc M h p => hG (i + 1) acc M (by simp; omega) p) (fun i y acc M R h k p => hs (i + 1) y acc M R (by simpa using h) k p) (fun acc M p => hd acc M (by simpa using p)) h3
/-- .. with a test -/
theorem lc_test {α : Type} {G : Mp → Prop} {g : RG} {tt : RT} {te : RE} {δ0 : DSt} {p : Addr} {Q : Mp → Prop} (src f : α → D) (t : α → Bool) {M : Mp} : ∀ (xs : List α) (acc : List D), (∀ acc, G (mup M p (.lst acc))) → acc.length + xs.length ≤ 1000000 →
    (∀ x ∈ xs, ∀ acc (R : Bool → DSt → Mp → Prop), (∀ δ1, (∀ R', R' (f x) (mup M p (.lst acc)) → te δ1 (mup M p (.lst acc)) R') → R (t x) δ1 (mup M p (.lst acc))) → g (src x) δ0 (mup M p (.lst acc)) fun δ1 M1 => tt δ1 M1 fun b M2 => R b δ1 M2) →
    Q (mup M p (.lst (acc ++ (xs.filter t).map f))) → dLcLoop G g tt te δ0 p Q (xs.map src) acc (mup M p (.lst acc))
  | [], acc, hG, hl, he, hQ => by
    refine ⟨hG _, ?_⟩
    simpa using hQ
  | d :: ds, acc, hG, hl, he, hQ => by
    refine ⟨hG _, ?_⟩
    have hq := hQ
    rw [List.filter_cons] at hq
    refine he d (List.mem_cons_self ..) acc (fun b δ1 M2 => if b = true then te δ1 M2 fun e M3 => M3 p = some (.lst acc) ∧ acc.length < 1000000 ∧ dLcLoop G g tt te δ0 p Q (ds.map src) (acc ++ [e]) (mup M3 p (.lst (acc ++ [e]))) else dLcLoop G g tt te δ0 p Q (ds.map src) acc M2) fun δ1 h => ?_
    cases e : t d with
    | true =>
      rw [e, if_pos rfl] at hq
      rw [if_pos rfl]
      refine h _ ⟨mup_same, by simp at hl; omega, ?_⟩
      rw [mup_mup]
      exact lc_test (G := G) (g := g) (te := te) (δ0 := δ0) (Q := Q) src f t ds (acc ++ [f d]) hG (by simp at hl ⊢; omega) (fun d' m => he d' (List.mem_cons_of_mem _ m)) (by simpa using hq)
    | false =>
      rw [e, if_neg Bool.false_ne_true] at hq
      rw [if_neg Bool.false_ne_true]
      exact lc_test (G := G) (g := g) (te := te) (δ0 := δ0) (Q := Q) src f t ds acc hG (by simp at hl ⊢; omega) (fun d' m => he d' (List.mem_cons_of_mem _ m)) hq
/-- a loop by its invariant: what the body is to reach is any R that the invariant gives -/
theorem loop_inv {α : Type} {G : Mp → Prop} {g : RG} {tb : RS} {E : DEnds} (src : α → D) : ∀ (xs : List α) (Pv : Nat → DSt → Mp → Prop) {δ : DSt} {M : Mp} (hG : ∀ i δ M, i ≤ xs.length → Pv i δ M → G M)
    (hs : ∀ (i : Nat) (x : α) (δ : DSt) (M : Mp) (R : DSt → Mp → Prop), xs[i]? = some x → (∀ δ' M', Pv (i + 1) δ' M' → R δ' M') → Pv i δ M → g (src x) δ M fun δ1 M1 => tb { E with nx := R, ct := R, bk := E.nx } δ1 M1)
    (hd : ∀ δ M, Pv xs.length δ M → E.nx δ M) (h0 : Pv 0 δ M), dLoop G g tb E (xs.map src) δ M
  | [], Pv, δ, M, hG, hs, hd, h0 => ⟨hG 0 _ _ (Nat.le_refl _) h0, hd _ _ h0⟩
  | x :: xs, Pv, δ, M, hG, hs, hd, h0 => by
    refine ⟨hG 0 _ _ (Nat.zero_le _) h0, ?_⟩
    refine hs 0 x δ M _ rfl (fun δ' M' p => ?_) h0
    exact loop_inv src xs (fun i => Pv (i + 1)) (fun i δ M h p => hG (i + 1) δ M (by simp; omega) p) (fun i y δ M R h k p => hs (i + 1) y δ M R (by simpa using h) k p) (fun δ M p => hd δ M (by simpa using p)) p
/-- a block cut behind its first statements: what follows is any R that it gives -/
theorem seq_gen {t u : RS} {E : DEnds} {δ : DSt} {M : Mp} (h : ∀ R : DSt → Mp → Prop, (∀ δ' M', u E δ' M' → R δ' M') → t { E with nx := R } δ M) : dSeq t u E δ M := h _ fun _ _ h => h
theorem seq_gen2 {t u v : RS} {E : DEnds} {δ : DSt} {M : Mp} (h : ∀ R : DSt → Mp → Prop, (∀ δ' M', v E δ' M' → R δ' M') → dSeq t u { E with nx := R } δ M) : dSeq t (dSeq u v) E δ M := h _ fun _ _ h => h
theorem seq_gen3 {t u v w : RS} {E : DEnds} {δ : DSt} {M : Mp} (h : ∀ R : DSt → Mp → Prop, (∀ δ' M', w E δ' M' → R δ' M') → dSeq t (dSeq u v) { E with nx := R } δ M) : dSeq t (dSeq u (dSeq v w)) E δ M := h _ fun _ _ h => h
theorem seq_gen4 {t u v w x : RS} {E : DEnds} {δ : DSt} {M : Mp} (h : ∀ R : DSt → Mp → Prop, (∀ δ' M', x E δ' M' → R δ' M') → dSeq t (dSeq u (dSeq v w)) { E with nx := R } δ M) : dSeq t (dSeq u (dSeq v (dSeq w x))) E δ M := h _ fun _ _ h => h
theorem seq_cut {t u : RS} {E : DEnds} {δ : DSt} {M : Mp} (Pv : DSt → Mp → Prop) (h1 : ∀ R : DSt → Mp → Prop, (∀ δ' M', Pv δ' M' → R δ' M') → t { E with nx := R } δ M) (h2 : ∀ δ' M', Pv δ' M' → u E δ' M') : dSeq t u E δ M := h1 _ h2
theorem range_get {n i k : Nat} (h : (List.range n)[i]? = some k) : k = i ∧ i < n := by
  obtain ⟨h1, h2⟩ := List.getElem?_eq_some_iff.mp h
  rw [List.getElem_range] at h2
  rw [List.length_range] at h1
  exact ⟨h2.symm, h1⟩
theorem zip_maps {α β : Type} (f : α → D) (h : β → D) (xs : List α) (ys : List β) : zipD (xs.map f) (ys.map h) = (xs.zip ys).map fun p => D.tup [f p.1, h p.2] := by
  unfold zipD
  rw [List.zip_map, List.map_map]
  rfl
theorem allM {α : Type} (xs : List α) (f : α → Bool) : (xs.map f).all id = xs.all f := by
  induction xs with
  | nil => rfl
  | cons x r ih => simp [List.all_cons, ih]
theorem maps_bl {α : Type} (xs : List α) (f : α → Bool) : blsOf (xs.map fun x => D.bl (f x)) = some (xs.map f) := by
  have := blsOf_map (xs.map f)
  rwa [List.map_map] at this
theorem maps_int {α : Type} (xs : List α) (f : α → Int) : intsOf (xs.map fun x => D.int (f x)) = some (xs.map f) := by
  have := intsOf_map (xs.map f)
  rwa [List.map_map] at this
theorem bind_some {α β : Type} (a : α) (f : α → Option β) : (some a).bind f = f a := rfl
theorem eqv_ls {n : Nat} {ds : List D} (h : ∀ d ∈ ds, Pln n d) : (PyData.list (pys ds)).eqv (PyData.list (pys ds)) = true :=
  PySem.SeqAt.eqv_refl _ (by simp only [PyData.canLay0]; exact canAll_of fun d m => (h d m).ok.2.1)
end Dl
/-! The law's end over data. -/
namespace Dl
open PySem PySem.Spec PyProof.Rows L2
theorem fun_ofD {K : PySem.W.Frag} {x qual : Str} {st : Stmt} {f : Addr} {fd : FuncData} (F : FunD K x qual (defArgs st) (defBody st) (defScope st) [] [] f fd) : Fun K x qual st f fd := by
  obtain ⟨oc, od, dV, kV, doc, pm, an, cdv, ct, osl, e, l, c, hd, _⟩ := F.ex
  rcases hd with ⟨_, e2⟩ | ⟨e2, _⟩
  · subst e2
    exact ⟨⟨oc, od, kV, doc, pm, an, cdv, ct, osl, e, l, c⟩, F.kp⟩
  · exact absurd rfl e2
theorem reps_intsV {K : PySem.W.Frag} {H : Hp} : ∀ ns : List Int, Reps K H (ns.map D.int) (ns.map V.int)
  | [] => reps_nil
  | n :: r => reps_cons (by simp only [Rep]) (reps_intsV r)
theorem lsp_law {K : PySem.W.Frag} {p : DSp} (hp : ∀ (ns : List Int) (M : Mp) (Q : DK) (E : DX), ns.length ≤ 63 → (∀ M', Q (.bl true) M') → p [.fzl (ns.map .int)] M Q E) {H : Hp} {a : Addr} {ns : List Int} (hl : ns.length ≤ 63) (hO : Only H) (hS : SqL K H a (ns.map V.int)) :
    lSp K p [.ref a] H (fun v _ => v = .bl true) (fun _ _ _ => False) := by
  have h1 : Rep K H (.fzl (ns.map .int)) (.ref a) := by
    simp only [Rep]
    refine ⟨a, ns.map V.int, rfl, ?_, reps_intsV ns⟩
    rcases hS with h | h
    · rcases h with h | h
      · rcases hO a with e | ⟨o, xs, e⟩
        · rw [e] at h; cases h
        · rw [e] at h; cases h
      · exact .inl h
    · exact .inr (.inr h)
  have h2 : Sm K (fun _ => none) H := fun a o h => by cases h
  have h3 : Wk K H (fun d _ => d = .bl true) (fun v _ => v = .bl true) := fun d M' v H' h1 h2 _ _ => by
    subst h1
    simp only [Rep] at h2
    exact h2
  exact ⟨[.fzl (ns.map .int)], fun _ => none, fun d _ => d = .bl true, eX0, reps_cons h1 reps_nil, h2, hp ns _ _ _ hl (fun _ => rfl), h3, fun cls fs M' d H' h1 _ _ _ => h1⟩
theorem noCX {P : Program} {w : World} (H : Hp) (s : Shared) (e : Value) (s' : Shared) (h : L2.CX P w [] H s (fun _ _ _ => False) e s') : False := by
  obtain ⟨_, _, _, _, _, _, _, _, _, _, _, _, z⟩ := h
  exact z
theorem dfn_of {K : PySem.W.Frag} {mg : Str → Option Value} {h : Heap} {x qual : Str} {st : Stmt} {ps : List Str} {fd : FuncData} (X : K.In h) (G : h.Ns mainGlobals mg) (F : FunD K x qual (defArgs st) (defBody st) (defScope st) [] [] (He.fAd K (x, none)) fd) (g : (He.Fa.glo x).ok K = true)
    (b : ∀ (kV doc pm : Value) (an : Option Addr) (cdv ct : Value) (us : List Value), us.length = ps.length → bindArgs (PySem.W.fnOf x qual (defArgs st) (defBody st) (defScope st) .none kV doc pm an cdv ct) ⟨us, []⟩ = pure (ps.zip us)) : Dfn K mg x qual st ps (He.fAd K (x, none)) fd :=
  ⟨fun_ofD F, He.glo_ok X G g, F.bindsN b⟩
/-- the law's call over a head by facts; what is let out may hang on the world -/
theorem walk_w {l : PySem.W.OpenLaw} {n k : Nat} {q : Program} {loose : List Str} {XP : (Str → Option Value) → Heap → Prop} {YP : World → Heap → Prop} {d : DefRec} {x : Str} {p : DSp}
    (hn : l.most = some n) (hn2 : n ≤ 63) (hdf : d.params.defaults = []) (hr : Room k callerA)
    (hp : ∀ (ns : List Int) (M : Mp) (Q : DK) (E : DX), ns.length ≤ 63 → (∀ M', Q (.bl true) M') → p [.fzl (ns.map .int)] M Q E)
    (F : ∀ (w : World) (mg : Str → Option Value) (fa : Addr) (h : Heap), YP w h → h.Ns mainGlobals mg → mg d.name = some (.ref fa) →
      ∃ (K : PySem.W.Frag) (fd : FuncData), K.In h ∧ (∀ (s : Shared) (u : Value), BindsTo s fd ⟨[u], []⟩ [(x, u)]) ∧ ∀ base : Heap, K.In base → base.Ns mainGlobals mg → FnD l.prog w K mg base k fa fd [x] p) :
    PySem.W.WalkO q loose XP YP l.row.toRowW d [] (fun f vs => PySem.call f vs) := by
  refine Att.attach_call hn hdf fun w s₀ s₁ mg mb fa o pm cd doc a vs ns G Y ho hd hcd hmg hobj hints hlen hg => ?_
  obtain ⟨K, fd, KX, hb, hF⟩ := F w mg fa _ Y G.T.g hmg
  exact law_call KX G.T.g G.T.b G.T.builtins G.T.nolimit hg hobj hints (Nat.le_trans hlen (Nat.le_trans hn2 (by decide))) hr hF hb (fun H hO hS => lsp_law hp (Nat.le_trans hlen hn2) hO hS) fun H e s' h => noCX H s₁ e s' h
/-- the head's facts by names, and more about the written part -/
def hookDE (n : Nat) (fa : List He.Fa) (fn : List He.DefD) (ex : List (PySem.W.Frag → Bool)) : PySem.W.Hook where
  α := He.AlD × Bool
  obs := fun s => (He.obsDG n fa fn s.heap.get?, ex.all fun f => f (He.frG s.heap.get? (He.asD s.heap.get? n)))
  val := fun _ => (He.valD fn, true)
  says := fun _ h => ∃ K : PySem.W.Frag, K.In h ∧ He.SaysD fa fn K ∧ (ex.all fun f => f K) = true
  of := fun _ _ e => ⟨_, He.frG_in, congrArg (fun z : He.AlD × Bool => z.1) e, congrArg (fun z : He.AlD × Bool => z.2) e⟩
  keeps := fun _ _ _ z k => z.elim fun K y => ⟨K, PySem.W.Frag.In.keeps y.1 k, y.2⟩
def obsDE (n : Nat) (fa : List He.Fa) (fn : List He.DefD) (ex : List (PySem.W.Frag → Bool)) (g : Addr → Option Obj) : He.AlD × Bool := (He.obsDG n fa fn g, ex.all fun f => f (He.frG g (He.asD g n)))
theorem obsDE_eq {n : Nat} {fa : List He.Fa} {fn : List He.DefD} {ex : List (PySem.W.Frag → Bool)} {g : Addr → Option Obj} {s : Shared} (h : ∀ a, g a = s.heap.get? a) : obsDE n fa fn ex g = (hookDE n fa fn ex).obs s := by
  have e : g = s.heap.get? := funext h
  rw [e] <;> rfl
theorem ex_at {ex : List (PySem.W.Frag → Bool)} {K : PySem.W.Frag} (h : (ex.all fun f => f K) = true) (i : Nat) {f : PySem.W.Frag → Bool} (e : ex[i]? = some f := by rfl) : f K = true := List.all_eq_true.mp h f (List.mem_of_getElem? e)
end Dl
/-! A list comprehension whose element lets an exception out. -/
namespace Dl
open PySem PySem.Spec PyProof.Rows L2

theorem note_eq {x : Value} {e1 e2 : Env} (h : e1.frame = e2.frame) : noteFrame x e1 = noteFrame x e2 := by
  unfold noteFrame PySem.frameOf; rw [h]
theorem passOn_eq {α : Type} {k : String} {x : Value} {e1 e2 : Env} (h : e1.frame = e2.frame) : (PySem.passOn k x e1 : Sem α) = PySem.passOn k x e2 := by
  unfold PySem.passOn; rw [h]
/-- what a block's element lets out: what its callee let out -/
def BlkX (X : Cx) (s : Shared) (H : Hp) (scope : Scope) (ce : Env) (fp : List Addr) (E : XK) : Value → Shared → Prop := fun u s' =>
  ∃ (pb : List (Addr × Obj)) (σb : L2.St) (H1 : Hp) (s1 : Shared), Inv (X.blk s H scope ce fp) pb σb H1 s1 ∧ L2.CX X.prog X.w X.stack H1 s1 E u s'
abbrev blkX (X : Cx) (s : Shared) (H : Hp) (scope : Scope) (ce : Env) (fp : List Addr) (E : XK) : Cx := (X.blk s H scope ce fp).wish (BlkX X s H scope ce fp E)
theorem traced_one {h B : Heap} {a : Addr} {Z : Obj → Prop} {f g : Value} (x : HandSPX.TracedZ h B a Z f) {B' : Heap} {Z' : Obj → Prop} (y : HandSPX.TracedZ h B' a Z' g) : f = g := by
  obtain ⟨oe, vs, T, oT, ts, he, _, hd, h1, _, _, hT, hdT, h3⟩ := x
  obtain ⟨oe', vs', T', oT', ts', he', _, hd', h1', _, _, hT', hdT', h3'⟩ := y
  rw [he] at he'; cases he'
  rw [hd] at hd'; cases hd'
  rw [h1] at h1'; cases h1'
  rw [hT] at hT'; cases hT'
  rw [hdT] at hdT'; cases hdT'
  rw [h3] at h3'; exact Option.some.inj h3'
theorem blk_fails {X : Cx} {E : XK} {pins : List (Addr × Obj)} {σ : L2.St} {H3 : Hp} {s3 : Shared} {scope : Scope} {ce : Env} {fp : List Addr} {pb : List (Addr × Obj)} {σb : L2.St} {H1 : Hp} {s1 s' : Shared} {u : Value}
    (tk : Takes X (fun cls d _ H => E cls d H)) (hs : X.stack = X.env :: X.outer) (hf : X.env.frame = some X.env.locals) (hcf : ce.frame = X.env.frame) (hcl : s3.heap.objs.size ≤ ce.locals)
    (I3 : Inv X pins σ H3 s3) (hfp : ∀ b ∈ fp, FpOk X pins H3 b) (I1 : Inv (X.blk s3 H3 scope ce fp) pb σb H1 s1) (c : L2.CX X.prog X.w X.stack H1 s1 E u s') :
    notedBy (model X.prog X.w) X.A ce (CompFails (model X.prog X.w) X.A X.xe ce) u s' := by
  have x := XE.of_call (W := fun cls d _ H => E cls d H) I1 (fun _ _ _ h => h) c
  obtain ⟨a0, B0, H0, cls0, d0, hu, fl0, _⟩ := c
  obtain ⟨a, B, sI, pi, σi, H', cls, d, rfl, II, nb, up, sky, na, os, ag, w⟩ := x
  have hu : a = a0 := by cases hu; rfl
  subst hu
  have fl : HandSPX.FlyingZ B X.stack a (Zc cls d) s'.heap := by
    rcases sky with ⟨_, _, _, oe, vs, he, _, hd, h1⟩ | fl | hh
    · obtain ⟨oe', vs', T, _, _, he', _, hd', h1', _⟩ := fl0.2.2.2
      rw [he] at he'; cases he'
      rw [hd] at hd'; cases hd'
      rw [h1] at h1'; cases h1'
    · exact fl
    · have z := traced_one fl0.2.2.2 hh.2.2.2
      simp [rawInt] at z
  clear sky
  -- the block's names
  obtain ⟨m, hm, _⟩ := II.loc
  have hm : sI.heap.Ns ce.locals m := hm
  obtain ⟨oC, esC, epC, hoC, hdC, hrC⟩ := hm
  have cNot : ce.locals ∉ frs X.stack := fun hb => by
    obtain ⟨_, o, ho, _⟩ := I3.stack.mem hb
    exact absurd (Nat.lt_of_lt_of_le (Heap.lt_size ho) hcl) (Nat.lt_irrefl _)
  have hBC : B.get? ce.locals = some oC := nb _ _ hoC cNot
  -- back in the def's context
  have I7 : Inv X pins σ H' sI := I3.call' (ch := fp) II.os II.base II.hok II.bare fun b hb => ⟨(hfp b hb).2.2.2.1, (hfp b hb).2.1, (hfp b hb).2.2.2.2.1, (hfp b hb).2.2.2.2.2⟩
  have nC : H' ce.locals = none := II.free
  have fC : FpOk X pins H' ce.locals := I3.fpOk hcl nC
  show wpAny _ X.A (noteFrame (.ref a) ce) _ _ s'
  rw [note_eq hcf]
  rw [hs] at fl
  refine HandSPX.looks_onZ Zc.steady (by rw [I3.ok.frames, hs]) hf fl fun h1 held up1 => ?_
  obtain ⟨k1, k2, k3, k4⟩ := held
  refine ⟨m, ⟨oC, esC, epC, k1 _ _ hBC, hdC, hrC⟩, fun h2 m2 hn2 sb => ?_⟩
  have sb2 : ∀ b, b ≠ ce.locals → h2.get? b = h1.get? b := sb.2
  rw [passOn_eq hcf]
  unfold PySem.passOn
  obtain ⟨oe, vs, T, oT, ts, he, hz, hd, h1', hnT, hTe, hT, hdT, h3⟩ := k4
  have naC : a ≠ ce.locals := fun e => by rw [e, hBC] at k2; cases k2
  have nTC : T ≠ ce.locals := fun e => by rw [e, hBC] at hnT; cases hnT
  have he2 : h2.get? a = some oe := (sb2 a naC).trans he
  have hT2 : h2.get? T = some oT := (sb2 T nTC).trans hT
  refine wpAny_bind (wpAny_field he2 hd h1' ?_)
  rw [if_neg (by simp)]
  refine wpAny_bind ?_
  generalize hB2 : PySem.W.hideAll B [ce.locals] = B2
  have b2 : ∀ b o, B.get? b = some o → b ≠ ce.locals → B2.get? b = some o := fun b o e n => by
    rw [← hB2]; exact PySem.W.hideAll_get _ e (by simpa using n)
  have b3 : ∀ b o, B2.get? b = some o → B.get? b = some o ∧ b ≠ ce.locals := fun b o e => by
    rw [← hB2] at e
    refine ⟨PySem.W.of_hideAll _ e, fun z => ?_⟩
    rw [PySem.W.hideAll_none _ (by simp [z])] at e; cases e
  have b4 : ∀ b, B.get? b = none → B2.get? b = none := fun b e => by
    cases q : B2.get? b with
    | none => rfl
    | some o => rw [(b3 b o q).1] at e; cases e
  have st2 : B2.StaysIn h2 := fun b o e => (sb2 b (b3 b o e).2).trans (k1 b o (b3 b o e).1)
  have ff2 : h2.FunFrames B2 (X.env :: X.outer) := funFrames_none (Heap.FunFrames.sameBut sb hn2 k3) fun L hL => b4 L (k3.mem hL).1
  have tr2 : HandSPX.TracedZ h2 B2 a (Zc cls d) (rawInt X.env.locals) := ⟨oe, vs, T, oT, ts, he2, hz, hd, h1', b4 _ hnT, hTe, hT2, hdT, h3⟩
  rw [hf]
  refine HandSPX.setFlight_anyZ st2 ff2 tr2 fun h3 q1 q2 q3 q4 => wpAny_throw ?_
  refine tk _ _ ⟨a, B2, { sI with heap := PySem.W.hideAll sI.heap [ce.locals] }, pins, σ, H', cls, d, rfl, ?_, fun b o e hb => ?_, ?_, .inr (.inr ⟨q1, b4 _ k2, by rw [hs]; exact q2, q3⟩), na, os, ag, w⟩
  · obtain ⟨f0, f1, f2, f3, f4, f5⟩ := fC
    exact I7.turned (t' := sI.toks) (fun b o hb e => PySem.W.hideAll_get _ e (by simpa using hb)) f0 f1 f3 f4 f5
  · have n : b ≠ ce.locals := fun z => by rw [PySem.W.hideAll_none _ (by simp [z])] at e; cases e
    exact b2 b o (nb b o (PySem.W.of_hideAll _ e) hb) n
  · intro b o e hnf
    have n : b ≠ ce.locals := fun z => by rw [PySem.W.hideAll_none _ (by simp [z])] at e; cases e
    obtain ⟨sl, e1⟩ := up b o (PySem.W.of_hideAll _ e) hnf
    obtain ⟨sl2, e2⟩ := up1 b _ e1 hnf
    exact q4 b { o with slots := sl2 } ((sb2 b n).trans e2) hnf
section
variable {X : Cx}
/-- [elt for tg in iter if ..] as a value, where elt may let E out -/
theorem pe_lcX {E : XK} {elt tg iter : Expr} {ifs : List Expr} {scope : Scope} {own : List (Str × Nat)} {pos : Pos} {wi : TI} {g : TG} {tt : TT} {te : TE} (hc : X.calm = true) (hN : X.N.Nodup)
    (tk : Takes X (fun cls d _ H => E cls d H)) (hstk : X.stack = X.env :: X.outer) (hfrm : X.env.frame = some X.env.locals) (hi : PI X tg iter wi) (ok : BlkOk X.N X.env.scope scope own)
    (hg : ∀ (s : Shared) (H : Hp) (C : Addr) (cl : List (Str × Addr)) (fp : List Addr), PG (X.blk s H scope (compEnvC scope cl C X.env) fp) tg g)
    (ht : ∀ (s : Shared) (H : Hp) (C : Addr) (cl : List (Str × Addr)) (fp : List Addr), PTs (X.blk s H scope (compEnvC scope cl C X.env) fp) ifs tt)
    (he : ∀ (s : Shared) (H : Hp) (C : Addr) (cl : List (Str × Addr)) (fp : List Addr), PE (blkX X s H scope (compEnvC scope cl C X.env) fp E) elt te)
    (hset : ∀ x, foldedSetIterable iter X.env x = pure x := by intro _; rfl) : PE X (.ListComp elt [⟨tg, iter, ifs, 0⟩] scope pos) (tLc wi g tt te (own.map (·.2))) := by
  refine ⟨fun pins s σ H Q I h => ?_⟩
  rw [eval_ListComp]
  have cells : ∀ y ∈ scope.names, y.2 = .free → ∃ c, X.env.cells.lookup y.1 = some c := fun y hy e =>
    (ok.free y hy e).elim (fun k => I.ok.has _ (.inl k)) fun k => I.ok.has _ (.inr k)
  refine comprehension_at (use := none) rfl hset (closure_ok cells) ok.kind (fun y hy e => (ok.uniq y hy).trans (by rw [e])) ?_
  refine thn (hi.run pins s σ H _ I h) fun xv sa hx => thn hx fun itv sb h2 => ?_
  obtain ⟨it, fp, tn, J, Ha, rfl, Ia, T, sta, fpa, q⟩ := h2
  refine wpAny_newObj_type (newEnv_comp ?_) (by show 0 ≤ sizeLine; decide)
  generalize eD : sb.heap.objs.size = D
  have freeD : Ha D = none := Ia.hok.fresh (Nat.le_of_eq eD)
  obtain ⟨W, ⟨m0, w0⟩, turn⟩ := q D freeD
  generalize ec : ({ sb with heap := sb.heap.push { cls := .type "list", data := .seq ([] : List Value).toArray } } : Shared) = sc
  have hcp : sc.heap = sb.heap.push { cls := .type "list", data := .seq ([] : List Value).toArray } := by rw [← ec]
  have Ic : Inv X pins σ (upd Ha D (.lst [])) sc := by
    have oldL : ∀ b o, sb.heap.get? b = some o → (sb.heap.push { cls := .type "list", data := .seq ([] : List Value).toArray }).get? b = some o := fun b o e => Heap.get?_push_of_some _ e
    have atD : (sb.heap.push { cls := .type "list", data := .seq ([] : List Value).toArray }).get? D = some { cls := .type "list", data := .seq ([] : List Value).toArray } := by
      rw [← eD]; exact Heap.get?_push_size _ rfl
    rw [← ec]
    exact Ia.laid (t' := sb.toks) oldL (Nat.le_of_eq eD) ⟨Nat.zero_le _, [], 0, .nil, atD⟩
  have below : ∀ b ∈ fp, b < sb.heap.objs.size := fun b hb => (T.obj _ _ sta b hb).elim fun o e => Heap.lt_size e.1
  have fpc : ∀ b ∈ fp, FpOk X pins (upd Ha D (.lst [])) b ∧ b < sc.heap.objs.size := fun b hb => by
    have hlt := below b hb
    have ne : b ≠ D := by rw [← eD]; exact Nat.ne_of_lt hlt
    exact ⟨⟨by rw [upd_ne ne]; exact (fpa b hb).1, (fpa b hb).2⟩, by rw [hcp, Heap.size_push]; exact Nat.lt_succ_of_lt hlt⟩
  have stc : tn 0 sc.heap := T.keep _ _ _ sta fun b _ o e => by rw [hcp]; exact Heap.get?_push_of_some _ e
  have Id := block_start Ic ok hN fpc
  have pg := hg sc (upd Ha D (.lst [])) sc.heap.objs.size (cellsFrom (sc.heap.objs.size + 1) scope.names (cloFrom X.env.cells scope.names [])) fp
  have pt := ht sc (upd Ha D (.lst [])) sc.heap.objs.size (cellsFrom (sc.heap.objs.size + 1) scope.names (cloFrom X.env.cells scope.names [])) fp
  have pe := he sc (upd Ha D (.lst [])) sc.heap.objs.size (cellsFrom (sc.heap.objs.size + 1) scope.names (cloFrom X.env.cells scope.names [])) fp
  show codeAny _ _ (.compStart (.ListComp elt [⟨tg, iter, ifs, 0⟩] scope pos) 0 (.ref it) (.ref D) (compEnvC scope (cellsFrom (sc.heap.objs.size + 1) scope.names (cloFrom X.env.cells scope.names [])) sc.heap.objs.size X.env))
    (compEnds (model X.prog X.w) X.A X.xe none _ (.ref D) (compEnvC scope (cellsFrom (sc.heap.objs.size + 1) scope.names (cloFrom X.env.cells scope.names [])) sc.heap.objs.size X.env)) { sc with heap := pushCells (sc.heap.push { cls := .type "dict", data := .dict #[] }) scope.names }
  generalize ee : compEnvC scope (cellsFrom (sc.heap.objs.size + 1) scope.names (cloFrom X.env.cells scope.names [])) sc.heap.objs.size X.env = ce at Id pg pt pe ⊢
  have ceL : ce.locals = sc.heap.objs.size := by rw [← ee]; rfl
  have ceF : ce.frame = X.env.frame := by rw [← ee]; rfl
  generalize eH : upd Ha D (.lst []) = Hc at Ic Id pg pt pe w0 fpc
  have free0 : ∀ b ∈ fp, Hc b = none := fun b hb => (fpc b hb).1.1
  generalize ed : ({ sc with heap := pushCells (sc.heap.push { cls := .type "dict", data := .dict #[] }) scope.names } : Shared) = sd at Id ⊢
  have std : tn 0 sd.heap := T.keep _ _ _ stc fun b _ o e => by rw [← ed]; exact pushCells_keeps _ _ _ _ (Heap.get?_push_of_some _ e)
  have blkFp : ∀ {τ : L2.St} {G : Hp} {t : Shared}, Inv (X.blk sc Hc scope ce fp) [] τ G t → (∀ b ∈ fp, G b = none) → ∀ b ∈ fp, FpOk (X.blk sc Hc scope ce fp) [] G b := fun {τ G t} J hn b hb =>
    ⟨hn b hb, (J.ok.exf b hb).1, J.ok.exfs b hb, .inl hb, fun x c e => (J.ok.exf b hb).2 x c e, fun p hp => nomatch (show p ∈ ([] : List (Addr × Obj)) from by simpa using hp)⟩
  have loop : codeAny (model X.prog X.w) X.A (.compLoop (.ListComp elt [⟨tg, iter, ifs, 0⟩] scope pos) 0 (.ref it) (.ref D) ce) (compEnds (model X.prog X.w) X.A X.xe none (fun u s' => ∃ v H', Inv X pins σ H' s' ∧ RelV v u ∧ Q v H') (.ref D) ce) sd := by
    refine compLoop_any (fun n t => ∃ i G, Inv (X.blk sc Hc scope ce fp) [] (wipe σ (own.map (·.2))) G t ∧ tn i t.heap ∧ (∀ b ∈ fp, G b = none) ∧ W i n G) ?_ m0 ⟨0, Hc, Id, std, free0, w0⟩
    rintro n s5 ⟨i, G5, I5, st5, n5, w5⟩
    rcases turn i n G5 w5 with ⟨stop, qq⟩ | ⟨go, Nx, hNx, step⟩
    · refine thnF (T.done (X.blk sc Hc scope ce fp) rfl rfl rfl hc i [] s5 _ G5 (fun _ _ => False) I5 (blkFp I5 n5) st5 stop) fun r s6 hr => ?_
      obtain ⟨rfl, I6⟩ := hr
      have I7 : Inv X pins σ G5 s6 := Ic.call' (ch := fp) I6.os I6.base I6.hok I6.bare fun b hb => (fpc b hb).1.2 |> fun z => ⟨z.2.2.1, z.1, z.2.2.2.1, z.2.2.2.2⟩
      have nC : G5 ce.locals = none := I6.free
      obtain ⟨m, hn, _⟩ := I6.loc
      obtain ⟨f0, f1, f2, f3, f4, f5⟩ := Ic.fpOk (Nat.le_of_eq ceL.symm) nC
      exact ⟨m, hn, fun h'' sbt => ⟨.ref D, G5, I7.turned (t' := s6.toks) (fun b o hb e => (sbt.2 b hb).trans e) f0 f1 f3 f4 f5, rfl, qq⟩⟩
    · refine thnF (T.item (X.blk sc Hc scope ce fp) rfl rfl rfl hc i [] s5 _ G5 (fun _ _ => False) I5 (blkFp I5 n5) st5 go) fun r s6 hr => ?_
      obtain ⟨u, rfl, h6⟩ := hr
      refine thnF h6 fun _ s7 hy => ?_
      obtain ⟨x, G7, I7, r7, y7, st7, n7⟩ := hy
      refine thnF (pg.run _ s7 _ G7 x u _ (I7.pinned (blkFp I7 n7) (T.obj _ _ st7)) r7 (step x G7 y7)) fun _ s8 hz => ?_
      obtain ⟨σ8, G8, I8, hw8, q8⟩ := hz
      refine thnF (pt.run _ s8 σ8 G8 _ I8 q8) fun b s9 hb9 => ?_
      obtain ⟨G9, I9, q9⟩ := hb9
      have fin : ∀ {t : Shared} {G : Hp}, Inv (X.blk sc Hc scope ce fp) ([] ++ pinsAt fp s7.heap) σ8 G t → Nx G → ∃ m, m < n ∧ ∃ i G, Inv (X.blk sc Hc scope ce fp) [] (wipe σ (own.map (·.2))) G t ∧ tn i t.heap ∧ (∀ b ∈ fp, G b = none) ∧ W i m G := fun {t G} J nx => by
        obtain ⟨m', hm, w'⟩ := hNx G nx
        have pinned : ∀ b ∈ fp, ∀ o, s7.heap.get? b = some o → t.heap.get? b = some o ∧ G b = none := fun b hb o e =>
          (J.pin (b, o) (List.mem_append_right _ (List.mem_append_right _ (mem_pinsAt hb e)))).elim fun z1 z2 => ⟨z1, z2.1⟩
        have hl : (wipe σ (own.map (·.2))).length = σ8.length := by rw [← hw8, wipe_length]
        refine ⟨m', hm, i + 1, G, (J.unpinned (pins := [])).weak hl (fun j v e => (wipe_some (by rw [hw8]; exact e)).1), T.keep _ _ _ st7 fun b hb o e => (pinned b hb o e).1, fun b hb => ?_, w'⟩
        obtain ⟨o, e, _⟩ := T.obj _ _ st7 b hb
        exact (pinned b hb o e).2
      cases b with
      | false => exact fin I9 (by simpa using q9)
      | true =>
        have q9 : te σ8 G9 fun y G4 => ∃ acc, G4 D = some (.lst acc) ∧ acc.length < sizeLine ∧ Nx (upd G4 D (.lst (acc ++ [y]))) := by simpa using q9
        rw [if_pos rfl]
        refine wpAny_mono (pe.run _ s9 σ8 G9 _ (I9.wish _) q9) (fun z s10 hv => ?_) fun u t hx => ?_
        · obtain ⟨yv, G10, I10, r10, acc, hD10, hz10, nx⟩ := hv
          exact app_ok (X := X.blk sc Hc scope ce fp) I10.unwish hD10 hz10 r10 fun s11 I11 => fin I11 nx
        · obtain ⟨pb, σb, G1, t1, J1, cx⟩ := hx
          exact blk_fails tk hstk hfrm ceF (Nat.le_of_eq ceL.symm) Ic (fun b hb => (fpc b hb).1) J1 cx
  exact codeAny_compStart_list loop (T.self X.A 0 _ _ _ std loop)
end
end Dl
/-! Texts over data. -/
namespace Dl
open PySem PySem.Spec PyProof.Rows L2
/-- a text's method -/
def dSM0 (rd : Str → Mp → DK → Prop) (to : RE) : RE := fun δ M Q => to δ M fun x M1 => match x with
  | .str a => rd a M1 Q
  | _ => False
def dSM1 (rd : Str → D → Mp → DK → Prop) (to te : RE) : RE := fun δ M Q => to δ M fun x M1 => match x with
  | .str a => te δ M1 fun y M2 => rd a y M2 Q
  | _ => False
def strsOf : List D → Option (List Str)
  | [] => some []
  | .str a :: r => (strsOf r).map fun t => a :: t
  | _ :: _ => none
theorem strsOf_map (xs : List Str) : strsOf (xs.map D.str) = some xs := by
  induction xs with
  | nil => rfl
  | cons x r ih => simp [strsOf, ih]
theorem strsOf_reps {K : PySem.W.Frag} {H : Hp} : ∀ {ds : List D} {ys : List Str} {vs : List V}, strsOf ds = some ys → Reps K H ds vs → vs = ys.map V.str
  | [], ys, vs, h, r => by simp only [strsOf, Option.some.injEq] at h; subst h; rw [reps_nil_inv r]; rfl
  | .str a :: ds, ys, vs, h, r => by
    obtain ⟨v, w, rfl, r1, r2⟩ := reps_cons_inv r
    simp only [strsOf, Option.map_eq_some_iff] at h
    obtain ⟨t, h1, rfl⟩ := h
    simp only [Rep] at r1
    rw [r1, strsOf_reps h1 r2]; rfl
  | .non :: ds, ys, vs, h, r => by simp [strsOf] at h
  | .bl _ :: ds, ys, vs, h, r => by simp [strsOf] at h
  | .int _ :: ds, ys, vs, h, r => by simp [strsOf] at h
  | .ty _ :: ds, ys, vs, h, r => by simp [strsOf] at h
  | .ref _ :: ds, ys, vs, h, r => by simp [strsOf] at h
  | .tup _ :: ds, ys, vs, h, r => by simp [strsOf] at h
  | .fzl _ :: ds, ys, vs, h, r => by simp [strsOf] at h
  | .fzt _ :: ds, ys, vs, h, r => by simp [strsOf] at h
def rdSplit : Str → D → Mp → DK → Prop := fun a y M Q => match y with
  | .str b => (b.length == 0) = false ∧ a.length ≤ 1000000 ∧ ∀ p, M p = none → Q (.ref p) (mup M p (.lst ((Txt.split a b).map .str)))
  | _ => False
def rdJoin : Str → D → Mp → DK → Prop := fun a y M Q => match (seqOf M y).bind strsOf with
  | some ys => (ys.map (·.length)).sum + ys.length * a.length ≤ 1000000 ∧ Q (.str (Txt.join a ys)) M
  | none => False
def rdFind : Str → D → Mp → DK → Prop := fun a y M Q => match y with
  | .str b => Q (.int (Txt.find a b)) M
  | _ => False
/-- str(n), int(text) -/
def rdStrI : List D → Mp → DK → Prop := fun ds M Q => one ds fun d => anInt d fun i => i.natAbs.log2 < 1920 ∧ Q (.str (toString i)) M
def rdIntS : List D → Mp → DK → Prop := fun ds M Q => one ds fun d => match d with
  | .str a => (match PySem.intText? a with
    | some n => a.length ≤ 640 ∧ Q (.int n) M
    | none => False)
  | _ => False
/-- a sign in a text -/
def rdInS (neg : Bool) : D → D → Mp → DK → Prop := fun x y M Q => match x, y with
  | .str c, .str z => (match c.cps.toList with
    | [k] => Q (.bl (if neg then !decide (k ∈ z.cps.toList) else decide (k ∈ z.cps.toList))) M
    | _ => False)
  | _, _ => False
/-- None in a list of None, numbers, texts, tuples -/
def okNone : D → Bool
  | .non => true
  | .bl _ => true
  | .int _ => true
  | .str _ => true
  | .tup _ => true
  | _ => false
def isNonD : D → Bool
  | .non => true
  | _ => false
section
variable {X : Cx} {o e : Expr} {to te : RE}
theorem qe_sm1 {id : String} {name : Str} {apos pos : Pos} {rd : Str → D → Mp → DK → Prop} (slot : Slot "str" name id) (ty : typeOf (.builtin id) = pure (.type "method_descriptor"))
    (rule : MtR X id fun v vs H Q => ∃ a y w M QD, v = .str a ∧ vs = [w] ∧ Rep X.K H y w ∧ Sm X.K M H ∧ rd a y M QD ∧ Wk X.K H QD Q) (ho : PE X o (lE X.K to)) (he : PE X e (lE X.K te))
    (hs : starEach [e] X.env = [(false, eval e X.env)] := by rfl) (hbase : attributeBase o name X.env (eval o X.env) = eval o X.env := by rfl) (hline : (apos.endLine == pos.line) = true := by rfl) :
    PE X (.Call (.Attribute o name apos) [e] [] pos) (lE X.K (dSM1 rd to te)) := by
  refine PE.wk (pe_m1 slot ty rule ho he hs hbase hline) fun σ H Q ⟨δ, M, QD, r, s, h, w⟩ => ?_
  refine ⟨δ, M, _, r, s, h, fun x M1 v H1 q1 r1 s1 p1 => ?_⟩
  cases x with
  | str a =>
    simp only [Rep] at r1
    subst r1
    exact ⟨⟨a, rfl⟩, δ, M1, _, r.mono p1, s1, q1, fun y M2 u H2 q2 r2 s2 p2 => ⟨a, y, u, M2, QD, rfl, rfl, r2, s2, q2, w.on (p1.trans p2)⟩⟩
  | _ => exact q1.elim
theorem m_split : MtR X "str.split" fun v vs H Q => ∃ a y w M QD, v = .str a ∧ vs = [w] ∧ Rep X.K H y w ∧ Sm X.K M H ∧ rdSplit a y M QD ∧ Wk X.K H QD Q := by
  intro pins s σ H v vs vv us Q I rv rs h
  obtain ⟨a, y, u, M, QD, rfl, rfl, ry, sm, h, w⟩ := h
  cases y with
  | str b =>
    simp only [Rep] at ry
    subst ry
    obtain ⟨h1, h2, h3⟩ := h
    refine mt_split pins s σ H _ _ vv us Q I rv rs ⟨a, b, rfl, rfl, h1, Nat.le_trans (Nat.add_le_add_right h2 2) (by decide), fun p hp => ?_⟩
    have pn : Pers H (upd H p (.lst ((Txt.split a b).map V.str))) := Pers.new hp
    have rr : ∀ (l : List Str) (G : Hp), Reps X.K G (l.map D.str) (l.map V.str) := fun l G => by
      induction l with
      | nil => exact reps_nil
      | cons z r ih => exact reps_cons (by simp only [Rep]) ih
    exact w _ _ _ _ (h3 p (sm.free hp)) (by simp only [Rep]) (sm.put (u := .lst ((Txt.split a b).map .str)) pn ⟨_, upd_same, rr _ _⟩) pn
  | _ => exact h.elim
theorem m_join : MtR X "str.join" fun v vs H Q => ∃ a y w M QD, v = .str a ∧ vs = [w] ∧ Rep X.K H y w ∧ Sm X.K M H ∧ rdJoin a y M QD ∧ Wk X.K H QD Q := by
  intro pins s σ H v vs vv us Q I rv rs h
  obtain ⟨a, y, u, M, QD, rfl, rfl, ry, sm, h, w⟩ := h
  simp only [rdJoin] at h
  split at h
  · rename_i ys e
    obtain ⟨ds, e1, e2⟩ := Option.bind_eq_some_iff.mp e
    obtain ⟨p, xs, rfl, hx, hr⟩ := seqOf_ok sm e1 ry
    have := strsOf_reps e2 hr
    subst this
    exact mt_join pins s σ H _ _ vv us Q I rv rs ⟨a, p, ys, rfl, rfl, hx, Nat.le_trans h.1 (by decide), w _ _ _ _ h.2 (by simp only [Rep]) sm (Pers.refl H)⟩
  · exact h.elim
theorem m_find : MtR X "str.find" fun v vs H Q => ∃ a y w M QD, v = .str a ∧ vs = [w] ∧ Rep X.K H y w ∧ Sm X.K M H ∧ rdFind a y M QD ∧ Wk X.K H QD Q := by
  intro pins s σ H v vs vv us Q I rv rs h
  obtain ⟨a, y, u, M, QD, rfl, rfl, ry, sm, h, w⟩ := h
  cases y with
  | str b =>
    simp only [Rep] at ry
    subst ry
    exact mt_find pins s σ H _ _ vv us Q I rv rs ⟨a, b, rfl, rfl, w _ _ _ _ h (by simp only [Rep]) sm (Pers.refl H)⟩
  | _ => exact h.elim
theorem qe_split {apos pos : Pos} (ho : PE X o (lE X.K to)) (he : PE X e (lE X.K te)) (hs : starEach [e] X.env = [(false, eval e X.env)] := by rfl) (hbase : attributeBase o "split" X.env (eval o X.env) = eval o X.env := by rfl) (hline : (apos.endLine == pos.line) = true := by rfl) :
    PE X (.Call (.Attribute o "split" apos) [e] [] pos) (lE X.K (dSM1 rdSplit to te)) := qe_sm1 F.slot_str_split F.type_str_split m_split ho he hs hbase hline
theorem qe_join {apos pos : Pos} (ho : PE X o (lE X.K to)) (he : PE X e (lE X.K te)) (hs : starEach [e] X.env = [(false, eval e X.env)] := by rfl) (hbase : attributeBase o "join" X.env (eval o X.env) = eval o X.env := by rfl) (hline : (apos.endLine == pos.line) = true := by rfl) :
    PE X (.Call (.Attribute o "join" apos) [e] [] pos) (lE X.K (dSM1 rdJoin to te)) := qe_sm1 F.slot_str_join F.type_str_join m_join ho he hs hbase hline
theorem qe_find {apos pos : Pos} (ho : PE X o (lE X.K to)) (he : PE X e (lE X.K te)) (hs : starEach [e] X.env = [(false, eval e X.env)] := by rfl) (hbase : attributeBase o "find" X.env (eval o X.env) = eval o X.env := by rfl) (hline : (apos.endLine == pos.line) = true := by rfl) :
    PE X (.Call (.Attribute o "find" apos) [e] [] pos) (lE X.K (dSM1 rdFind to te)) := qe_sm1 PySem.F.slot_str_find F.type_str_find m_find ho he hs hbase hline
theorem c_strI : CallR X (.type "str") (lC X.K rdStrI) := by
  intro pins s σ H vs us Q I rv ⟨ds, M, QD, rd, sm, h, w⟩
  obtain ⟨d, v, rfl, rfl, r1, h⟩ := one_inv h rd
  obtain ⟨i, rfl, rfl, h⟩ := anInt_inv h r1
  exact call_str_int pins s σ H _ us Q I rv ⟨i, rfl, h.1, w _ _ _ _ h.2 (by simp only [Rep]) sm (Pers.refl H)⟩
theorem c_intS : CallR X (.type "int") (lC X.K rdIntS) := by
  intro pins s σ H vs us Q I rv ⟨ds, M, QD, rd, sm, h, w⟩
  obtain ⟨d, v, rfl, rfl, r1, h⟩ := one_inv h rd
  cases d with
  | str a =>
    simp only [Rep] at r1
    subst r1
    dsimp only at h
    split at h
    · rename_i n e
      exact call_int_str pins s σ H _ us Q I rv ⟨a, n, rfl, e, h.1, w _ _ _ _ h.2 (by simp only [Rep]) sm (Pers.refl H)⟩
    · exact h.elim
  | _ => exact h.elim
theorem rdInS_inv {K : PySem.W.Frag} {H : Hp} {neg : Bool} {x y : D} {v u : V} {M : Mp} {Q : DK} (h : rdInS neg x y M Q) (rx : Rep K H x v) (ry : Rep K H y u) :
    ∃ (c : Nat) (z : Str), v = .str ⟨#[c]⟩ ∧ u = .str z ∧ Q (.bl (if neg then !decide (c ∈ z.cps.toList) else decide (c ∈ z.cps.toList))) M := by
  unfold rdInS at h
  split at h
  · rename_i c z
    simp only [Rep] at rx ry
    split at h
    · rename_i k e
      refine ⟨k, z, ?_, ry, h⟩
      rw [rx]
      congr 1
      cases c with
      | mk cps =>
        congr 1
        exact Array.toList_inj.mp e
    · exact h.elim
  · exact h.elim
theorem o_inS : OpR X (compareOp .In) (lR X.K (rdInS false)) := by
  intro pins s σ H v u vv uu Q I rv ru ⟨x, y, M, QD, rx, ry, sm, h, w⟩
  obtain ⟨c, z, rfl, rfl, h⟩ := rdInS_inv h rx ry
  exact op_in_sign pins s σ H _ _ vv uu Q I rv ru ⟨c, z, rfl, rfl, w _ _ _ _ h (by simp [Rep]) sm (Pers.refl H)⟩
theorem o_notInS : OpR X (compareOp .NotIn) (lR X.K (rdInS true)) := by
  intro pins s σ H v u vv uu Q I rv ru ⟨x, y, M, QD, rx, ry, sm, h, w⟩
  obtain ⟨c, z, rfl, rfl, h⟩ := rdInS_inv h rx ry
  exact op_notIn_sign pins s σ H _ _ vv uu Q I rv ru ⟨c, z, rfl, rfl, w _ _ _ _ h (by simp [Rep]) sm (Pers.refl H)⟩
end
end Dl
/-! Exceptions that are caught: held as things. -/
namespace Dl
open PySem PySem.Spec PyProof.Rows L2
theorem evO_ok {P : Program} {w : World} {H : Hp} {h : Heap} {a : Addr} {cls : Value} {d : Option Addr} {oe : Obj} {vs : Array Value} (e : h.get? a = some oe) (z : L2.Zc cls d oe) (hd : oe.data = .fields vs) : ObjOk P w H h a (EvO cls d a) :=
  ⟨⟨oe, vs, e, z, hd⟩, ⟨oe, e⟩, fun _ _ x k => x.elim fun o y => y.elim fun v q => ⟨o, v, k o q.1, q.2⟩⟩
section
variable {X : Cx} {pins : List (Addr × Obj)} {σ : L2.St} {H : Hp} {s : Shared} {a : Addr}
/-- an object that was laid since the entry is held from now on -/
theorem Inv.hold {o : HO} (I : L2.Inv X pins σ H s) (n0 : X.s_0.heap.get? a = none) (hn : H a = none) (nL : a ≠ X.env.locals) (nC : ∀ x c, X.env.cells.lookup x = some c → c ≠ a) (nP : ∀ p ∈ X.pn ++ pins, p.1 ≠ a)
    (new : ObjOk X.prog X.w (upd H a o) s.heap a o) : L2.Inv X pins σ (upd H a o) s := by
  have keep : ∀ {b : Addr} {u : HO}, H b = some u → upd H a o b = some u := fun {b u} e => by rw [upd_ne (ne_of_none e hn)]; exact e
  refine ⟨I.ok, I.os, I.bare, ⟨I.base.keep, I.base.slot, fun b u e n x => ?_, I.base.there, fun b xs e => keep (I.base.tups b xs e), fun b u v e => keep (I.base.frzs b u v e), fun b ps e => ?_⟩, I.loc, I.cell, ?_, fun x c e => ?_, fun p hp => ?_, fun b u e => ?_, I.len⟩
  · rw [upd_ne (fun z => by rw [z, n0] at e; cases e)]; exact I.base.free b u e n x
  · obtain ⟨m, q⟩ := I.base.tbls b ps e
    exact ⟨m, keep q⟩
  · rw [upd_ne (Ne.symm nL)]; exact I.free
  · rw [upd_ne (nC x c e)]; exact I.freeC x c e
  · obtain ⟨q1, q2, q3⟩ := I.pin p hp
    exact ⟨q1, by rw [upd_ne (nP p hp)]; exact q2, q3⟩
  · by_cases hb : b = a
    · subst hb
      rw [upd_same] at e
      cases e
      exact new
    · rw [upd_ne hb] at e
      exact (I.hok b u e).stay (fun c v _ q => q) (fun c q => keep q) fun c xs q => keep q
end
/-- what a clause that names its exception wishes of the body -/
def wEv (K : PySem.W.Frag) (c : Value) (i : Nat) (ts : Addr → Value → Option Addr → TS) (Wout : WX) (D : Ends) : WX := fun cls d σ H =>
  ∃ b, PySem.W.exmOne K cls c = some b ∧ (b = true → ∀ a, H a = none → ts a cls d { nx := fun σ' H' => D.nx (σ'.set i none) H', rt := D.rt, bk := fun σ' H' => D.bk (σ'.set i none) H', ct := fun σ' H' => D.ct (σ'.set i none) H' } (σ.set i (some (.ref a))) (upd H a (EvO cls d a))) ∧
    (b = false → Wout cls d σ H)
section
variable {X : Cx} {x n : Str} {c : Value} {i : Nat} {body suite : List Stmt} {b₀ : Stmt} {np pos pos' : Pos} {tb : WX → TS} {ts : Addr → Value → Option Addr → TS} {Wout : WX}
theorem ps_try_ev (hex : X.ex = []) (hs : X.stack = X.env :: X.outer) (hf : X.env.frame = some X.env.locals) (hN : X.N.Nodup) (hi : X.N[i]? = some n) (hln : X.env.kindOf n = some .local) (hc : Names X x c) (tk : Takes X Wout)
    (hb : ∀ (W : WX) (pn : List (Addr × Obj)) (xe : Value → Shared → Prop), Takes (X.tr pn xe) W → PassesOwn (model X.prog X.w) X.A X.env xe → PSs (X.tr pn xe) body (tb W))
    (hsu : ∀ (a : Addr) (cls : Value) (d : Option Addr) (pn : List (Addr × Obj)), PSs (X.suite a pn) (b₀ :: suite) (ts a cls d)) :
    PS X (.Try body [.ExceptHandler (some (.Name x np)) (some n) (b₀ :: suite) pos'] [] [] pos) (fun D σ H => tb (wEv X.K c i ts Wout D) D σ H) := by
  refine ⟨fun pins s σ H D I h => ?_⟩
  have ok := I.ok
  have hfr : X.A.frames = some (X.env :: X.outer) := by rw [ok.frames, hs]
  refine wpAny_Try_except ?_
  have run := (hb (wEv X.K c i ts Wout D) (X.pn ++ pins) (fun e s₁ => wpAny (model X.prog X.w) X.A (noteFrame e X.env) (fun _ s₂ => wpAny (model X.prog X.w) X.A (setFlight e none) (fun _ s₃ =>
    wpAny (model X.prog X.w) X.A (handleBy e X.env [.ExceptHandler (some (.Name x np)) (some n) (b₀ :: suite) pos']) (SP X pins D) X.xe s₃) X.xe s₂) X.xe s₁) (fun u s' xx => ?_) PassesOwn.looking).run [] s σ H D (I.toTry _) h
  · refine wpAny_mono run (fun f s1 hsp => ?_) (fun e s1 he => he)
    cases f with
    | next => exact hsp.elim fun σ' z => z.elim fun H' y => wpAny_execs_nil ⟨σ', H', y.1.ofTry ok, y.2⟩
    | brk => exact hsp.elim fun σ' z => z.elim fun H' y => ⟨σ', H', y.1.ofTry ok, y.2⟩
    | cont => exact hsp.elim fun σ' z => z.elim fun H' y => ⟨σ', H', y.1.ofTry ok, y.2⟩
    | ret u =>
      obtain ⟨v, σ', H', J', r, q⟩ := hsp
      exact ⟨v, σ', H', J'.ofTry ok, r, q⟩
  · obtain ⟨a, B, sI, pi, σ', H', cls, d, rfl, J0, nb, up, sky, na, os, ag, b, hb1, hyes, hno⟩ := xx
    have J : L2.Inv X pins σ' H' sI := J0.ofTry ok
    rw [show (X.tr (X.pn ++ pins) _).stack = X.env :: X.outer from hs] at sky
    show wpAny (model X.prog X.w) X.A (noteFrame (.ref a) X.env) _ _ _
    refine Sky.land Zc.steady hfr hf sky fun hA flA upA => ?_
    have JA : L2.Inv X pins σ' H' { s' with heap := hA } := J.landed nb flA.1 (up.trans upA) os ag
    obtain ⟨oA, vA, eA, zA, dA⟩ := flA.there
    have nFr : a ∉ frs (X.env :: X.outer) := fun hm => by
      obtain ⟨_, o', e', hnf⟩ := flA.2.2.1.mem hm
      rw [eA] at e'; cases e'
      exact hnf _ dA
    have nL : a ≠ X.env.locals := fun z => nFr (List.mem_filterMap.mpr ⟨X.env, List.mem_cons_self, by rw [hf, z]⟩)
    have nF : a ∉ X.fs := fun hm => (List.mem_filterMap.mp hm).elim fun e q => nFr (List.mem_filterMap.mpr ⟨e, List.mem_cons_of_mem _ q.1, q.2⟩)
    have nI : sI.heap.get? a = none := by
      cases q : sI.heap.get? a with
      | none => rfl
      | some o =>
        have z := nb a o q (by rw [show (X.tr (X.pn ++ pins) _).stack = X.env :: X.outer from hs]; exact nFr)
        rw [flA.2.1] at z; cases z
    have n0 : X.s_0.heap.get? a = none := by
      cases q : X.s_0.heap.get? a with
      | none => rfl
      | some o =>
        obtain ⟨o', z⟩ := J.base.there a o q (by show a ∉ X.ex; rw [hex]; exact fun z => nomatch z)
        rw [nI] at z; cases z
    have nP : ∀ p ∈ X.pn ++ pins, p.1 ≠ a := fun p hp z => by
      have q := (J.pin p hp).1
      rw [z, nI] at q; cases q
    have nC : ∀ x c, X.env.cells.lookup x = some c → c ≠ a := fun x c e z => by
      obtain ⟨v, o, q, _⟩ := J.cell x c e
      rw [z, nI] at q; cases q
    have SA := JA.suite eA dA na nL nF
    have isA : PySem.W.Looks (model X.prog X.w) hA (typeOf (.ref a)) cls := fun A Q E t k q => wpAny_typeOf_ref (k _ _ eA) (by rw [zA.1]; exact q)
    have fits := PySem.W.exm_one (M := model X.prog X.w) JA.kIn isA hb1
    have named : ∀ {Q : Value → Shared → Prop} {E : Value → Shared → Prop}, Q c { s' with heap := hA } → wpAny (model X.prog X.w) (X.A.mark (some (.ref a))) (eval (.Name x np) X.env) Q E { s' with heap := hA } := fun {Q E} q => by
      obtain ⟨hg, hdb, hm | ⟨hm, hv, hnn⟩⟩ := hc
      · exact ld_glob (X := X.suite a ((a, oA) :: (X.pn ++ pins))) SA hg hm q hdb
      · exact ld_blt (X := X.suite a ((a, oA) :: (X.pn ++ pins))) SA hg hm hv q hnn hdb
    refine wpAny_handleBy_cons (codeAny_handlers_test ?_) (by intro q; cases q)
    refine named (fits.here ?_)
    cases b with
    | true =>
      refine codeAny_handlers_suite_as (HandSPX.lands_againZ flA fun hB flB upB => ?_)
      have JB : L2.Inv X pins σ' H' { s' with heap := hB } := J.landed nb flB.1 ((up.trans upA).trans upB) os ag
      obtain ⟨oB, vB, eB, zB, dB⟩ := flB.there
      have KB : L2.Inv X pins σ' (upd H' a (EvO cls d a)) { s' with heap := hB } := Inv.hold JB n0 na nL nC nP (evO_ok eB zB dB)
      have SB : L2.Inv (X.suite a (X.pn ++ pins)) [] σ' (upd H' a (EvO cls d a)) { s' with heap := hB } := ⟨KB.ok.suite _ _, KB.os, KB.bare, KB.base, KB.loc, KB.cell, KB.free, KB.freeC, fun p hp => KB.pin p (by simpa using hp), KB.hok, KB.len⟩
      refine store_ok (X := X.suite a (X.pn ++ pins)) (v := .ref a) SB hN hi (.inl hln) rfl (fun s5 S5 => ?_) (.inr hln)
      have back : ∀ {σ6 : L2.St} {H6 : Hp} {s6 : Shared}, L2.Inv (X.suite a (X.pn ++ pins)) [] σ6 H6 s6 → L2.Inv X pins σ6 H6 s6 := fun {σ6 H6 s6} S => ⟨ok, S.os, S.bare, S.base, S.loc, S.cell, S.free, S.freeC, fun p hp => S.pin p (by simpa using hp), S.hok, S.len⟩
      refine wpAny_mono ((hsu a cls d (X.pn ++ pins)).run [] s5 _ _ _ S5 (hyes rfl a na)) (fun f s6 hsp => ?_) (fun _ _ z => False.elim z)
      cases f with
      | next => exact hsp.elim fun σ6 z => z.elim fun H6 y => gone_ok (back y.1) hN hi hln fun s7 J7 => ⟨_, _, J7, y.2⟩
      | brk => exact hsp.elim fun σ6 z => z.elim fun H6 y => gone_ok (back y.1) hN hi hln fun s7 J7 => ⟨_, _, J7, y.2⟩
      | cont => exact hsp.elim fun σ6 z => z.elim fun H6 y => gone_ok (back y.1) hN hi hln fun s7 J7 => ⟨_, _, J7, y.2⟩
      | ret u =>
        obtain ⟨v6, σ6, H6, S6, r6, q6⟩ := hsp
        exact gone_ok (back S6) hN hi hln fun s7 J7 => ⟨_, _, _, J7, r6, q6⟩
    | false =>
      show wpAny _ X.A (handleBy (.ref a) X.env []) _ _ _
      refine wpAny_handleBy_nil ?_
      obtain ⟨_, _, _, oT, vT, T, _, _, hT, _, hTd, hT1, _⟩ := id flA
      unfold PySem.passOn
      refine wpAny_bind (wpAny_field hT hTd hT1 ?_)
      rw [if_neg (by simp)]
      refine wpAny_bind ?_
      rw [hf]
      refine HandSPX.setFlight_upZ flA fun hB fB upB => wpAny_throw (tk _ _ ?_)
      exact ⟨a, B, sI, pins, σ', H', cls, d, rfl, J, nb, (up.trans upA).trans upB, .inr (.inr (by rw [hs]; exact fB)), na, os, ag, hno rfl⟩
end
end Dl
/-! raise, try, isinstance of exceptions, over data. -/
namespace Dl
open PySem PySem.Spec PyProof.Rows L2
def lEX (K : PySem.W.Frag) (W : WX) (t : DX → RE) : TE := fun σ H Q => ∃ δ M QD ED, RepS K H δ σ ∧ Sm K M H ∧ t ED δ M QD ∧ Wk K H QD Q ∧ WkX K H ED (fun cls d H' => W cls d σ H')
def lSX (K : PySem.W.Frag) (W : WX) (t : DX → RS) : TS := fun D σ H => ∃ δ M E ED, RepS K H δ σ ∧ Sm K M H ∧ t ED E δ M ∧ Imp K H E D ∧ WkX K H ED (fun cls d H' => W cls d σ H')
def dRaise (C : Addr) (ED : DX) : RS := fun E δ M => upX ED (.ref C) none M
/-- the suite of a clause that names its exception -/
def suiteD (i : Nat) (ts : RS) (E : DEnds) (δ : DSt) (cls : Value) : Option (List (Str × D)) → Mp → Prop
  | none, M => ∀ a, M a = none → ts { E with nx := fun δ' M' => E.nx (δ'.set i none) M', bk := fun δ' M' => E.bk (δ'.set i none) M', ct := fun δ' M' => E.ct (δ'.set i none) M' } (δ.set i (some (.ref a))) (mup M a (.ev cls none))
  | some fs, M => ∀ a dx, M a = none → a ≠ dx → (∀ o, M dx = some o → ∃ g, o = .xd g) → ts { E with nx := fun δ' M' => E.nx (δ'.set i none) M', bk := fun δ' M' => E.bk (δ'.set i none) M', ct := fun δ' M' => E.ct (δ'.set i none) M' } (δ.set i (some (.ref a))) (mup (mup M dx (.xd fs)) a (.ev cls (some dx)))
def dTryAs (K : PySem.W.Frag) (c : Value) (i : Nat) (EO : DX) (tb : DX → RS) (ts : RS) : RS := fun E δ M => tb (fun cls fs M' => ∃ b, PySem.W.exmOne K cls c = some b ∧ (b = true → suiteD i ts E δ cls fs M') ∧ (b = false → EO cls fs M')) E δ M
section
variable {X : Cx} {k : Nat} {f C : Addr} {fd : FuncData} {ps : List Str} {sp : DSp} {x m n : Str} {p p2 pos pos' np : Pos} {e o : Expr} {es : List Expr} {t : RA} {ED EO : DX} {W : WX} {tx : DX → RE} {c : Value} {body suite : List Stmt} {b₀ : Stmt} {tb : DX → RS} {ts : RS}
theorem qex_call (F : FnD X.prog X.w X.K X.mg X.base k f fd ps sp) (hr : Room k X.A) (hg : Gl X x) (hm : X.mg x = some (.ref f)) (hk : PySem.W.keepIn X.K (.ref f) = true) (hb : Binds X.K fd ps []) (tk : Takes X W)
    (ha : PA X (e :: es) (lA X.K t)) (hdb : (x == ("__debug__" : Str)) = false := by decide) (he : starEach (e :: es) X.env = (false, eval e X.env) :: starEach es X.env := by rfl) (hpl : (backTo pos (starEach es X.env)).any (·.1) = false := by rfl) :
    PE X (.Call (.Name x p) (e :: es) [] pos) (lEX X.K W fun ED => dCallX sp [] (upX ED) t) :=
  PE.wk (pe_callS (E := WE W) F hr hg hm hk hb (passAt tk) ha hdb he hpl) fun σ H Q ⟨δ, M, QD, ED, r, s, h, w, we⟩ =>
    ⟨δ, M, _, r, s, h, fun ds M1 vs H1 q1 r1 s1 p1 => ⟨ds, M1, QD, _, r1, s1, by simpa using q1, w.on p1, (we.on p1).up⟩⟩
theorem qsx_set (i : Nat) (hN : X.N.Nodup) (he : PE X e (lEX X.K W tx)) (hi : X.N[i]? = some x := by rfl) (hx : Loc X.env.scope x := by first | exact Or.inl rfl | exact Or.inr rfl) (hs : swapsWith e (some (.Name x pos')) pos.line X.env = pure false := by rfl)
    (hf : X.fn x = true ∨ X.env.scope.names.lookup x = some .local := by first | exact .inl rfl | exact .inr rfl) : PS X (.Assign [.Name x pos'] e pos) (lSX X.K W fun ED => dAsg (tx ED) (dgName i)) := by
  refine PS.wk (ps_set hN hi hx he hs hf) fun D σ H ⟨δ, M, E, ED, r, s, h, w, we⟩ => ?_
  exact ⟨δ, M, _, ED, r, s, h, fun d M1 v H1 q1 r1 s1 p1 => w.nx _ _ _ _ q1 ((r.mono p1).set i r1) s1 p1, we⟩
theorem qsx_ret (he : PE X e (lEX X.K W tx)) : PS X (.Return (some e) pos) (lSX X.K W fun ED => dRet (tx ED)) :=
  PS.wk (ps_ret he) fun D σ H ⟨δ, M, E, ED, r, s, h, w, we⟩ => ⟨δ, M, _, ED, r, s, h, w.rt, we⟩
theorem qsx_expr (he : PE X e (lEX X.K W tx)) (hs : swapsWith e none pos.line X.env = pure false := by rfl) : PS X (.Expr e pos) (lSX X.K W fun ED => dDrop (tx ED)) :=
  PS.wk (ps_expr he hs) fun D σ H ⟨δ, M, E, ED, r, s, h, w, we⟩ => ⟨δ, M, _, ED, r, s, h, fun d M1 v H1 q1 r1 s1 p1 => w.nx _ _ _ _ q1 (r.mono p1) s1 p1, we⟩
theorem qsx_one {st : Stmt} (h1 : PS X st (lSX X.K W tb)) : PSs X [st] (lSX X.K W tb) := pss_one h1
theorem qs_raise {j : Nat} (hc : X.calm = true) (tk : Takes X (fun cls d _ H => xk X.K ED cls d H)) (q : PySem.W.excIn X.K C He.veBase "ValueError.__new__" = true) (gC : X.mg x = some (.ref C)) (kC : PySem.W.keepIn X.K (.ref C) = true)
    (r1 : PySem.W.subIn X.K (.ref C) (.type "BaseException") = some true) (r2 : PySem.W.typeIn X.K (.ref C) = some (.type "type")) (hg : Gl X x) (hdb : (x == ("__debug__" : Str)) = false := by decide) :
    PS X (.Raise (some (.Call (.Name x p) [.Constant (.str m) j p2] [] pos)) none pos') (lS X.K (dRaise C ED)) := by
  refine PS.wk (ps_raise hc tk (pmk_own PySem.F.excBase_ValueError q gC kC (raises_own r1 r2) hg hdb)) fun D σ H ⟨δ, M, E, r, s, h, w⟩ => ?_
  obtain ⟨M0, sb, h⟩ := h
  exact ⟨none, M0, h, rfl, s.sub sb⟩
theorem suiteD_ok {i : Nat} {E : DEnds} {δ : DSt} {cls : Value} {fs : Option (List (Str × D))} {M : Mp} {D : Ends} {σ : L2.St} {H : Hp} {d : Option Addr} {K : PySem.W.Frag} (h : suiteD i ts E δ cls fs M) (r : RepS K H δ σ) (sm : Sm K M H) (w : Imp K H E D) (xd : Xd K H fs d) {a : Addr} (na : H a = none) :
    lS K ts { nx := fun σ' H' => D.nx (σ'.set i none) H', rt := D.rt, bk := fun σ' H' => D.bk (σ'.set i none) H', ct := fun σ' H' => D.ct (σ'.set i none) H' } (σ.set i (some (.ref a))) (upd H a (EvO cls d a)) := by
  have pn : Pers H (upd H a (EvO cls d a)) := Pers.new na
  have w' : Imp K (upd H a (EvO cls d a)) { E with nx := fun δ' M' => E.nx (δ'.set i none) M', bk := fun δ' M' => E.bk (δ'.set i none) M', ct := fun δ' M' => E.ct (δ'.set i none) M' }
      { nx := fun σ' H' => D.nx (σ'.set i none) H', rt := D.rt, bk := fun σ' H' => D.bk (σ'.set i none) H', ct := fun σ' H' => D.ct (σ'.set i none) H' } :=
    ⟨fun δ' M' σ' H' q r s p => w.nx _ _ _ _ q (r.unset i) s (pn.trans p), w.rt.on pn, fun δ' M' σ' H' q r s p => w.bk _ _ _ _ q (r.unset i) s (pn.trans p), fun δ' M' σ' H' q r s p => w.ct _ _ _ _ q (r.unset i) s (pn.trans p)⟩
  have r' : RepS K (upd H a (EvO cls d a)) (δ.set i (some (.ref a))) (σ.set i (some (.ref a))) := (r.mono pn).set i (by simp only [Rep])
  cases fs with
  | none =>
    have e : d = none := xd
    subst e
    exact ⟨_, _, _, r', sm.put (u := .ev cls none) pn upd_same, h a (sm.free na), w'⟩
  | some fs =>
    obtain ⟨dx, xs, rfl, hx, rx⟩ := xd
    have ne : a ≠ dx := fun z => by rw [← z, na] at hx; cases hx
    have sm2 : Sm K (mup M dx (.xd fs)) H := fun b o e => by
      by_cases hb : b = dx
      · subst hb; rw [mup_same] at e; cases e; exact ⟨xs, hx, rx⟩
      · rw [mup_ne hb] at e; exact sm b o e
    refine ⟨_, _, _, r', sm2.put (u := .ev cls (some dx)) pn upd_same, h a dx (sm.free na) ne fun o e => ?_, w'⟩
    have z := sm dx o e
    cases o with
    | xd g => exact ⟨g, rfl⟩
    | lst g => obtain ⟨_, q, _⟩ := z; rw [hx] at q; cases q
    | dK g => obtain ⟨_, q, _⟩ := z; rw [hx] at q; cases q
    | dT g => obtain ⟨_, q, _⟩ := z; rw [hx] at q; cases q
    | ins C g => obtain ⟨_, _, q, _⟩ := z; rw [hx] at q; cases q
    | ev c d => have q : H dx = _ := z; rw [hx] at q; cases q
    | lk o =>
      cases o with
      | dK g => obtain ⟨_, _, q, _⟩ := z; rw [hx] at q; cases q
      | dT g => obtain ⟨_, _, q, _⟩ := z; rw [hx] at q; cases q
      | _ => exact (show False from z).elim
theorem qs_try_as (i : Nat) (hN : X.N.Nodup) (tk : Takes X (fun cls d _ H => xk X.K EO cls d H)) (hc : Names X x c) (hi : X.N[i]? = some n) (hln : X.env.kindOf n = some .local)
    (hb : ∀ (W : WX) (pn : List (Addr × Obj)) (xe : Value → Shared → Prop), Takes (X.tr pn xe) W → PassesOwn (model X.prog X.w) X.A X.env xe → PSs (X.tr pn xe) body (lSX X.K W tb))
    (hsu : ∀ (a : Addr) (pn : List (Addr × Obj)), PSs (X.suite a pn) (b₀ :: suite) (lS X.K ts)) (hex : X.ex = [] := by rfl) (hs : X.stack = X.env :: X.outer := by rfl) (hf : X.env.frame = some X.env.locals := by rfl) :
    PS X (.Try body [.ExceptHandler (some (.Name x np)) (some n) (b₀ :: suite) pos'] [] [] pos) (lS X.K (dTryAs X.K c i EO tb ts)) := by
  refine PS.wk (ps_try_ev hex hs hf hN hi hln hc tk hb (ts := fun _ _ _ => lS X.K ts) fun a cls d pn => hsu a pn) fun D σ H ⟨δ, M, E, r, s, h, w⟩ => ?_
  refine ⟨δ, M, E, _, r, s, h, w, fun cls fs M' d H' q xd s' p => ?_⟩
  obtain ⟨b, hb, hy, hn⟩ := q
  exact ⟨b, hb, fun e a ha => suiteD_ok (hy e) (r.mono p) s' (w.on p) xd ha, fun e => ⟨fs, M', hn e, xd, s'⟩⟩
end

/-! ### isinstance of a held exception -/
def rdIsEv (K : PySem.W.Frag) : List D → Mp → DK → Prop := fun ds M Q => two ds fun x c => match x with
  | .ref a => (match M a with
    | some (.ev (.ref C) none) => ExcC K C ∧ (match c with
      | .ref C' => ∃ b, PySem.W.kitOne K (.ref C) (.ref C') = some b ∧ Q (.bl b) M
      | .ty n => ∃ b, PySem.W.kitOne K (.ref C) (.type n) = some b ∧ Q (.bl b) M
      | .tup cs => ∃ (us : List Addr) (b : Bool), cs = us.map D.ref ∧ PySem.W.kitAny K (.ref C) (us.map Value.ref) = some b ∧ Q (.bl b) M
      | _ => False)
    | _ => False)
  | _ => False
theorem reps_refs {K : PySem.W.Frag} {H : Hp} : ∀ {us : List Addr} {vs : List V}, Reps K H (us.map D.ref) vs → vs = us.map V.ref
  | [], vs, h => reps_nil_inv h
  | u :: us, vs, h => by
    obtain ⟨v, r, rfl, a, b⟩ := reps_cons_inv h
    simp only [Rep] at a
    rw [a, reps_refs b]; rfl
theorem vals_refs : ∀ {us : List Addr} {ws : List Value}, Vals (us.map V.ref) ws → ws = us.map Value.ref
  | [], _, .nil => rfl
  | u :: us, _, .cons r t => by
    cases (show _ = Value.ref u from r)
    rw [vals_refs t]; rfl
theorem c_isEv {X : Cx} : CallR X (.builtin "isinstance") (lC X.K (rdIsEv X.K)) := by
  intro pins s σ H vs us Q I rv ⟨ds, M, QD, rd, sm, h, w⟩
  obtain ⟨x, c, v, v', rfl, rfl, r1, r2, h⟩ := two_inv h rd
  cases x with
  | ref a =>
    simp only [Rep] at r1
    subst r1
    dsimp only at h
    split at h
    · rename_i C eM
      obtain ⟨E, h⟩ := h
      obtain ⟨u1, u2, rfl, q1, q2⟩ := vals2 rv
      cases (show u1 = Value.ref a from q1)
      obtain ⟨⟨oe, ve, h1, h2, h3⟩, _, _⟩ := I.hok a _ (show H a = some (EvO (.ref C) none a) from sm a _ eM)
      have J : PySem.W.InstAt s.heap a oe C none := by
        obtain ⟨oc, od, oda, osl⟩ := oe
        obtain ⟨z1, z2⟩ := h2
        dsimp only at z1 z2 h3
        subst z1 z2 h3
        exact ⟨h1, rfl, rfl, trivial⟩
      have kx := PySem.W.handS_kitx_exc (x := a) (ox := oe) E.hg E.hk E.hs E.hd E.ha E.hn E.ht E.hm
      cases c with
      | ref C' =>
        obtain ⟨b, e, q⟩ := h
        simp only [Rep] at r2
        subst r2
        cases (show u2 = Value.ref C' from q2)
        exact PySem.W.kia_one kx I.kIn J e (fun z => nomatch z) fun tk => ⟨.bl b, H, I.kept (t' := tk) fun _ _ z => z, rfl, w _ _ _ _ q (by simp only [Rep]) sm (Pers.refl H)⟩
      | ty n =>
        obtain ⟨b, e, q⟩ := h
        simp only [Rep] at r2
        subst r2
        cases (show u2 = Value.type n from q2)
        exact PySem.W.kia_one kx I.kIn J e (fun z => nomatch z) fun tk => ⟨.bl b, H, I.kept (t' := tk) fun _ _ z => z, rfl, w _ _ _ _ q (by simp only [Rep]) sm (Pers.refl H)⟩
      | tup cs =>
        obtain ⟨us, b, rfl, e, q⟩ := h
        obtain ⟨tp, xs, rfl, hT, hr⟩ := rep_tupH r2
        have := reps_refs hr
        subst this
        cases (show u2 = Value.ref tp from q2)
        obtain ⟨_, its, rv, o, g1, g2, n, g3⟩ := (show ObjOk X.prog X.w H s.heap tp (.tup (us.map V.ref)) from I.hok tp _ hT)
        have e3 := vals_refs rv
        subst e3
        obtain ⟨oc, od, dt, sl⟩ := o
        simp only at g2 g3
        subst g2 g3
        exact PySem.W.kia_tup kx I.kIn J g1 e (fun z => nomatch z) fun tk => ⟨.bl b, H, I.kept (t' := tk) fun _ _ z => z, rfl, w _ _ _ _ q (by simp only [Rep]) sm (Pers.refl H)⟩
      | _ => exact (show False from h).elim
    · exact (show False from h).elim
  | _ => exact (show False from h).elim
end Dl
/-! Comprehensions that raise, x in ys, over data. -/
namespace Dl
open PySem PySem.Spec PyProof.Rows L2
section
variable {X : Cx}
theorem qe_lcX {ED : DX} {elt tg iter : Expr} {ifs : List Expr} {scope : Scope} {own : List (Str × Nat)} {pos : Pos} {wi : RI} {g : RG} {tt : RT} {te : RE} (hc : X.calm = true) (hN : X.N.Nodup) (tk : Takes X (fun cls d _ H => xk X.K ED cls d H))
    (hi : PI X tg iter (lI X.K wi)) (ok : BlkOk X.N X.env.scope scope own)
    (hg : ∀ (s : Shared) (H : Hp) (C : Addr) (cl : List (Str × Addr)) (fp : List Addr), PG (X.blk s H scope (compEnvC scope cl C X.env) fp) tg (lGv X.K (own.map (·.2)) g)) (ht : ∀ (s : Shared) (H : Hp) (C : Addr) (cl : List (Str × Addr)) (fp : List Addr), PTs (X.blk s H scope (compEnvC scope cl C X.env) fp) ifs (lT X.K tt))
    (he : ∀ (s : Shared) (H : Hp) (C : Addr) (cl : List (Str × Addr)) (fp : List Addr), PE (blkX X s H scope (compEnvC scope cl C X.env) fp (xk X.K ED)) elt (lE X.K te)) (hs : ∀ x, foldedSetIterable iter X.env x = pure x := by intro _; rfl)
    (hst : X.stack = X.env :: X.outer := by rfl) (hf : X.env.frame = some X.env.locals := by rfl) :
    PE X (.ListComp elt [⟨tg, iter, ifs, 0⟩] scope pos) (lE X.K (dLc wi g tt te (own.map (·.2)))) :=
  PE.wk (pe_lcX hc hN tk hst hf hi ok hg ht he hs) fun σ H Q h => lLc h
theorem qe_callBlk {k : Nat} {f : Addr} {fd : FuncData} {ps : List Str} {sp : DSp} {x : Str} {p pos : Pos} {e : Expr} {es : List Expr} {t : RA} {ED : DX} {s0 : Shared} {H0 : Hp} {sc : Scope} {ce : Env} {fp : List Addr}
    (F : FnD X.prog X.w X.K X.mg X.base k f fd ps sp) (hr : Room k X.A) (hm : X.mg x = some (.ref f)) (hk : PySem.W.keepIn X.K (.ref f) = true) (hb : Binds X.K fd ps []) (hg : Gl (blkX X s0 H0 sc ce fp (xk X.K ED)) x)
    (ha : PA (blkX X s0 H0 sc ce fp (xk X.K ED)) (e :: es) (lA X.K t)) (hdb : (x == ("__debug__" : Str)) = false := by decide) (he : starEach (e :: es) ce = (false, eval e ce) :: starEach es ce := by rfl) (hpl : (backTo pos (starEach es ce)).any (·.1) = false := by rfl) :
    PE (blkX X s0 H0 sc ce fp (xk X.K ED)) (.Call (.Name x p) (e :: es) [] pos) (lE X.K (dCallX sp [] (upX ED) t)) :=
  PE.wk (pe_call (X := blkX X s0 H0 sc ce fp (xk X.K ED)) (E := xk X.K ED) F hr hg hm hk hb .nil (fun pins σ H s e s' I c => ⟨pins, σ, H, s, I.unwish, c⟩) ha hdb he hpl) fun σ H Q h => lCall dd0 (fun _ => xkk.up) h
end
/-- x in ys: a sign in a text, a datum in a list or tuple of data -/
def rdIn (neg : Bool) : D → D → Mp → DK → Prop := fun x y M Q => match y with
  | .str _ => rdInS neg x y M Q
  | _ => ∃ p ps, Dn M 60 x p ∧ (Dn M 60 y (.list ps) ∨ Dn M 60 y (.tuple ps)) ∧ Q (.bl (if neg then !ps.any (fun z => PyData.eqv z p) else ps.any fun z => PyData.eqv z p)) M
section
variable {X : Cx}
theorem depthAll_le {ps : List PyData} {n : Nat} (h : (PyData.list ps).depth ≤ n ∨ (PyData.tuple ps).depth ≤ n) : PyData.depthAll ps ≤ n := by
  rcases h with h | h <;> (simp only [PyData.depth] at h; omega)
theorem in_data {neg : Bool} {op : CmpOp} (hop : op = if neg then .NotIn else .In) (hu : X.A.units + 64 < cLine) {x y : D} {v u : V} {vv uu : Value} {M : Mp} {H : Hp} {QD : DK} {Q : VK} {pins : List (Addr × Obj)} {σ : L2.St} {s : Shared} (I : L2.Inv X pins σ H s) (rv : RelV v vv) (ru : RelV u uu) (rx : Rep X.K H x v) (ry : Rep X.K H y u) (sm : Sm X.K M H) (w : Wk X.K H QD Q)
    (h : ∃ p ps, Dn M 60 x p ∧ (Dn M 60 y (.list ps) ∨ Dn M 60 y (.tuple ps)) ∧ QD (.bl (if neg then !ps.any (fun z => PyData.eqv z p) else ps.any fun z => PyData.eqv z p)) M) :
    wpAny (model X.prog X.w) X.A (compareOp op vv uu) (EP X pins σ Q) X.xe s := by
  obtain ⟨p, ps, h1, h2, h3⟩ := h
  obtain ⟨a1, a2, a3⟩ := dn_ok sm _ _ _ _ h1 rx
  obtain ⟨as, r1⟩ := Dp.reads I p v vv a1 rv
  have fin : ∀ b : Bool, QD (.bl b) M → EP X pins σ Q (.bool b) s := fun b q => ⟨.bl b, H, I, rfl, w _ _ _ _ q (by simp only [Rep]) sm (Pers.refl H)⟩
  rcases h2 with h2 | h2
  · obtain ⟨b1, b2, b3⟩ := dn_ok sm _ _ _ _ h2 ry
    obtain ⟨bs, r2⟩ := Dp.reads I _ u uu b1 ru
    have hd := depthAll_le (.inl b3)
    have hc : PyData.canLayAll0 ps = true := by simpa [PyData.canLay0] using b2
    have hu' : X.A.units + 1 + min (PyData.depthAll ps) p.depth < cLine := by omega
    cases neg with
    | true => subst hop; exact SeqAt.notIn_list_reads r2 r1 hc a2 hu' (fin _ h3)
    | false => subst hop; exact SeqAt.in_list_reads r2 r1 hc a2 hu' (fin _ h3)
  · obtain ⟨b1, b2, b3⟩ := dn_ok sm _ _ _ _ h2 ry
    obtain ⟨bs, r2⟩ := Dp.reads I _ u uu b1 ru
    have hd := depthAll_le (.inr b3)
    have hc : PyData.canLayAll0 ps = true := by simpa [PyData.canLay0] using b2
    have hu' : X.A.units + 1 + min (PyData.depthAll ps) p.depth < cLine := by omega
    cases neg with
    | true => subst hop; exact SeqAt.notIn_tuple_reads r2 r1 hc a2 hu' (fin _ h3)
    | false => subst hop; exact SeqAt.in_tuple_reads r2 r1 hc a2 hu' (fin _ h3)
theorem o_in (hu : X.A.units + 64 < cLine) : OpR X (compareOp .In) (lR X.K (rdIn false)) := by
  intro pins s σ H v u vv uu Q I rv ru ⟨x, y, M, QD, rx, ry, sm, h, w⟩
  unfold rdIn at h
  split at h
  · exact o_inS pins s σ H v u vv uu Q I rv ru ⟨x, _, M, QD, rx, ry, sm, h, w⟩
  · exact in_data rfl hu I rv ru rx ry sm w h
theorem o_notIn (hu : X.A.units + 64 < cLine) : OpR X (compareOp .NotIn) (lR X.K (rdIn true)) := by
  intro pins s σ H v u vv uu Q I rv ru ⟨x, y, M, QD, rx, ry, sm, h, w⟩
  unfold rdIn at h
  split at h
  · exact o_notInS pins s σ H v u vv uu Q I rv ru ⟨x, _, M, QD, rx, ry, sm, h, w⟩
  · exact in_data rfl hu I rv ru rx ry sm w h
/-- a global that holds a number or a text -/
theorem qe_globI {x : Str} {i : Int} {pos : Pos} (hg : Gl X x) (h : ∃ t, X.mg x = some (.int i t)) (hd : (x == ("__debug__" : Str)) = false := by decide) : PE X (.Name x pos) (lE X.K (dC (.int i))) := by
  obtain ⟨t, h⟩ := h
  exact qe_c (pe_glob (v := .int i) hg h ⟨t, rfl⟩ hd) fun H => by simp only [Rep]
theorem qe_globS {x z : Str} {pos : Pos} (hg : Gl X x) (h : ∃ t, X.mg x = some (.str z t)) (hd : (x == ("__debug__" : Str)) = false := by decide) : PE X (.Name x pos) (lE X.K (dC (.str z))) := by
  obtain ⟨t, h⟩ := h
  exact qe_c (pe_glob (v := .str z) hg h ⟨t, rfl⟩ hd) fun H => by simp only [Rep]
theorem qe_cls {x : Str} {C : Addr} {pos : Pos} (hg : Gl X x) (h : X.mg x = some (.ref C)) (hd : (x == ("__debug__" : Str)) = false := by decide) : PE X (.Name x pos) (lE X.K (dC (.ref C))) :=
  qe_c (pe_glob (v := .ref C) hg h rfl hd) fun H => by simp only [Rep]
end
theorem boot_ValueError : bootBuiltins "ValueError" = some (.type "ValueError") := by decide +kernel
end Dl
namespace K06
open PySem PySem.Spec PyProof.Rows L2 Dl
def top (i : Nat) : Stmt := PySem.Challenge.pw_twigstore_k06_boxes_as_texts.main.body.getD i (.Pass ⟨0, 0, 0, 0⟩)
abbrev s_is_whole : Stmt := top 13
abbrev s_is_span : Stmt := top 14
abbrev s_number_in : Stmt := top 19
abbrev s_show_span : Stmt := top 20
abbrev s_show_box : Stmt := top 21
abbrev s_read_span : Stmt := top 22
abbrev s_read_box : Stmt := top 23
abbrev s_Lcell : Stmt := top 25
abbrev s_Lnumbers : Stmt := top 26
abbrev s_Lone_span : Stmt := top 27
abbrev s_Lnumber : Stmt := top 28
abbrev s_Lstretch : Stmt := top 29
abbrev s_Ldue : Stmt := top 30
abbrev s_Lread : Stmt := top 31
abbrev s_Lright : Stmt := top 32
abbrev s_Lspoilt : Stmt := top 33
abbrev s_law : Stmt := top 34
theorem sc_is_whole : FnScope ["thing"] ["thing"] (defScope s_is_whole) := ⟨rfl, rfl, rfl, by decide +kernel, rfl, by decide +kernel, by decide +kernel⟩
theorem sc_is_span : FnScope ["thing"] ["thing"] (defScope s_is_span) := ⟨rfl, rfl, rfl, by decide +kernel, rfl, by decide +kernel, by decide +kernel⟩
theorem sc_number_in : FnScope ["word", "figures", "sign"] ["word"] (defScope s_number_in) := ⟨rfl, rfl, rfl, by decide +kernel, rfl, by decide +kernel, by decide +kernel⟩
theorem sc_show_span : FnScope ["span"] ["span"] (defScope s_show_span) := ⟨rfl, rfl, rfl, by decide +kernel, rfl, by decide +kernel, by decide +kernel⟩
theorem sc_show_box : FnScope ["box", "span"] ["box"] (defScope s_show_box) := ⟨rfl, rfl, rfl, by decide +kernel, rfl, by decide +kernel, by decide +kernel⟩
theorem sc_read_span : FnScope ["text", "span", "word"] ["text"] (defScope s_read_span) := ⟨rfl, rfl, rfl, by decide +kernel, rfl, by decide +kernel, by decide +kernel⟩
theorem sc_read_box : FnScope ["text", "parts", "part"] ["text"] (defScope s_read_box) := ⟨rfl, rfl, rfl, by decide +kernel, rfl, by decide +kernel, by decide +kernel⟩
theorem sc_Lcell : FnScope ["_law_script", "_law_k", "_law_state", "_law_cell_here"] ["_law_script", "_law_k"] (defScope s_Lcell) := ⟨rfl, rfl, rfl, by decide +kernel, rfl, by decide +kernel, by decide +kernel⟩
theorem sc_Lnumbers : FnScope ["_law_cell_here", "_law_many", "_law_found", "_law_state", "_law_digits", "_law_k"] ["_law_cell_here", "_law_many"] (defScope s_Lnumbers) := ⟨rfl, rfl, rfl, by decide +kernel, rfl, by decide +kernel, by decide +kernel⟩
theorem sc_Lone_span : FnScope ["_law_x", "_law_y", "_law_way", "_law_low", "_law_wide"] ["_law_x", "_law_y", "_law_way"] (defScope s_Lone_span) := ⟨rfl, rfl, rfl, by decide +kernel, rfl, by decide +kernel, by decide +kernel⟩
theorem sc_Lnumber : FnScope ["_law_text", "_law_figures", "_law_sign"] ["_law_text"] (defScope s_Lnumber) := ⟨rfl, rfl, rfl, by decide +kernel, rfl, by decide +kernel, by decide +kernel⟩
theorem sc_Lstretch : FnScope ["_law_text", "_law_at", "_law_low", "_law_high"] ["_law_text"] (defScope s_Lstretch) := ⟨rfl, rfl, rfl, by decide +kernel, rfl, by decide +kernel, by decide +kernel⟩
theorem sc_Ldue : FnScope ["_law_text", "_law_found", "_law_part", "_law_sign"] ["_law_text"] (defScope s_Ldue) := ⟨rfl, rfl, rfl, by decide +kernel, rfl, by decide +kernel, by decide +kernel⟩
theorem sc_Lread : FnScope ["_law_thing", "_law_caught", "_law_found", "e", "_law_others"] ["_law_thing"] (defScope s_Lread) := ⟨rfl, rfl, rfl, by decide +kernel, rfl, by decide +kernel, by decide +kernel⟩
theorem sc_Lright : FnScope ["_law_text", "_law_due_here", "_law_found", "_law_low", "_law_high"] ["_law_text"] (defScope s_Lright) := ⟨rfl, rfl, rfl, by decide +kernel, rfl, by decide +kernel, by decide +kernel⟩
theorem sc_Lspoilt : FnScope ["_law_text", "_law_xs", "_law_some", "_law_k", "_law_at", "_law_more"] ["_law_text", "_law_xs"] (defScope s_Lspoilt) := ⟨rfl, rfl, rfl, by decide +kernel, rfl, by decide +kernel, by decide +kernel⟩
theorem sc_law : FnScope ["_law_script", "_law_thing", "_law_fixed", "_law_cell_here", "_law_xs", "_law_box", "_law_text", "_law_k", "_law_low", "_law_high"] ["_law_script"] (defScope s_law) := ⟨rfl, rfl, rfl, by decide +kernel, rfl, by decide +kernel, by decide +kernel⟩
structure Ad where
  a_is_whole : Addr
  d_is_whole : FuncData
  a_is_span : Addr
  d_is_span : FuncData
  a_number_in : Addr
  d_number_in : FuncData
  a_show_span : Addr
  d_show_span : FuncData
  a_show_box : Addr
  d_show_box : FuncData
  a_read_span : Addr
  d_read_span : FuncData
  a_read_box : Addr
  d_read_box : FuncData
  a_Lcell : Addr
  d_Lcell : FuncData
  a_Lnumbers : Addr
  d_Lnumbers : FuncData
  a_Lone_span : Addr
  d_Lone_span : FuncData
  a_Lnumber : Addr
  d_Lnumber : FuncData
  a_Lstretch : Addr
  d_Lstretch : FuncData
  a_Ldue : Addr
  d_Ldue : FuncData
  a_Lread : Addr
  d_Lread : FuncData
  a_Lright : Addr
  d_Lright : FuncData
  a_Lspoilt : Addr
  d_Lspoilt : FuncData
  a_law : Addr
  d_law : FuncData
  c_NoBox : Addr
  c_NoJoin : Addr
  c_NoKey : Addr
  c_NoKeys : Addr
  c_NoMoment : Addr
  c_NoName : Addr
  c_NoRow : Addr
  c_NoText : Addr
  c_NoUndo : Addr
  c_NoWord : Addr
  c_StoreError : Addr
structure Tx (K : PySem.W.Frag) (mg : Str → Option Value) (A : Ad) : Prop where
  f_is_whole : Dfn K mg "is_whole" "is_whole" s_is_whole ["thing"] A.a_is_whole A.d_is_whole
  f_is_span : Dfn K mg "is_span" "is_span" s_is_span ["thing"] A.a_is_span A.d_is_span
  f_number_in : Dfn K mg "number_in" "number_in" s_number_in ["word"] A.a_number_in A.d_number_in
  f_show_span : Dfn K mg "show_span" "show_span" s_show_span ["span"] A.a_show_span A.d_show_span
  f_show_box : Dfn K mg "show_box" "show_box" s_show_box ["box"] A.a_show_box A.d_show_box
  f_read_span : Dfn K mg "read_span" "read_span" s_read_span ["text"] A.a_read_span A.d_read_span
  f_read_box : Dfn K mg "read_box" "read_box" s_read_box ["text"] A.a_read_box A.d_read_box
  f_Lcell : Dfn K mg "_law_cell" "_law_cell" s_Lcell ["_law_script", "_law_k"] A.a_Lcell A.d_Lcell
  f_Lnumbers : Dfn K mg "_law_numbers" "_law_numbers" s_Lnumbers ["_law_cell_here", "_law_many"] A.a_Lnumbers A.d_Lnumbers
  f_Lone_span : Dfn K mg "_law_one_span" "_law_one_span" s_Lone_span ["_law_x", "_law_y", "_law_way"] A.a_Lone_span A.d_Lone_span
  f_Lnumber : Dfn K mg "_law_number" "_law_number" s_Lnumber ["_law_text"] A.a_Lnumber A.d_Lnumber
  f_Lstretch : Dfn K mg "_law_stretch" "_law_stretch" s_Lstretch ["_law_text"] A.a_Lstretch A.d_Lstretch
  f_Ldue : Dfn K mg "_law_due" "_law_due" s_Ldue ["_law_text"] A.a_Ldue A.d_Ldue
  f_Lread : Dfn K mg "_law_read" "_law_read" s_Lread ["_law_thing"] A.a_Lread A.d_Lread
  f_Lright : Dfn K mg "_law_right" "_law_right" s_Lright ["_law_text"] A.a_Lright A.d_Lright
  f_Lspoilt : Dfn K mg "_law_spoilt" "_law_spoilt" s_Lspoilt ["_law_text", "_law_xs"] A.a_Lspoilt A.d_Lspoilt
  f_law : Dfn K mg "law" "law" s_law ["_law_script"] A.a_law A.d_law
  b_ValueError : mg "ValueError" = none
  b_abs : mg "abs" = none
  b_all : mg "all" = none
  b_any : mg "any" = none
  b_bool : mg "bool" = none
  b_int : mg "int" = none
  b_isinstance : mg "isinstance" = none
  b_len : mg "len" = none
  b_max : mg "max" = none
  b_range : mg "range" = none
  b_str : mg "str" = none
  b_tuple : mg "tuple" = none
  c_NoBox : mg "NoBox" = some (.ref A.c_NoBox)
  c_NoJoin : mg "NoJoin" = some (.ref A.c_NoJoin)
  c_NoKey : mg "NoKey" = some (.ref A.c_NoKey)
  c_NoKeys : mg "NoKeys" = some (.ref A.c_NoKeys)
  c_NoMoment : mg "NoMoment" = some (.ref A.c_NoMoment)
  c_NoName : mg "NoName" = some (.ref A.c_NoName)
  c_NoRow : mg "NoRow" = some (.ref A.c_NoRow)
  c_NoText : mg "NoText" = some (.ref A.c_NoText)
  c_NoUndo : mg "NoUndo" = some (.ref A.c_NoUndo)
  c_NoWord : mg "NoWord" = some (.ref A.c_NoWord)
  c_StoreError : mg "StoreError" = some (.ref A.c_StoreError)
  v_FIGURES : ∃ t, mg "FIGURES" = some (.str "0123456789" t)
  v_MOST_FIGURES : ∃ t, mg "MOST_FIGURES" = some (.int (13) t)
  v_MOST_KEYS : ∃ t, mg "MOST_KEYS" = some (.int (3) t)
  e_NoBox : PySem.W.excIn K A.c_NoBox He.veBase "ValueError.__new__" = true ∧ PySem.W.keepIn K (.ref A.c_NoBox) = true ∧ PySem.W.subIn K (.ref A.c_NoBox) (.type "BaseException") = some true ∧ PySem.W.typeIn K (.ref A.c_NoBox) = some (.type "type")
  xm_NoBox_StoreError : PySem.W.exmOne K (.ref A.c_NoBox) (.ref A.c_StoreError) = some true
  ki_NoBox_NoBox : PySem.W.kitOne K (.ref A.c_NoBox) (.ref A.c_NoBox) = some true
  ki_NoBox_ValueError : PySem.W.kitOne K (.ref A.c_NoBox) (.type "ValueError") = some true
  ka_others : PySem.W.kitAny K (.ref A.c_NoBox) [(.ref A.c_NoJoin), (.ref A.c_NoKey), (.ref A.c_NoKeys), (.ref A.c_NoMoment), (.ref A.c_NoName), (.ref A.c_NoRow), (.ref A.c_NoText), (.ref A.c_NoUndo), (.ref A.c_NoWord)] = some false
  xhg_NoBox : PySem.W.findIn K (.ref A.c_NoBox) "__getattribute__" = some (some (.builtin "BaseException.__getattribute__"))
  xhk_NoBox : PySem.W.findIn K (.ref A.c_NoBox) "__getattr__" = some none
  xhs_NoBox : PySem.W.subIn K (.ref A.c_NoBox) (.type "BaseException") = some true
  xhd_NoBox : PySem.W.hasDictIn K A.c_NoBox = true
  xha_NoBox : PySem.W.findIn K (.ref A.c_NoBox) "__class__" = some (some (.builtin "object.__class__"))
  xhm_NoBox : PySem.W.mroIn K A.c_NoBox (.type "object") = some true
  xhn : PySem.W.specialIn K (.builtin "object.__class__") "__get__" = some (some (.builtin "getset_descriptor.__get__"))
  xht : PySem.W.takesIn K (.builtin "object.__class__") = some true
end K06
local macro_rules | `(tactic| walk_at "ds") => `(tactic| try simp only [Dl.startD, Dl.dVar, Dl.dC, Dl.dNil, Dl.dCons, Dl.dOp, Dl.dUn, Dl.dTup, Dl.dLst, Dl.dCB, Dl.dTest, Dl.dAnd, Dl.dOr, Dl.dNot, Dl.dAndV, Dl.dOrV, Dl.dNotV, Dl.dIfE, Dl.dChain, Dl.dNext, Dl.dSeq, Dl.dBreak, Dl.dCont, Dl.dDrop, Dl.dRet, Dl.dRetN, Dl.dIf, Dl.dAsg, Dl.dgName, Dl.dgNil, Dl.dgCons, Dl.dgTup, Dl.dPar, Dl.dPure, Dl.dPureL, Dl.dPureT, Dl.dCall, Dl.dCallX, Dl.dMt, Dl.dSl, Dl.dPart, Dl.dNoPart, Dl.dIsN, Dl.dNotN, Dl.isN, Dl.dIter, Dl.dRng1, Dl.dRng2, Dl.dZip, Dl.dFor, Dl.dLc, Dl.dYes, Dl.dDGet, Dl.dDIn, Dl.dDNotIn, Dl.dDNewK, Dl.dDNewT, Dl.dDPut, Dl.dDPop,
  Dl.rdII, Dl.rdI0, Dl.rdAdd, Dl.rdNeg, Dl.rdIx, Dl.rdSl, Dl.rdLen, Dl.rdTuple, Dl.rdListOf, Dl.rdAll, Dl.rdAny, Dl.rdSum, Dl.rdMaxL, Dl.rdMinL, Dl.rdMax2, Dl.rdMin2, Dl.rdAbs, Dl.rdInt, Dl.rdIsi, Dl.rdAppend, Dl.rdExtend, Dl.rdEq, Dl.rdNe, Dl.sceq, Dl.rdSorted, Dl.rdMulL, Dl.one, Dl.two, Dl.three, Dl.anInt, Dl.aList, Dl.isLst, Dl.lstD, Dl.seqOf, Dl.lstOf_mup, Dl.kindT, Dl.tyD, Dl.isB, Dl.keyD, Dl.keysD, Dl.tkeyD, Dl.dGetAt, Dl.dPutAt, Dl.dPopAt, Dl.isDk, Dl.wipeD,
  Dl.pow9, Dl.pow10, Dl.pow11, Dl.pow12, Dl.pow18, Dl.atI0, Dl.atI1, Dl.atI2, Dl.atI3, Dl.atI4, Dl.atI5, Dl.bind_some, Dl.mup_same, Dl.mup_none, Dl.mup_mup, List.getElem?_cons_zero, List.getElem?_cons_succ, List.set_cons_zero, List.set_cons_succ, List.length_cons, List.length_nil, List.append_nil, List.nil_append, List.cons_append, List.map_cons, List.map_nil, Bool.not_true, Bool.not_false, Bool.false_eq_true, if_true, if_false, reduceIte, and_true, true_and, or_true, true_or, and_self, ne_eq, not_false_eq_true, decide_eq_true_eq, Nat.reduceAdd, Nat.reduceLeDiff, Nat.reduceLT, Nat.reduceGT, Nat.zero_le, Nat.zero_lt_succ, Int.reduceLE, Int.reduceLT, Int.reduceNeg, String.reduceEq])

namespace K06
open PySem PySem.Spec PyProof.Rows L2 Dl
def cellF (ns : List Int) (k : Int) : Int := if k < ns.length then ns.getD k.toNat 0 else (ns.take 3).foldl (fun s c => (s * 69621 + c) % 2147483647) (48271 * (k * k + 7 * k + 11) % 2147483647)
def numGo : Nat → Nat → Int → Int → List Int
  | 0, _, _, _ => []
  | n + 1, k, st, dg => (if dg > 0 then dg % 1000000 else (st * (st % 65521 + 40487) + 7 * k + 5) % 1999999973) :: numGo n (k + 1) ((st * (st % 65521 + 40487) + 7 * k + 5) % 1999999973) (dg / 1000000)
def numsF (c : Int) (n : Nat) : List Int := numGo n 0 ((c % 1999999973 + 31) * 765432101 % 1999999973) (if c < 0 ∨ c ≥ 1000000000000000000 then (if c < 0 then -c else c) else 0)
theorem numGo_len : ∀ n k st dg, (numGo n k st dg).length = n
  | 0, _, _, _ => rfl
  | n + 1, k, st, dg => by simp only [numGo, List.length_cons, numGo_len n]
theorem numsF_len (c : Int) (n : Nat) : (numsF c n).length = n := numGo_len _ _ _ _
theorem numGo_nn : ∀ n k st dg, ∀ x ∈ numGo n k st dg, 0 ≤ x ∧ x < 1999999973
  | 0, _, _, _ => by simp [numGo]
  | n + 1, k, st, dg => by
    intro x hx
    simp only [numGo, List.mem_cons] at hx
    rcases hx with rfl | hx
    · split <;> omega
    · exact numGo_nn n _ _ _ x hx
theorem numsF_nn (c : Int) (n : Nat) : ∀ x ∈ numsF c n, 0 ≤ x ∧ x < 1999999973 := numGo_nn _ _ _ _
section
variable {P : Program} {w : World} {K : PySem.W.Frag} {mg : Str → Option Value} {base : Heap} {A : Ad}
def sp_Lcell : DSp := fun ds M Q _ => ∃ ns k, ds = [.fzl (ns.map D.int), .int k] ∧ 0 ≤ k ∧ k ≤ 1000 ∧ Q (.int (cellF ns k)) M
theorem ok_Lcell (T : Tx K mg A) : FnD P w K mg base 1 A.a_Lcell A.d_Lcell ["_law_script", "_law_k"] sp_Lcell := by
  refine okD T.f_Lcell.F sc_Lcell (fun ds M Q E h => ?_) fun cdv A outer s H E ds M Q ED hr h tk hp => ?_
  · obtain ⟨p, q, rfl, _⟩ := h; rfl
  · obtain ⟨ns, k, rfl, h0, h1, hQ⟩ := h
    refine ⟨_, (qss_cons (qs_if (qt_cmp o_lt (qe_var 1) (qe_callB c_len (by rfl) T.b_len PySem.boot_len (qa_cons (qe_var 0) qa_nil)) (nomark _)) (qss_one (qs_ret (qe_ix (qe_var 0) (qe_var 1)))) qss_nil)
  (qss_cons (qs_set 2 sc_Lcell.nd (qe_op o_mod (qe_op o_mulI qe_int (qe_op o_add (qe_op o_add (qe_op o_mulI (qe_var 1) (qe_var 1)) (qe_op o_mulI qe_int (qe_var 1))) qe_int)) qe_int))
  (qss_cons (qs_for hp rfl (qi_any (qe_slice (qe_var 0) qo_none (qo_some qe_int))) (qg_name 3 sc_Lcell.nd) (qss_one (qs_set 2 sc_Lcell.nd (qe_op o_mod (qe_op o_add (qe_op o_mulI (qe_var 2) qe_int) (qe_var 3)) qe_int))))
  (qss_one (qs_ret (qe_var 2)))))), ?_⟩
    clear tk hp hr
    walk_at "ds"
    unfold cellF at hQ
    by_cases hk : k < ns.length
    · simp only [List.length_map, hk, if_true] at hQ ⊢
      rw [atI_int _ _ h0, List.getElem?_map, List.getElem?_eq_getElem (by omega)]
      rw [List.getD_eq_getElem?_getD, List.getElem?_eq_getElem (by omega)] at hQ
      exact up.of hQ
    · simp only [List.length_map, hk, if_false] at hQ ⊢
      refine ⟨by omega, fun p hp => ?_⟩
      have hc : Dl.cutD (ns.map D.int) none (some 3) = (ns.take 3).map D.int := by rw [show (3 : Int) = ((3 : Nat) : Int) by rfl, cut_to, List.map_take]
      rw [hc]
      refine loop_inv D.int _ (fun i δ M' => ∃ x, δ = [some (.fzl (ns.map D.int)), some (.int k), some (.int (((ns.take 3).take i).foldl (fun s c => (s * 69621 + c) % 2147483647) (48271 * (k * k + 7 * k + 11) % 2147483647))), x] ∧ M' = mup M p (.lst ((ns.take 3).map D.int))) (fun i δ M' _ ⟨_, _, e⟩ => by rw [e]; exact mup_same) ?_ ?_ ⟨none, by simp, rfl⟩
      · intro i x δ M' R hi hR ⟨z, hδ, hM⟩
        subst hδ hM
        walk_at "ds"
        refine hR _ _ ⟨some (.int x), ?_, rfl⟩
        rw [List.take_add_one (l := ns.take 3), hi]
        simp
      · intro δ M' ⟨z, hδ, hM⟩
        subst hδ hM
        walk_at "ds"
        rw [List.take_of_length_le (Nat.le_refl _)]
        exact up.by (Sub.new hp) hQ
def sp_Lnumbers : DSp := fun ds M Q _ => ∃ c n, ds = [.int c, .int ((n : Nat) : Int)] ∧ n ≤ 1000 ∧ ∀ p, M p = none → Q (.ref p) (mup M p (.lst ((numsF c n).map D.int)))
theorem ok_Lnumbers (T : Tx K mg A) : FnD P w K mg base 1 A.a_Lnumbers A.d_Lnumbers ["_law_cell_here", "_law_many"] sp_Lnumbers := by
  refine okD T.f_Lnumbers.F sc_Lnumbers (fun ds M Q E h => ?_) fun cdv A outer s H E ds M Q ED hr h tk hp => ?_
  · obtain ⟨p, q, rfl, _⟩ := h; rfl
  · obtain ⟨c, n, rfl, hn, hQ⟩ := h
    refine ⟨_, (qss_cons (qs_set 2 sc_Lnumbers.nd (qe_lst qa_nil))
  (qss_cons (qs_set 3 sc_Lnumbers.nd (qe_op o_mod (qe_op o_mulI (qe_op o_add (qe_op o_mod (qe_var 0) qe_int) qe_int) qe_int) qe_int))
  (qss_cons (qs_set 4 sc_Lnumbers.nd qe_int)
  (qss_cons (qs_if (PW.pt (qw_or (qt_cmp o_lt (qe_var 0) qe_int (nomark _)) (qw_or1 (qt_cmp o_ge (qe_var 0) (qe_op o_pow qe_int qe_int) (nomark _))))) (qss_one (qs_set 4 sc_Lnumbers.nd (qe_callB c_abs (by rfl) T.b_abs PyProof.Rows.boot_abs (qa_cons (qe_var 0) qa_nil)))) qss_nil)
  (qss_cons (qs_for hp rfl (qi_range1 (by rfl) T.b_range (qa_cons (qe_var 1) qa_nil)) (qg_name 5 sc_Lnumbers.nd) (qss_cons (qs_set 3 sc_Lnumbers.nd (qe_op o_mod (qe_op o_add (qe_op o_add (qe_op o_mulI (qe_var 3) (qe_op o_add (qe_op o_mod (qe_var 3) qe_int) qe_int)) (qe_op o_mulI qe_int (qe_var 5))) qe_int) qe_int))
  (qss_cons (qs_expr (qe_lm PySem.F.plainAttrs_list PySem.F.slot_list_append PySem.F.type_list_append m_append (qe_var 2) (qa_cons (qe_pure (qe_ix (qe_lst (qa_cons (qe_var 3) (qa_cons (qe_op o_mod (qe_var 4) qe_int) qa_nil))) (qe_callTy c_int (by rfl) T.b_int PyProof.Rows.boot_int (qa_cons (qe_cmp o_gt (qe_var 4) qe_int (nomark _)) qa_nil)))) qa_nil)))
  (qss_one (qs_set 4 sc_Lnumbers.nd (qe_op o_fdiv (qe_var 4) qe_int))))))
  (qss_one (qs_ret (qe_var 2)))))))), ?_⟩
    clear tk hp hr
    refine seq_gen3 fun R hR => ?_
    walk_at "ds"
    intro f hf
    have hQ := hQ f hf
    refine hR _ _ ?_
    clear hR R
    refine seq_cut (fun δ' M' => δ' = [some (.int c), some (.int ((n : Nat) : Int)), some (.ref f), some (.int ((c % 1999999973 + 31) * 765432101 % 1999999973)), some (.int (if c < 0 ∨ c ≥ 1000000000000000000 then (if c < 0 then -c else c) else 0)), none] ∧ M' = mup M f (.lst [])) (fun R hR => ?_) ?_
    · walk_at "ds"
      by_cases h1 : c < 0
      · simp only [h1, if_true, true_or]
        exact hR _ _ ⟨by simp [h1], rfl⟩
      · simp only [h1, if_false, false_or]
        by_cases h2 : 1000000000000000000 ≤ c
        · simp only [h2, if_true]
          exact hR _ _ ⟨by simp [h1, h2], rfl⟩
        · simp only [h2, if_false]
          exact hR _ _ ⟨by simp [h1, h2], rfl⟩
    · rintro δ' M' ⟨rfl, rfl⟩
      unfold numsF at hQ
      generalize (c % 1999999973 + 31) * 765432101 % 1999999973 = st at hQ ⊢
      generalize (if c < 0 ∨ c ≥ 1000000000000000000 then (if c < 0 then -c else c) else 0) = dg at hQ ⊢
      walk_at "ds"
      have e : intsD 0 ((n : Nat) : Int).toNat = (List.range n).map fun (i : Nat) => D.int (0 + (i : Int)) := by simp [intsD]
      rw [e]
      refine ⟨by omega, loop_inv _ _ (fun i δ M' => ∃ st' dg' x acc, δ = [some (.int c), some (.int ((n : Nat) : Int)), some (.ref f), some (.int st'), some (.int dg'), x] ∧ numGo n 0 st dg = acc ++ numGo (n - i) i st' dg' ∧ acc.length = i ∧ M' = mup M f (.lst (acc.map D.int))) (fun _ _ _ _ _ => trivial) ?_ ?_ ⟨st, dg, none, [], rfl, rfl, rfl, rfl⟩⟩
      · intro i j δ M' R hi hR ⟨st', dg', x, acc, hδ, hg, hl, hM⟩
        obtain ⟨rfl, hlt⟩ := range_get hi
        subst hδ hM
        rw [show n - j = (n - (j + 1)) + 1 by omega, numGo] at hg
        walk_at "ds"
        refine ⟨.inr ⟨by omega, by omega⟩, fun p hp => ?_⟩
        have sb : Dl.Sub (mup M f (.lst (acc.map D.int))) (mup (mup M f (.lst (acc.map D.int))) p (.lst [D.int ((st' * (st' % 65521 + 40487) + 7 * (0 + (j : Int)) + 5) % 1999999973), D.int (dg' % 1000000)])) := Sub.new (by rw [mup_none]; exact hp)
        simp only [Int.zero_add] at sb ⊢
        by_cases h : dg' > 0
        · simp only [show (0 : Int) < dg' from h, if_true, atI1] at hg ⊢
          exact ⟨sb, by rw [List.length_map]; omega, hR _ _ ⟨_, _, _, acc ++ [dg' % 1000000], rfl, by rw [hg]; simp, by simp [hl], by simp⟩⟩
        · simp only [show ¬ (0 : Int) < dg' from h, if_false, atI0] at hg ⊢
          exact ⟨sb, by rw [List.length_map]; omega, hR _ _ ⟨_, _, _, acc ++ [(st' * (st' % 65521 + 40487) + 7 * (j : Int) + 5) % 1999999973], rfl, by rw [hg]; simp, by simp [hl], by simp⟩⟩
      · intro δ M' ⟨st', dg', x, acc, hδ, hg, hl, hM⟩
        subst hδ hM
        walk_at "ds"
        rw [List.length_range, Nat.sub_self, numGo, List.append_nil] at hg
        rw [← hg]
        exact up.of hQ
end
end K06
namespace K06
open PySem PySem.Spec PyProof.Rows L2 Dl
abbrev Sn := Int × Int
def dSpan (p : Sn) : D := .tup [.int p.1, .int p.2]
def dBox (b : List Sn) : D := .tup (b.map dSpan)
section
variable {P : Program} {w : World} {K : PySem.W.Frag} {mg : Str → Option Value} {base : Heap} {A : Ad}
def V0 (s : Sn) : Prop := s.1 < s.2 ∧ -100000000000 ≤ s.1 ∧ s.1 ≤ 100000000000 ∧ s.2 - s.1 ≤ 100000000000
def V (s : Sn) : Prop := s.1 < s.2 ∧ -1000000000000 ≤ s.1 ∧ s.2 ≤ 1000000000000
def sp_Lone_span : DSp := fun ds M Q _ => ∃ x y z, ds = [.int x, .int y, .int z] ∧ ∀ s : Sn, V0 s → Q (dSpan s) M
theorem ok_Lone_span (T : Tx K mg A) : FnD P w K mg base 1 A.a_Lone_span A.d_Lone_span ["_law_x", "_law_y", "_law_way"] sp_Lone_span := by
  refine okD T.f_Lone_span.F sc_Lone_span (fun ds M Q E h => ?_) fun cdv A outer s H E ds M Q ED hr h tk hp => ?_
  · obtain ⟨x, y, z, rfl, _⟩ := h; rfl
  · obtain ⟨x, y, z, rfl, hQ⟩ := h
    refine ⟨_, (qss_cons (qs_set 3 sc_Lone_span.nd (qe_pure (qe_ix (qe_lst (qa_cons (qe_op o_mod (qe_var 0) qe_int) (qa_cons (qe_op o_sub (qe_op o_mod (qe_var 0) qe_int) qe_int) (qa_cons (qe_op o_mulI (qe_op o_sub (qe_op o_mod (qe_var 0) qe_int) qe_int) (qe_op o_pow qe_int qe_int)) qa_nil)))) (qe_op o_mod (qe_var 2) qe_int))))
  (qss_cons (qs_set 4 sc_Lone_span.nd (qe_pure (qe_ix (qe_lst (qa_cons (qe_op o_add qe_int (qe_op o_mod (qe_var 1) qe_int)) (qa_cons (qe_op o_add qe_int (qe_op o_mod (qe_var 1) qe_int)) (qa_cons (qe_op o_sub (qe_op o_mulI (qe_op o_add qe_int (qe_op o_mod (qe_var 1) qe_int)) (qe_op o_pow qe_int qe_int)) (qe_op o_mod (qe_op o_fdiv (qe_var 1) qe_int) qe_int)) qa_nil)))) (qe_op o_mod (qe_var 2) qe_int))))
  (qss_one (qs_ret (qe_tup (qa_cons (qe_var 3) (qa_cons (qe_op o_add (qe_var 3) (qe_var 4)) qa_nil))))))), ?_⟩
    clear tk hp hr
    refine seq_cut (fun δ' M' => ∃ l : Int, δ' = [some (.int x), some (.int y), some (.int z), some (.int l), none] ∧ (-100000000000 ≤ l ∧ l ≤ 100000000000) ∧ M' = M) (fun R hR => ?_) ?_
    · walk_at "ds"
      intro p hp
      have h3 : z % 3 = 0 ∨ z % 3 = 1 ∨ z % 3 = 2 := by omega
      rcases h3 with h | h | h <;> rw [h] <;> walk_at "ds" <;> exact ⟨Sub.new hp, hR _ _ ⟨_, rfl, by omega, rfl⟩⟩
    · rintro δ' M' ⟨l, rfl, hl, rfl⟩
      refine seq_cut (fun δ' M'' => ∃ l k : Int, δ' = [some (.int x), some (.int y), some (.int z), some (.int l), some (.int k)] ∧ (-100000000000 ≤ l ∧ l ≤ 100000000000) ∧ (0 < k ∧ k ≤ 100000000000) ∧ M'' = M') (fun R hR => ?_) ?_
      · walk_at "ds"
        intro p hp
        have h3 : z % 3 = 0 ∨ z % 3 = 1 ∨ z % 3 = 2 := by omega
        rcases h3 with h | h | h <;> rw [h] <;> walk_at "ds" <;> exact ⟨Sub.new hp, hR _ _ ⟨_, _, rfl, hl, by omega, rfl⟩⟩
      · rintro δ' M'' ⟨l, k, rfl, hl, hk, rfl⟩
        walk_at "ds"
        exact up.of (hQ (l, l + k) (by unfold V0; dsimp only; omega))
end
end K06
local macro_rules | `(tactic| walk_at "ds") => `(tactic| try simp only [Dl.startD, Dl.dSM0, Dl.dSM1, Dl.rdSplit, Dl.rdJoin, Dl.rdFind, Dl.rdStrI, Dl.rdIntS, Dl.rdIn, Dl.rdInS, Dl.dTryAs, Dl.dRaise, Dl.suiteD, Dl.dVar, Dl.dC, Dl.dNil, Dl.dCons, Dl.dOp, Dl.dUn, Dl.dTup, Dl.dLst, Dl.dCB, Dl.dTest, Dl.dAnd, Dl.dOr, Dl.dNot, Dl.dAndV, Dl.dOrV, Dl.dNotV, Dl.dIfE, Dl.dChain, Dl.dNext, Dl.dSeq, Dl.dBreak, Dl.dCont, Dl.dDrop, Dl.dRet, Dl.dRetN, Dl.dIf, Dl.dAsg, Dl.dgName, Dl.dgNil, Dl.dgCons, Dl.dgTup, Dl.dPar, Dl.dPure, Dl.dPureL, Dl.dPureT, Dl.dCall, Dl.dCallX, Dl.dMt, Dl.dSl, Dl.dPart, Dl.dNoPart, Dl.dIsN, Dl.dNotN, Dl.isN, Dl.dIter, Dl.dRng1, Dl.dRng2, Dl.dZip, Dl.dFor, Dl.dLc, Dl.dYes, Dl.dDGet, Dl.dDIn, Dl.dDNotIn, Dl.dDNewK, Dl.dDNewT, Dl.dDPut, Dl.dDPop,
  Dl.rdII, Dl.rdI0, Dl.rdAdd, Dl.rdNeg, Dl.rdIx, Dl.rdSl, Dl.rdLen, Dl.rdTuple, Dl.rdListOf, Dl.rdAll, Dl.rdAny, Dl.rdSum, Dl.rdMaxL, Dl.rdMinL, Dl.rdMax2, Dl.rdMin2, Dl.rdAbs, Dl.rdInt, Dl.rdIsi, Dl.rdAppend, Dl.rdExtend, Dl.rdEq, Dl.rdNe, Dl.sceq, Dl.rdSorted, Dl.rdMulL, Dl.one, Dl.two, Dl.three, Dl.anInt, Dl.aList, Dl.isLst, Dl.lstD, Dl.seqOf, Dl.lstOf_mup, Dl.kindT, Dl.tyD, Dl.isB, Dl.keyD, Dl.keysD, Dl.tkeyD, Dl.dGetAt, Dl.dPutAt, Dl.dPopAt, Dl.isDk, Dl.wipeD,
  Dl.pow9, Dl.pow10, Dl.pow11, Dl.pow12, Dl.pow18, Dl.atI0, Dl.atI1, Dl.atI2, Dl.atI3, Dl.atI4, Dl.atI5, Dl.bind_some, Dl.mup_same, Dl.mup_none, Dl.mup_mup, List.getElem?_cons_zero, List.getElem?_cons_succ, List.set_cons_zero, List.set_cons_succ, List.length_cons, List.length_nil, List.append_nil, List.nil_append, List.cons_append, List.map_cons, List.map_nil, Bool.not_true, Bool.not_false, Bool.false_eq_true, if_true, if_false, reduceIte, and_true, true_and, or_true, true_or, and_self, ne_eq, not_false_eq_true, decide_eq_true_eq, Nat.reduceAdd, Nat.reduceLeDiff, Nat.reduceLT, Nat.reduceGT, Nat.zero_le, Nat.zero_lt_succ, Int.reduceLE, Int.reduceLT, Int.reduceNeg, String.reduceEq])

namespace K06
open PySem PySem.Spec PyProof.Rows L2 Dl
/-- a word of figures -/
def figs (w : Str) : Str := if cutS w none (some 1) = "-" then cutS w (some 1) none else w
def isFig (c : Nat) : Bool := decide (c ∈ ("0123456789" : Str).cps.toList)
def goodW (w : Str) : Bool := decide (1 ≤ (figs w).length ∧ (figs w).length ≤ 13) && (figs w).cps.toList.all isFig && !(decide ((figs w).cps.toList.head? = some 48) && decide (w ≠ "0"))
def numF (w : Str) : Option Int := if goodW w then intText? w else none
def dNum (o : Option Int) : D := match o with
  | some n => .int n
  | none => .non
theorem cutS_list (z : Str) (lo hi : Option Int) : (cutS z lo hi).cps.toList = Dl.cutD z.cps.toList lo hi := by
  unfold cutS Dl.cutD
  show List.take _ _ = _
  rfl
theorem str_ext {x y : Str} (h : x.cps.toList = y.cps.toList) : x = y := PySem.W.str_of_cps h
theorem figs_list (w : Str) : (figs w).cps.toList = if w.cps.toList.take 1 = [45] then w.cps.toList.drop 1 else w.cps.toList := by
  unfold figs
  have e1 : (cutS w none (some 1)).cps.toList = w.cps.toList.take 1 := by rw [cutS_list]; exact cut_to _ 1
  have e2 : (cutS w (some 1) none).cps.toList = w.cps.toList.drop 1 := by rw [cutS_list]; exact cut_from _ 1
  by_cases h : cutS w none (some 1) = "-"
  · have h2 : w.cps.toList.take 1 = [45] := by rw [← e1, h]; rfl
    rw [if_pos h, if_pos h2, e2]
  · have h2 : ¬ w.cps.toList.take 1 = [45] := fun z => h (str_ext (by rw [e1, z]; rfl))
    rw [if_neg h, if_neg h2]
theorem isFig_iff {c : Nat} : isFig c = true ↔ 48 ≤ c ∧ c ≤ 57 := by
  unfold isFig
  rw [decide_eq_true_eq]
  show c ∈ [48, 49, 50, 51, 52, 53, 54, 55, 56, 57] ↔ _
  simp only [List.mem_cons, List.not_mem_nil, or_false]
  omega
theorem len_list (x : Str) : x.cps.toList.length = x.length := rfl
theorem figs_len (w : Str) : w.length ≤ (figs w).length + 1 := by
  rw [← len_list, ← len_list, figs_list]
  split
  · simp; omega
  · omega
theorem good_text {w : Str} (h : goodW w = true) : ∃ n, intText? w = some n := by
  unfold goodW at h
  simp only [Bool.and_eq_true, decide_eq_true_eq] at h
  obtain ⟨⟨⟨h1, h2⟩, h3⟩, _⟩ := h
  have hd : PySem.NumText.AllDigits (figs w).cps.toList := fun c hc => isFig_iff.mp (List.all_eq_true.mp h3 c hc)
  have hne : (figs w).cps.toList ≠ [] := fun e => by rw [← len_list, e] at h1; simp at h1
  have hl := figs_len w
  rw [figs_list] at hd hne
  by_cases hm : w.cps.toList.take 1 = [45]
  · rw [if_pos hm] at hd hne
    cases e : w.cps.toList with
    | nil => rw [e] at hm; cases hm
    | cons c r =>
      rw [e] at hm hd hne
      simp at hm
      subst hm
      exact ⟨_, PySem.intText_neg e hd hne (by omega)⟩
  · rw [if_neg hm] at hd hne
    exact ⟨_, PySem.intText_digits hd hne (by omega)⟩
section
variable {P : Program} {w : World} {K : PySem.W.Frag} {mg : Str → Option Value} {base : Heap} {A : Ad}
def sp_number_in : DSp := fun ds M Q _ => ∃ w : Str, ds = [.str w] ∧ w.length ≤ 100000 ∧ Q (dNum (numF w)) M
theorem ok_number_in (T : Tx K mg A) : FnD P w K mg base 1 A.a_number_in A.d_number_in ["word"] sp_number_in := by
  refine okD T.f_number_in.F sc_number_in (fun ds M Q E h => ?_) fun cdv A outer s H E ds M Q ED hr h tk hp => ?_
  · obtain ⟨b, rfl, _⟩ := h; rfl
  · obtain ⟨w, rfl, hl, hQ⟩ := h
    refine ⟨_, (qss_cons (qs_set 1 sc_number_in.nd (qe_var 0))
  (qss_cons (qs_if (qt_cmp (o_eq hr.units) (qe_slice (qe_var 0) qo_none (qo_some qe_int)) qe_str (nomark _)) (qss_one (qs_set 1 sc_number_in.nd (qe_slice (qe_var 0) (qo_some qe_int) qo_none))) qss_nil)
  (qss_cons (qs_if (PW.pt (qw_or (qt_not (qt_chain o_le o_le qe_int (qe_callB c_len (by rfl) T.b_len PySem.boot_len (qa_cons (qe_var 1) qa_nil)) (qe_globI (by rfl) T.v_MOST_FIGURES))) (qw_or1 (qt_not (qt_val (qe_callB (c_all rfl) (by rfl) T.b_all PyProof.Rows.boot_all (qa_cons (qe_lc (own := [("sign", 2)]) (g := (dgName 2)) (tt := dYes) rfl sc_number_in.nd (qi_any (qe_var 1)) (blkOk_by (own := [("sign", 2)]) (N := ["word", "figures", "sign"]) (sc := defScope s_number_in) (by decide +kernel)) (fun _ _ _ _ _ => (qv_name 2 sc_number_in.nd)) (fun _ _ _ _ _ => qts_nil) (fun _ _ _ _ _ => (qe_cmp (o_in hr.units) (qe_var 2) (qe_globS (by rfl) T.v_FIGURES) rfl))) qa_nil))))))) (qss_one (qs_ret qe_non)) qss_nil)
  (qss_cons (qs_if (PW.pt (qw_and (qt_cmp (o_eq hr.units) (qe_ix (qe_var 1) qe_int) qe_str (nomark _)) (qw_and1 (qt_cmp (o_ne hr.units) (qe_var 0) qe_str (nomark _))))) (qss_one (qs_ret qe_non)) qss_nil)
  (qss_one (qs_ret (qe_callTy c_intS (by rfl) T.b_int PyProof.Rows.boot_int (qa_cons (qe_var 0) qa_nil)))))))), ?_⟩
    clear tk hp hr
    have hfl : (figs w).length ≤ w.length := by
      unfold figs; split
      · exact cutS_length _ _ _
      · exact Nat.le_refl _
    refine seq_cut (fun δ' M' => δ' = [some (.str w), some (.str w), none] ∧ M' = M) (fun R hR => ?_) ?_
    · walk_at "ds"
      exact hR _ _ ⟨rfl, rfl⟩
    rintro δ' M1 ⟨rfl, rfl⟩
    refine seq_cut (fun δ' M' => δ' = [some (.str w), some (.str (figs w)), none] ∧ M' = M1) (fun R hR => ?_) ?_
    · walk_at "ds"
      refine ⟨by omega, ?_⟩
      by_cases h : cutS w none (some 1) = Str.ofString "-"
      · rw [if_pos h]
        have e : figs w = cutS w (some 1) none := by unfold figs; exact if_pos h
        exact ⟨by omega, hR _ _ ⟨by rw [e], rfl⟩⟩
      · rw [if_neg h]
        have e : figs w = w := by unfold figs; exact if_neg h
        exact hR _ _ ⟨by rw [e], rfl⟩
    rintro δ' M2 ⟨rfl, rfl⟩
    walk_at "ds"
    have hz : ∀ M', Dl.Sub M2 M' → goodW w = false → up Q .non M' := fun M' hs hg => by
      unfold numF at hQ
      rw [hg] at hQ
      exact up.by hs hQ
    refine ⟨by omega, ?_⟩
    by_cases h1 : 1 ≤ (figs w).length
    · rw [if_pos (by omega)]
      by_cases h2 : (figs w).length ≤ 13
      · rw [if_neg (by simp; omega)]
        intro p hp
        unfold Dl.signs
        refine lc_pure _ (fun c => D.bl (isFig c)) _ _ (fun _ => trivial) (by have := len_list (figs w); simp at this ⊢; omega) (fun c hc acc R hR => ?_) ?_
        · walk_at "ds"
          exact hR
        · walk_at "ds"
          rw [maps_bl]
          dsimp only
          rw [allM]
          by_cases h3 : (figs w).cps.toList.all isFig = true
          · rw [h3]
            simp only [Bool.not_true, Bool.false_eq_true, if_false]
            obtain ⟨c, r, hc⟩ : ∃ c r, (figs w).cps.toList = c :: r := by
              cases e : (figs w).cps.toList with
              | nil => have : (figs w).cps.toList.length = (figs w).length := rfl; rw [e] at this; simp at this; omega
              | cons c r => exact ⟨c, r, rfl⟩
            have hS : Dl.Sub M2 (mup M2 p (.lst ((figs w).cps.toList.map fun c => D.bl (isFig c)))) := Sub.new hp
            refine ⟨by omega, ?_⟩
            rw [hc, atI0]
            rw [hc] at hS
            dsimp only
            have hw : goodW w = true → ∃ n, intText? w = some n ∧ Q (.int n) M2 := fun hg => by
              obtain ⟨n, hn⟩ := good_text hg
              unfold numF at hQ
              rw [hg, if_pos rfl, hn] at hQ
              exact ⟨n, hn, hQ⟩
            have hwl : w.length ≤ 640 := by have := figs_len w; omega
            have e0 : (⟨#[c]⟩ : Str) = Str.ofString "0" ↔ c = 48 := ⟨fun z => by
              have z2 : [c] = [48] := congrArg (fun x : Str => x.cps.toList) z
              exact (List.cons.inj z2).1, fun z => by subst z; rfl⟩
            have hgood : goodW w = !(decide (c = 48) && decide (w ≠ "0")) := by
              unfold goodW
              rw [h3, hc]
              simp [h1, h2]
            by_cases h4 : c = 48
            · rw [if_pos (e0.mpr h4)]
              by_cases h5 : w = Str.ofString "0"
              · obtain ⟨n, hn, hq⟩ := hw (by rw [hgood]; simp [h5])
                rw [hn]
                simp only [h5, decide_true, Bool.not_true, Bool.false_eq_true, if_false]
                exact ⟨by rw [← h5]; exact hwl, up.by hS hq⟩
              · simp only [h5, decide_false, Bool.not_false, if_true]
                exact hz _ hS (by rw [hgood]; simp [h4]; exact h5)
            · rw [if_neg (fun z => h4 (e0.mp z))]
              obtain ⟨n, hn, hq⟩ := hw (by rw [hgood]; simp [h4])
              rw [hn]
              exact ⟨hwl, up.by hS hq⟩
          · have h3' : (figs w).cps.toList.all isFig = false := by simpa using h3
            rw [h3']
            simp only [Bool.not_false, if_true]
            exact hz _ (Sub.new hp) (by unfold goodW; rw [h3']; simp)
      · rw [if_pos (by simp; omega)]
        exact hz _ (Sub.refl _) (by unfold goodW; simp [h2])
    · rw [if_neg (by omega)]
      exact hz _ (Sub.refl _) (by unfold goodW; simp [h1])
end
end K06
namespace K06
open PySem PySem.Spec PyProof.Rows L2 Dl
open PySem.NumText in
theorem digits_ex : ∀ n : Nat, ∃ cs : List Nat, AllDigits cs ∧ digitsVal cs = n ∧ (cs.length = 1 ∨ ∃ c r, cs = c :: r ∧ 49 ≤ c) ∧ cs ≠ [] ∧ ∀ k, n < 10 ^ (k + 1) → cs.length ≤ k + 1 := by
  intro n
  induction n using Nat.strongRecOn with
  | _ n ih =>
    by_cases h : n < 10
    · refine ⟨[48 + n], fun c hc => ?_, ?_, .inl rfl, by simp, fun k _ => by simp⟩
      · simp at hc; omega
      · show 0 * 10 + (48 + n - 48) = n; omega
    · obtain ⟨cs, h1, h2, h3, h4, h5⟩ := ih (n / 10) (by omega)
      refine ⟨cs ++ [48 + n % 10], fun c hc => ?_, ?_, .inr ?_, by simp, fun k hk => ?_⟩
      · rcases List.mem_append.mp hc with m | m
        · exact h1 c m
        · simp at m; omega
      · rw [digitsVal_snoc, h2]; omega
      · rcases h3 with e | ⟨c, r, e, g⟩
        · match cs, e with
          | [c], _ =>
            refine ⟨c, [48 + n % 10], rfl, ?_⟩
            have : 0 * 10 + (c - 48) = n / 10 := h2
            omega
        · exact ⟨c, r ++ [48 + n % 10], by rw [e]; rfl, g⟩
      · cases k with
        | zero => simp at hk; omega
        | succ k =>
          have := h5 k (by rw [Nat.pow_succ] at hk; omega)
          simp; omega
theorem char_id : ∀ c : Nat, c < 58 → (Char.ofNat c).toNat = c := by decide
theorem toNat_abs {i : Int} (h : 0 ≤ i) : i.toNat = i.natAbs := by omega
theorem toNat_neg {i : Int} (h : ¬ 0 ≤ i) : (-i).toNat = i.natAbs := by omega
def shL (i : Int) : List Nat := (Str.ofString (toString i)).cps.toList
open PySem.NumText in
theorem shL_ex (i : Int) : ∃ cs : List Nat, AllDigits cs ∧ cs ≠ [] ∧ digitsVal cs = i.natAbs ∧ (cs.length = 1 ∨ ∃ c r, cs = c :: r ∧ 49 ≤ c) ∧ (∀ k, i.natAbs < 10 ^ (k + 1) → cs.length ≤ k + 1) ∧ shL i = if i < 0 then 45 :: cs else cs := by
  obtain ⟨cs, h1, h2, h3, h4, h5⟩ := digits_ex i.natAbs
  refine ⟨cs, h1, h4, h2, h3, h5, ?_⟩
  have hd : Nat.toDigits 10 i.natAbs = cs.map Char.ofNat := by
    obtain ⟨m, hm⟩ : ∃ m, cs.length = m + 1 := ⟨cs.length - 1, by have := List.length_pos_iff.mpr h4; omega⟩
    rw [← h2]
    refine toDigits_digitsVal m cs hm h1 ?_
    rcases h3 with e | e
    · left; omega
    · exact .inr e
  have hid : (cs.map Char.ofNat).map Char.toNat = cs := by
    rw [List.map_map]
    conv => rhs; rw [← List.map_id cs]
    exact List.map_congr_left fun c hc => char_id c (by have := h1 c hc; omega)
  unfold shL
  rw [signs_ofString, Int.toString_eq_repr, Int.repr_eq_if]
  by_cases hi : 0 ≤ i
  · rw [if_pos hi, if_neg (by omega), Nat.toList_repr, toNat_abs hi, hd, hid]
  · rw [if_neg hi, if_pos (by omega)]
    rw [String.toList_append, Nat.toList_repr, toNat_neg hi, hd, List.map_append, hid]
    rfl
theorem shL_len {i : Int} (h : -10000000000000 < i ∧ i < 10000000000000) : (Str.ofString (toString i)).length ≤ 14 := by
  obtain ⟨cs, _, _, _, _, h5, e⟩ := shL_ex i
  have := h5 12 (show i.natAbs < 10000000000000 by omega)
  show (shL i).length ≤ 14
  rw [e]
  split
  · simp; omega
  · omega
theorem bits {i : Int} (h : -10000000000000 < i ∧ i < 10000000000000) : i.natAbs.log2 < 1920 := by
  by_cases h0 : i.natAbs = 0
  · rw [h0]; decide
  · have := (Nat.log2_lt (k := 64) h0).mpr (show i.natAbs < 18446744073709551616 by omega)
    omega
theorem str_len_app (x y : Str) : (x ++ y).length = x.length + y.length := by
  show (x.cps ++ y.cps).size = _
  simp [Str.length]
section
variable {P : Program} {w : World} {K : PySem.W.Frag} {mg : Str → Option Value} {base : Heap} {A : Ad}
def shS (s : Sn) : Str := Str.ofString (toString s.1) ++ ".." ++ Str.ofString (toString s.2)
def Bd (s : Sn) : Prop := -1000000000000 ≤ s.1 ∧ s.1 ≤ 1000000000000 ∧ -1000000000000 ≤ s.2 ∧ s.2 ≤ 1000000000000
def sp_show_span : DSp := fun ds M Q _ => ∃ s : Sn, ds = [dSpan s] ∧ Bd s ∧ Q (.str (shS s)) M
theorem ok_show_span (T : Tx K mg A) : FnD P w K mg base 1 A.a_show_span A.d_show_span ["span"] sp_show_span := by
  refine okD T.f_show_span.F sc_show_span (fun ds M Q E h => ?_) fun cdv A outer s H E ds M Q ED hr h tk hp => ?_
  · obtain ⟨b, rfl, _⟩ := h; rfl
  · obtain ⟨s, rfl, hb, hQ⟩ := h
    refine ⟨_, (qss_one (qs_ret (qe_op o_add (qe_op o_add (qe_callTy c_strI (by rfl) T.b_str PyProof.Rows.boot_str (qa_cons (qe_ix (qe_var 0) qe_int) qa_nil)) qe_str) (qe_callTy c_strI (by rfl) T.b_str PyProof.Rows.boot_str (qa_cons (qe_ix (qe_var 0) qe_int) qa_nil))))), ?_⟩
    clear tk hp hr
    simp only [dSpan]
    walk_at "ds"
    unfold Bd at hb
    have l1 := shL_len (i := s.1) (by omega)
    have l2 := shL_len (i := s.2) (by omega)
    have l3 : (Str.ofString "..").length = 2 := rfl
    refine ⟨bits (by omega), by omega, bits (by omega), by rw [str_len_app]; omega, up.of hQ⟩
end
end K06
namespace K06
open PySem PySem.Spec PyProof.Rows L2 Dl
section
variable {P : Program} {w : World} {K : PySem.W.Frag} {mg : Str → Option Value} {base : Heap} {A : Ad}
def shB (b : List Sn) : Str := Txt.join "x" (b.map shS)
def sp_show_box : DSp := fun ds M Q _ => ∃ b : List Sn, ds = [dBox b] ∧ b.length ≤ 3 ∧ (∀ s ∈ b, Bd s) ∧ Q (.str (shB b)) M
theorem shS_len {s : Sn} (hb : Bd s) : (shS s).length ≤ 30 := by
  unfold Bd at hb
  have l1 := shL_len (i := s.1) (by omega)
  have l2 := shL_len (i := s.2) (by omega)
  unfold shS
  rw [str_len_app, str_len_app]
  have l3 : (".." : Str).length = 2 := rfl
  omega
theorem ok_show_box (T : Tx K mg A) : FnD P w K mg base 2 A.a_show_box A.d_show_box ["box"] sp_show_box := by
  refine okD T.f_show_box.F sc_show_box (fun ds M Q E h => ?_) fun cdv A outer s H E ds M Q ED hr h tk hp => ?_
  · obtain ⟨b, rfl, _⟩ := h; rfl
  · obtain ⟨b, rfl, hl, hb, hQ⟩ := h
    refine ⟨_, (qss_one (qs_ret (qe_join qe_str (qe_lc (own := [("span", 1)]) (g := (dgName 1)) (tt := dYes) rfl sc_show_box.nd (qi_any (qe_var 0)) (blkOk_by (own := [("span", 1)]) (N := ["box", "span"]) (sc := defScope s_show_box) (by decide +kernel)) (fun _ _ _ _ _ => (qv_name 1 sc_show_box.nd)) (fun _ _ _ _ _ => qts_nil) (fun _ _ _ _ _ => (qe_call (ok_show_span T) (hr.mono (by decide)) (by rfl) T.f_show_span.g T.f_show_span.F.kp T.f_show_span.b .nil dd0 (qa_cons (qe_var 1) qa_nil))))))), ?_⟩
    clear tk hp hr
    simp only [dBox]
    walk_at "ds"
    intro p hp
    refine lc_pure dSpan (fun s => D.str (shS s)) _ _ (fun _ => trivial) (by simp; omega) (fun s hs acc R hR => ?_) ?_
    · walk_at "ds"
      exact ⟨s, rfl, hb s hs, hR⟩
    · walk_at "ds"
      have e : strsOf (b.map fun s => D.str (shS s)) = some (b.map shS) := by
        have := strsOf_map (b.map shS)
        rwa [List.map_map] at this
      rw [e]
      refine ⟨?_, up.by (Sub.new hp) hQ⟩
      have hsum : ∀ l : List Sn, (∀ s ∈ l, Bd s) → ((l.map shS).map (·.length)).sum ≤ l.length * 30 := fun l => by
        induction l with
        | nil => intro _; simp
        | cons a r ih =>
          intro h
          have := ih fun s m => h s (by simp [m])
          have := shS_len (h a (by simp))
          simp at *; omega
      have := hsum b hb
      have l3 : (Str.ofString "x").length = 1 := rfl
      rw [List.length_map, l3]; omega
def isIntD : D → Bool
  | .int _ => true
  | _ => false
def sp_is_whole : DSp := fun ds M Q _ => ∃ d, ds = [d] ∧ (d = .non ∨ ∃ i, d = .int i) ∧ Q (.bl (isIntD d)) M
theorem ok_is_whole (T : Tx K mg A) : FnD P w K mg base 1 A.a_is_whole A.d_is_whole ["thing"] sp_is_whole := by
  refine okD T.f_is_whole.F sc_is_whole (fun ds M Q E h => ?_) fun cdv A outer s H E ds M Q ED hr h tk hp => ?_
  · obtain ⟨b, rfl, _⟩ := h; rfl
  · obtain ⟨d, rfl, hd, hQ⟩ := h
    refine ⟨_, (qss_one (qs_ret (qe_and (qe_callB c_isi (by rfl) T.b_isinstance PyProof.Rows.boot_isinstance (qa_cons (qe_var 0) (qa_cons (qe_ty (by rfl) T.b_int PyProof.Rows.boot_int) qa_nil))) (qe_one (qe_not (qe_callB c_isi (by rfl) T.b_isinstance PyProof.Rows.boot_isinstance (qa_cons (qe_var 0) (qa_cons (qe_ty (by rfl) T.b_bool PyProof.Rows.boot_bool) qa_nil)))))))), ?_⟩
    clear tk hp hr
    rcases hd with rfl | ⟨i, rfl⟩
    · walk_at "ds"
      exact up.of hQ
    · walk_at "ds"
      exact up.of hQ
def spanO : List (Option Int) → Option Sn
  | [some a, some b] => if a < b then some (a, b) else none
  | _ => none
def sp_is_span : DSp := fun ds M Q _ => ∃ os : List (Option Int), ds = [.tup (os.map dNum)] ∧ Q (.bl (spanO os).isSome) M
theorem ok_is_span (T : Tx K mg A) : FnD P w K mg base 2 A.a_is_span A.d_is_span ["thing"] sp_is_span := by
  refine okD T.f_is_span.F sc_is_span (fun ds M Q E h => ?_) fun cdv A outer s H E ds M Q ED hr h tk hp => ?_
  · obtain ⟨b, rfl, _⟩ := h; rfl
  · obtain ⟨os, rfl, hQ⟩ := h
    refine ⟨_, (qss_cons (qs_if (PW.pt (qw_or (qt_not (qt_val (qe_callB c_isi (by rfl) T.b_isinstance PyProof.Rows.boot_isinstance (qa_cons (qe_var 0) (qa_cons (qe_ty (by rfl) T.b_tuple PyProof.Rows.boot_tuple) qa_nil))))) (qw_or (qt_cmp (o_ne hr.units) (qe_callB c_len (by rfl) T.b_len PySem.boot_len (qa_cons (qe_var 0) qa_nil)) qe_int (nomark _)) (qw_or (qt_not (qt_val (qe_call (ok_is_whole T) (hr.mono (by decide)) (by rfl) T.f_is_whole.g T.f_is_whole.F.kp T.f_is_whole.b .nil dd0 (qa_cons (qe_ix (qe_var 0) qe_int) qa_nil)))) (qw_or1 (qt_not (qt_val (qe_call (ok_is_whole T) (hr.mono (by decide)) (by rfl) T.f_is_whole.g T.f_is_whole.F.kp T.f_is_whole.b .nil dd0 (qa_cons (qe_ix (qe_var 0) qe_int) qa_nil))))))))) (qss_one (qs_ret qe_bl)) qss_nil)
  (qss_one (qs_ret (qe_cmp o_lt (qe_ix (qe_var 0) qe_int) (qe_ix (qe_var 0) qe_int) (nomark _))))), ?_⟩
    clear tk hp hr
    walk_at "ds"
    rw [if_neg (by decide)]
    match os, hQ with
    | [], hQ => exact up.of hQ
    | [a], hQ => cases a <;> exact up.of hQ
    | a :: b :: c :: r, hQ =>
      rw [if_pos (by simp; omega)]
      cases a <;> cases b <;> exact up.of hQ
    | [none, b], hQ =>
      walk_at "ds"
      exact ⟨_, rfl, .inl rfl, up.of hQ⟩
    | [some a, none], hQ =>
      walk_at "ds"
      exact ⟨_, rfl, .inr ⟨_, rfl⟩, _, rfl, .inl rfl, up.of hQ⟩
    | [some a, some b], hQ =>
      walk_at "ds"
      refine ⟨_, rfl, .inr ⟨_, rfl⟩, _, rfl, .inr ⟨_, rfl⟩, ?_⟩
      have e : (spanO [some a, some b]).isSome = decide (a < b) := by
        unfold spanO
        by_cases h : a < b <;> simp [h]
      rw [e] at hQ
      exact up.of hQ
theorem spanO_some {os : List (Option Int)} {s : Sn} (h : spanO os = some s) : os.map dNum = [.int s.1, .int s.2] := by
  unfold spanO at h
  split at h
  · split at h
    · cases h; rfl
    · cases h
  · cases h
theorem spl_small (S : List Nat) : ∀ (l : List Nat) (k : Nat) (acc : List Nat), (∀ p ∈ TL.spl S k acc l, p.length ≤ acc.length + l.length) ∧ (TL.spl S k acc l).length ≤ l.length + 1
  | [], k, acc => by rw [TL.spl_nil]; simp
  | c :: r, 0, acc => by
    by_cases h : TL.pre S (c :: r) = true
    · rw [TL.spl_hit h]
      obtain ⟨h1, h2⟩ := spl_small S r (S.length - 1) []
      refine ⟨fun p hp => ?_, by simp; omega⟩
      rcases List.mem_cons.mp hp with e | m
      · subst e; omega
      · have := h1 p m; simp at this ⊢; omega
    · rw [TL.spl_miss (by simpa using h)]
      obtain ⟨h1, h2⟩ := spl_small S r 0 (acc ++ [c])
      exact ⟨fun p hp => by have := h1 p hp; simp at this ⊢; omega, by simp; omega⟩
  | c :: r, k + 1, acc => by
    obtain ⟨h1, h2⟩ := spl_small S r k acc
    exact ⟨fun p hp => by have := h1 p hp; simp at this ⊢; omega, by show (TL.spl S k acc r).length ≤ _; simp; omega⟩
theorem split_list (t y : Str) (hy : y.cps.toList ≠ []) (h : y.cps.all (· < 256) = true) : (Txt.split t y).map (fun x => x.cps.toList) = TL.spl y.cps.toList 0 [] t.cps.toList := TL.split_spl t y hy (TL.kind_ok h)
theorem split_small (t y : Str) (hy : y.cps.toList ≠ []) (h : y.cps.all (· < 256) = true) : (∀ p ∈ Txt.split t y, p.length ≤ t.length) ∧ (Txt.split t y).length ≤ t.length + 1 := by
  obtain ⟨h1, h2⟩ := spl_small y.cps.toList t.cps.toList 0 []
  rw [← split_list t y hy h] at h1 h2
  refine ⟨fun p hp => h1 p.cps.toList (List.mem_map.mpr ⟨p, hp, rfl⟩) |> fun z => by rw [List.length_nil, Nat.zero_add] at z; exact z, by rw [List.length_map] at h2; exact h2⟩
def spanR (t : Str) : Option Sn := spanO ((Txt.split t "..").map numF)
def sp_read_span (A : Ad) : DSp := fun ds M Q ED => ∃ t : Str, ds = [.str t] ∧ t.length ≤ 100000 ∧ (match spanR t with
  | some s => Q (dSpan s) M
  | none => ED (.ref A.c_NoBox) none M)
theorem ok_read_span (T : Tx K mg A) : FnD P w K mg base 3 A.a_read_span A.d_read_span ["text"] (sp_read_span A) := by
  refine okD T.f_read_span.F sc_read_span (fun ds M Q E h => ?_) fun cdv A' outer s H E ds M Q ED hr h tk hp => ?_
  · obtain ⟨b, rfl, _⟩ := h; rfl
  · obtain ⟨t, rfl, hl, hQ⟩ := h
    refine ⟨_, (qss_cons (qs_set 1 sc_read_span.nd (qe_callTy c_tuple (by rfl) T.b_tuple PyProof.Rows.boot_tuple (qa_cons (qe_lc (own := [("word", 2)]) (g := (dgName 2)) (tt := dYes) rfl sc_read_span.nd (qi_any (qe_split (qe_var 0) qe_str)) (blkOk_by (own := [("word", 2)]) (N := ["text", "span", "word"]) (sc := defScope s_read_span) (by decide +kernel)) (fun _ _ _ _ _ => (qv_name 2 sc_read_span.nd)) (fun _ _ _ _ _ => qts_nil) (fun _ _ _ _ _ => (qe_call (ok_number_in T) (hr.mono (by decide)) (by rfl) T.f_number_in.g T.f_number_in.F.kp T.f_number_in.b .nil dd0 (qa_cons (qe_var 2) qa_nil)))) qa_nil)))
  (qss_cons (qs_if (qt_not (qt_val (qe_call (ok_is_span T) (hr.mono (by decide)) (by rfl) T.f_is_span.g T.f_is_span.F.kp T.f_is_span.b .nil dd0 (qa_cons (qe_var 1) qa_nil)))) (qss_one (qs_raise rfl tk T.e_NoBox.1 T.c_NoBox T.e_NoBox.2.1 T.e_NoBox.2.2.1 T.e_NoBox.2.2.2 (by rfl))) qss_nil)
  (qss_one (qs_ret (qe_var 1))))), ?_⟩
    clear tk hp hr
    obtain ⟨hp1, hp2⟩ := split_small t ".." (by decide) (by decide +kernel)
    walk_at "ds"
    refine ⟨by decide, by omega, fun p hp q hq => ?_⟩
    have nqp := hq.1
    refine lc_pure D.str (fun x => dNum (numF x)) _ _ (fun _ => by unfold isL; rw [mup_ne (Ne.symm nqp), mup_same]) (by show 0 + _ ≤ _; omega) (fun x hx acc R hR => ?_) ?_
    · walk_at "ds"
      exact ⟨x, rfl, Nat.le_trans (hp1 x hx) hl, hR⟩
    · walk_at "ds"
      have e : (Txt.split t (Str.ofString "..")).map (fun x => dNum (numF x)) = ((Txt.split t "..").map numF).map dNum := by rw [List.map_map]; rfl
      rw [e]
      refine ⟨_, rfl, ?_⟩
      have hS : Dl.Sub M (mup (mup M p (.lst ((Txt.split t (Str.ofString "..")).map D.str))) q (.lst (((Txt.split t "..").map numF).map dNum))) := (Sub.new hp).trans (Sub.new (by rw [mup_ne nqp]; exact hq.2))
      unfold spanR at hQ
      cases hs : spanO ((Txt.split t "..").map numF) with
      | none =>
        rw [hs] at hQ
        exact ⟨M, hS, hQ⟩
      | some s =>
        rw [hs] at hQ
        rw [spanO_some hs] at hS ⊢
        exact up.by hS hQ
end
end K06
namespace K06
open PySem PySem.Spec PyProof.Rows L2 Dl
def optAll {α β : Type} (f : α → Option β) : List α → Option (List β)
  | [] => some []
  | x :: r => match f x, optAll f r with
    | some y, some ys => some (y :: ys)
    | _, _ => none
/-- a comprehension whose elements may fail: the first that fails ends it -/
theorem lc_opt {α β : Type} {G : Mp → Prop} {g : RG} {te : RE} {δ0 : DSt} {p : Addr} {Q : Mp → Prop} {Fl : Prop} (src : α → D) (f : α → Option β) (h : β → D) {M : Mp} : ∀ (xs : List α) (acc : List D), (∀ acc, G (mup M p (.lst acc))) → acc.length + xs.length ≤ 1000000 →
    (∀ x ∈ xs, ∀ acc (R : D → Mp → Prop), (match f x with
      | some y => R (h y) (mup M p (.lst acc))
      | none => Fl) → g (src x) δ0 (mup M p (.lst acc)) fun δ1 M1 => te δ1 M1 R) → (match optAll f xs with
      | some ys => Q (mup M p (.lst (acc ++ ys.map h)))
      | none => Fl) → dLcLoop G g dYes te δ0 p Q (xs.map src) acc (mup M p (.lst acc))
  | [], acc, hG, hl, he, hQ => by
    refine ⟨hG _, ?_⟩
    simpa [optAll] using hQ
  | d :: ds, acc, hG, hl, he, hQ => by
    refine ⟨hG _, ?_⟩
    show g (src d) δ0 (mup M p (.lst acc)) fun δ1 M1 => dYes δ1 M1 fun b M2 => if b = true then _ else _
    simp only [dYes, if_true]
    refine he d (List.mem_cons_self ..) acc _ ?_
    simp only [optAll] at hQ
    cases e : f d with
    | none =>
      rw [e] at hQ
      exact hQ
    | some y =>
      rw [e] at hQ
      refine ⟨mup_same, by simp at hl; omega, ?_⟩
      rw [mup_mup]
      refine lc_opt (Fl := Fl) src f h ds (acc ++ [h y]) hG (by simp at hl ⊢; omega) (fun d' m => he d' (List.mem_cons_of_mem _ m)) ?_
      cases e2 : optAll f ds with
      | none => rw [e2] at hQ; exact hQ
      | some ys => rw [e2] at hQ; simpa using hQ
section
variable {P : Program} {w : World} {K : PySem.W.Frag} {mg : Str → Option Value} {base : Heap} {A : Ad}
def boxR (t : Str) : Option (List Sn) := if (Txt.split t "x").length ≤ 3 then optAll spanR (Txt.split t "x") else none
def sp_read_box (A : Ad) : DSp := fun ds M Q ED => ∃ d, ds = [d] ∧ ((∃ t : Str, d = .str t ∧ t.length ≤ 100000 ∧ (match boxR t with
  | some b => Q (dBox b) M
  | none => ED (.ref A.c_NoBox) none M)) ∨ ∃ n, tyD M d = some n ∧ isB n "str" = false ∧ ED (.ref A.c_NoBox) none M)
theorem ok_read_box (T : Tx K mg A) : FnD P w K mg base 4 A.a_read_box A.d_read_box ["text"] (sp_read_box A) := by
  refine okD T.f_read_box.F sc_read_box (fun ds M Q E h => ?_) fun cdv A' outer s H E ds M Q ED hr h tk hp => ?_
  · obtain ⟨b, rfl, _⟩ := h; rfl
  · obtain ⟨d, rfl, hQ⟩ := h
    refine ⟨_, (qss_cons (qs_if (qt_not (qt_val (qe_callB c_isi (by rfl) T.b_isinstance PyProof.Rows.boot_isinstance (qa_cons (qe_var 0) (qa_cons (qe_ty (by rfl) T.b_str PyProof.Rows.boot_str) qa_nil))))) (qss_one (qs_raise rfl tk T.e_NoBox.1 T.c_NoBox T.e_NoBox.2.1 T.e_NoBox.2.2.1 T.e_NoBox.2.2.2 (by rfl))) qss_nil)
  (qss_cons (qs_set 1 sc_read_box.nd (qe_split (qe_var 0) qe_str))
  (qss_cons (qs_if (qt_cmp o_gt (qe_callB c_len (by rfl) T.b_len PySem.boot_len (qa_cons (qe_var 1) qa_nil)) (qe_globI (by rfl) T.v_MOST_KEYS) (nomark _)) (qss_one (qs_raise rfl tk T.e_NoBox.1 T.c_NoBox T.e_NoBox.2.1 T.e_NoBox.2.2.1 T.e_NoBox.2.2.2 (by rfl))) qss_nil)
  (qss_one (qs_ret (qe_callTy c_tuple (by rfl) T.b_tuple PyProof.Rows.boot_tuple (qa_cons (qe_lcX (own := [("part", 2)]) (g := (dgName 2)) (tt := dYes) rfl sc_read_box.nd tk (qi_any (qe_var 1)) (blkOk_by (own := [("part", 2)]) (N := ["text", "parts", "part"]) (sc := defScope s_read_box) (by decide +kernel)) (fun _ _ _ _ _ => (qv_name 2 sc_read_box.nd)) (fun _ _ _ _ _ => qts_nil) (fun _ _ _ _ _ => (qe_callBlk (ok_read_span T) (hr.mono (by decide)) T.f_read_span.g T.f_read_span.F.kp T.f_read_span.b (by rfl) (qa_cons (qe_var 2) qa_nil)))) qa_nil))))))), ?_⟩
    clear tk hp hr
    rcases hQ with ⟨t, rfl, hl, hQ⟩ | ⟨n, hty, hn, hE⟩
    · obtain ⟨hp1, hp2⟩ := split_small t "x" (by decide) (by decide +kernel)
      have ls : (Txt.split t (Str.ofString "x")).length ≤ 1000000 := Nat.le_trans hp2 (by omega)
      walk_at "ds"
      rw [if_neg (by decide)]
      refine ⟨by decide, by omega, fun p hp => ?_⟩
      unfold boxR at hQ
      rw [List.length_map]
      by_cases h3 : (Txt.split t (Str.ofString "x")).length ≤ 3
      · rw [if_neg (by omega)]
        rw [if_pos h3] at hQ
        intro q hq
        have nqp := hq.1
        have hS : ∀ l, Dl.Sub M (mup (mup M p (.lst ((Txt.split t (Str.ofString "x")).map D.str))) q (.lst l)) := fun l => (Sub.new hp).trans (Sub.new (by rw [mup_ne nqp]; exact hq.2))
        refine lc_opt (Fl := ED (.ref A.c_NoBox) none M) D.str spanR dSpan _ _ (fun _ => by unfold isL; rw [mup_ne (Ne.symm nqp), mup_same]) (by show 0 + _ ≤ _; omega) (fun x hx acc R hR => ?_) ?_
        · walk_at "ds"
          refine ⟨x, rfl, Nat.le_trans (hp1 x hx) hl, ?_⟩
          cases e : spanR x with
          | none => rw [e] at hR; exact ⟨M, hS _, hR⟩
          | some y => rw [e] at hR; exact hR
        · cases e : optAll spanR (Txt.split t (Str.ofString "x")) with
          | none =>
            rw [show optAll spanR (Txt.split t "x") = none from e] at hQ
            exact hQ
          | some ys =>
            rw [show optAll spanR (Txt.split t "x") = some ys from e] at hQ
            walk_at "ds"
            exact up.by (hS _) hQ
      · rw [if_pos (by omega)]
        rw [if_neg h3] at hQ
        exact ⟨M, Sub.new hp, hQ⟩
    · have hu : upX ED (.ref A.c_NoBox) none M := ⟨M, Sub.refl _, hE⟩
      cases d with
      | non => walk_at "ds"; exact hu
      | bl b => walk_at "ds"; exact hu
      | int b => walk_at "ds"; exact hu
      | tup b => walk_at "ds"; exact hu
      | str b =>
        simp only [tyD, Option.some.injEq] at hty
        subst hty
        cases hn
      | ref a =>
        simp only [tyD] at hty
        split at hty
        · rename_i e; walk_at "ds"; simp only [e]; exact hu
        · rename_i e; walk_at "ds"; simp only [e]; exact hu
        · rename_i e; walk_at "ds"; simp only [e]; exact hu
        · cases hty
      | _ => cases hty
end
end K06
namespace K06
open PySem PySem.Spec PyProof.Rows L2 Dl
section
variable {P : Program} {w : World} {K : PySem.W.Frag} {mg : Str → Option Value} {base : Heap} {A : Ad}
theorem ok_Lnumber (T : Tx K mg A) : FnD P w K mg base 1 A.a_Lnumber A.d_Lnumber ["_law_text"] sp_number_in := by
  refine okD T.f_Lnumber.F sc_Lnumber (fun ds M Q E h => ?_) fun cdv A outer s H E ds M Q ED hr h tk hp => ?_
  · obtain ⟨b, rfl, _⟩ := h; rfl
  · obtain ⟨w, rfl, hl, hQ⟩ := h
    refine ⟨_, (qss_cons (qs_set 1 sc_Lnumber.nd (qe_slice (qe_var 0) (qo_some (qe_callTy c_int (by rfl) T.b_int PyProof.Rows.boot_int (qa_cons (qe_cmp (o_eq hr.units) (qe_slice (qe_var 0) qo_none (qo_some qe_int)) qe_str (nomark _)) qa_nil))) qo_none))
  (qss_cons (qs_if (PW.pt (qw_or (qt_not (qt_chain o_le o_le qe_int (qe_callB c_len (by rfl) T.b_len PySem.boot_len (qa_cons (qe_var 1) qa_nil)) qe_int)) (qw_or1 (qt_val (qe_callB (c_any rfl) (by rfl) T.b_any PyProof.Rows.boot_any (qa_cons (qe_lc (own := [("_law_sign", 2)]) (g := (dgName 2)) (tt := dYes) rfl sc_Lnumber.nd (qi_any (qe_var 1)) (blkOk_by (own := [("_law_sign", 2)]) (N := ["_law_text", "_law_figures", "_law_sign"]) (sc := defScope s_Lnumber) (by decide +kernel)) (fun _ _ _ _ _ => (qv_name 2 sc_Lnumber.nd)) (fun _ _ _ _ _ => qts_nil) (fun _ _ _ _ _ => (qe_cmp (o_notIn hr.units) (qe_var 2) qe_str rfl))) qa_nil)))))) (qss_one (qs_ret qe_non)) qss_nil)
  (qss_cons (qs_if (PW.pt (qw_or (qt_cmp (o_eq hr.units) (qe_var 0) qe_str (nomark _)) (qw_or1 (qt_cmp (o_ne hr.units) (qe_ix (qe_var 1) qe_int) qe_str (nomark _))))) (qss_one (qs_ret (qe_callTy c_intS (by rfl) T.b_int PyProof.Rows.boot_int (qa_cons (qe_var 0) qa_nil)))) qss_nil)
  (qss_one (qs_ret qe_non))))), ?_⟩
    clear tk hp hr
    have hfl : (figs w).length ≤ w.length := by
      unfold figs; split
      · exact cutS_length _ _ _
      · exact Nat.le_refl _
    refine seq_cut (fun δ' M' => δ' = [some (.str w), some (.str (figs w)), none] ∧ M' = M) (fun R hR => ?_) ?_
    · walk_at "ds"
      refine ⟨by omega, by omega, ?_⟩
      have ez : cutS w (some 0) none = w := str_ext (by rw [cutS_list, show (0 : Int) = ((0 : Nat) : Int) from rfl, cut_from]; rfl)
      by_cases h : cutS w none (some 1) = Str.ofString "-"
      · have e : figs w = cutS w (some 1) none := by unfold figs; exact if_pos h
        simp only [h, decide_true, if_true]
        exact hR _ _ ⟨by rw [e], rfl⟩
      · have e : figs w = w := by unfold figs; exact if_neg h
        simp only [h, decide_false, Bool.false_eq_true, if_false]
        exact hR _ _ ⟨by rw [e, ez], rfl⟩
    rintro δ' M2 ⟨rfl, rfl⟩
    walk_at "ds"
    have hz : ∀ M', Dl.Sub M2 M' → goodW w = false → up Q .non M' := fun M' hs hg => by
      unfold numF at hQ
      rw [hg] at hQ
      exact up.by hs hQ
    refine ⟨by omega, ?_⟩
    by_cases h1 : 1 ≤ (figs w).length
    · rw [if_pos (by omega)]
      by_cases h2 : (figs w).length ≤ 13
      · rw [if_neg (by simp; omega)]
        intro p hp
        unfold Dl.signs
        refine lc_pure _ (fun c => D.bl (!isFig c)) _ _ (fun _ => trivial) (by have := len_list (figs w); simp at this ⊢; omega) (fun c hc acc R hR => ?_) ?_
        · walk_at "ds"
          exact hR
        · walk_at "ds"
          rw [maps_bl]
          dsimp only
          have ea : ((figs w).cps.toList.map fun c => !isFig c).any id = !(figs w).cps.toList.all isFig := by
            induction (figs w).cps.toList with
            | nil => rfl
            | cons a r ih => simp only [List.map_cons, List.any_cons, List.all_cons, ih, id]; cases isFig a <;> simp
          rw [ea]
          by_cases h3 : (figs w).cps.toList.all isFig = true
          · rw [h3]
            simp only [Bool.not_true, Bool.false_eq_true, if_false]
            obtain ⟨c, r, hc⟩ : ∃ c r, (figs w).cps.toList = c :: r := by
              cases e : (figs w).cps.toList with
              | nil => have : (figs w).cps.toList.length = (figs w).length := rfl; rw [e] at this; simp at this; omega
              | cons c r => exact ⟨c, r, rfl⟩
            have hS : Dl.Sub M2 (mup M2 p (.lst ((figs w).cps.toList.map fun c => D.bl (!isFig c)))) := Sub.new hp
            have hw : goodW w = true → ∃ n, intText? w = some n ∧ Q (.int n) M2 := fun hg => by
              obtain ⟨n, hn⟩ := good_text hg
              unfold numF at hQ
              rw [hg, if_pos rfl, hn] at hQ
              exact ⟨n, hn, hQ⟩
            have hwl : w.length ≤ 640 := by have := figs_len w; omega
            have e0 : (⟨#[c]⟩ : Str) = Str.ofString "0" ↔ c = 48 := ⟨fun z => by
              have z2 : [c] = [48] := congrArg (fun x : Str => x.cps.toList) z
              exact (List.cons.inj z2).1, fun z => by subst z; rfl⟩
            have hgood : goodW w = !(decide (c = 48) && decide (w ≠ "0")) := by
              unfold goodW
              rw [h3, hc]
              simp [h1, h2]
            by_cases h5 : w = Str.ofString "0"
            · rw [if_pos h5]
              obtain ⟨n, hn, hq⟩ := hw (by rw [hgood]; simp [h5])
              rw [hn]
              exact ⟨hwl, up.by hS hq⟩
            · rw [if_neg h5]
              refine ⟨by omega, ?_⟩
              rw [hc, atI0]
              rw [hc] at hS
              dsimp only
              by_cases h4 : c = 48
              · simp only [e0.mpr h4, decide_true, Bool.not_true, Bool.false_eq_true, if_false]
                exact hz _ hS (by rw [hgood]; simp [h4]; exact h5)
              · have h6 : ¬ (⟨#[c]⟩ : Str) = Str.ofString "0" := fun z => h4 (e0.mp z)
                simp only [h6, decide_false, Bool.not_false, if_true]
                obtain ⟨n, hn, hq⟩ := hw (by rw [hgood]; simp [h4])
                rw [hn]
                exact ⟨hwl, up.by hS hq⟩
          · have h3' : (figs w).cps.toList.all isFig = false := by simpa using h3
            rw [h3']
            simp only [Bool.not_false, if_true]
            exact hz _ (Sub.new hp) (by unfold goodW; rw [h3']; simp)
      · rw [if_pos (by simp; omega)]
        exact hz _ (Sub.refl _) (by unfold goodW; simp [h2])
    · rw [if_neg (by omega)]
      exact hz _ (Sub.refl _) (by unfold goodW; simp [h1])
def loS (t : Str) (i : Int) : Option Int := numF (cutS t none (some i))
def hiS (t : Str) (i : Int) : Option Int := numF (cutS t (some (i + 2)) none)
def stF (t : Str) : Option Sn := if Txt.find t ".." < 0 then none else match loS t (Txt.find t ".."), hiS t (Txt.find t "..") with
  | some a, some b => if b ≤ a then none else some (a, b)
  | _, _ => none
def dSp (o : Option Sn) : D := match o with
  | some s => dSpan s
  | none => .non
def sp_Lstretch : DSp := fun ds M Q _ => ∃ t : Str, ds = [.str t] ∧ t.length ≤ 100000 ∧ Q (dSp (stF t)) M
theorem ok_Lstretch (T : Tx K mg A) : FnD P w K mg base 2 A.a_Lstretch A.d_Lstretch ["_law_text"] sp_Lstretch := by
  refine okD T.f_Lstretch.F sc_Lstretch (fun ds M Q E h => ?_) fun cdv A outer s H E ds M Q ED hr h tk hp => ?_
  · obtain ⟨b, rfl, _⟩ := h; rfl
  · obtain ⟨t, rfl, hl, hQ⟩ := h
    refine ⟨_, (qss_cons (qs_set 1 sc_Lstretch.nd (qe_find (qe_var 0) qe_str))
  (qss_cons (qs_if (qt_cmp o_lt (qe_var 1) qe_int (nomark _)) (qss_one (qs_ret qe_non)) qss_nil)
  (qss_cons (qs_par 2 3 rfl sc_Lstretch.nd rfl rfl (by decide) rfl rfl (qa_cons (qe_call (ok_Lnumber T) (hr.mono (by decide)) (by rfl) T.f_Lnumber.g T.f_Lnumber.F.kp T.f_Lnumber.b .nil dd0 (qa_cons (qe_slice (qe_var 0) qo_none (qo_some (qe_var 1))) qa_nil)) (qa_cons (qe_call (ok_Lnumber T) (hr.mono (by decide)) (by rfl) T.f_Lnumber.g T.f_Lnumber.F.kp T.f_Lnumber.b .nil dd0 (qa_cons (qe_slice (qe_var 0) (qo_some (qe_op o_add (qe_var 1) qe_int)) qo_none) qa_nil)) qa_nil)) (by rfl))
  (qss_cons (qs_if (PW.pt (qw_or (qt_isN (qe_var 2)) (qw_or (qt_isN (qe_var 3)) (qw_or1 (qt_cmp o_ge (qe_var 2) (qe_var 3) (nomark _)))))) (qss_one (qs_ret qe_non)) qss_nil)
  (qss_one (qs_ret (qe_tup (qa_cons (qe_var 2) (qa_cons (qe_var 3) qa_nil))))))))), ?_⟩
    clear tk hp hr
    walk_at "ds"
    unfold stF at hQ
    by_cases h : Txt.find t (Str.ofString "..") < 0
    · rw [if_pos h]
      rw [if_pos (show Txt.find t ".." < 0 from h)] at hQ
      exact up.of hQ
    · rw [if_neg h]
      rw [if_neg (show ¬ Txt.find t ".." < 0 from h)] at hQ
      refine ⟨by omega, _, rfl, Nat.le_trans (cutS_length _ _ _) hl, by omega, _, rfl, Nat.le_trans (cutS_length _ _ _) hl, ?_⟩
      show (if (match dNum (loS t (Txt.find t "..")) with
        | D.non => true
        | x => false) = true then _ else if (match dNum (hiS t (Txt.find t "..")) with
        | D.non => true
        | x => false) = true then _ else match dNum (loS t (Txt.find t "..")), dNum (hiS t (Txt.find t "..")) with
        | D.int i, D.int j => if j ≤ i then _ else up Q (D.tup [dNum (loS t (Txt.find t "..")), dNum (hiS t (Txt.find t ".."))]) M
        | x, x_1 => False)
      cases e1 : loS t (Txt.find t "..") with
      | none =>
        rw [e1] at hQ
        exact up.of hQ
      | some a =>
        rw [e1] at hQ
        cases e2 : hiS t (Txt.find t "..") with
        | none =>
          rw [e2] at hQ
          exact up.of hQ
        | some b =>
          rw [e2] at hQ
          simp only [dNum, Bool.false_eq_true, if_false]
          by_cases h3 : b ≤ a
          · rw [if_pos h3]
            simp only [h3, if_true] at hQ
            exact up.of hQ
          · rw [if_neg h3]
            simp only [h3, if_false] at hQ
            exact up.of hQ
end
end K06
namespace K06
open PySem PySem.Spec PyProof.Rows L2 Dl
def mkS (l : List Nat) : Str := ⟨l.toArray⟩
theorem mkS_list (l : List Nat) : (mkS l).cps.toList = l := by simp [mkS]
theorem mkS_of (x : Str) : mkS x.cps.toList = x := str_ext (mkS_list _)
theorem mkS_app (a b : List Nat) : mkS a ++ mkS b = mkS (a ++ b) := by
  refine str_ext ?_
  rw [mkS_list]
  show (a.toArray ++ b.toArray).toList = _
  simp
theorem mkS_len (l : List Nat) : (mkS l).length = l.length := by rw [← len_list, mkS_list]
/-- the parts of a text between the x, sign by sign -/
def stepX : List (List Nat) × List Nat → Nat → List (List Nat) × List Nat := fun s c => if c = 120 then (s.1 ++ [s.2], []) else (s.1, s.2 ++ [c])
def goX (l : List Nat) : List (List Nat) × List Nat := l.foldl stepX ([], [])
theorem goX_gen : ∀ (l : List Nat) (fs : List (List Nat)) (acc : List Nat), ((l ++ [120]).foldl stepX (fs, acc)).1 = fs ++ TL.spl [120] 0 acc l
  | [], fs, acc => by rw [TL.spl_nil]; simp [stepX]
  | c :: r, fs, acc => by
    by_cases h : c = 120
    · subst h
      rw [TL.spl_hit (by simp [TL.pre])]
      have e : stepX (fs, acc) 120 = (fs ++ [acc], []) := by simp [stepX]
      rw [List.cons_append, List.foldl_cons, e, goX_gen r (fs ++ [acc]) []]
      simp
    · rw [TL.spl_miss (by simp [TL.pre]; exact h)]
      have e : stepX (fs, acc) c = (fs, acc ++ [c]) := by simp [stepX, h]
      rw [List.cons_append, List.foldl_cons, e, goX_gen r fs (acc ++ [c])]
theorem goX_split (t : Str) : (goX (t.cps.toList ++ [120])).1.map mkS = Txt.split t "x" := by
  have e := goX_gen t.cps.toList [] []
  rw [List.nil_append] at e
  rw [show (goX (t.cps.toList ++ [120])).1 = _ from e, show ([120] : List Nat) = ("x" : Str).cps.toList from rfl, ← split_list t "x" (by decide) (by decide +kernel), List.map_map]
  conv => rhs; rw [← List.map_id (Txt.split t "x")]
  exact List.map_congr_left fun x _ => mkS_of x
theorem goX_size : ∀ (l : List Nat) (s : List (List Nat) × List Nat), (l.foldl stepX s).1.length ≤ s.1.length + l.length ∧ (l.foldl stepX s).2.length ≤ s.2.length + l.length
  | [], s => by simp
  | c :: r, s => by
    have := goX_size r (stepX s c)
    have e : (stepX s c).1.length ≤ s.1.length + 1 ∧ (stepX s c).2.length ≤ s.2.length + 1 := by
      unfold stepX; split <;> simp
    rw [List.foldl_cons, List.length_cons]
    omega
section
variable {P : Program} {w : World} {K : PySem.W.Frag} {mg : Str → Option Value} {base : Heap} {A : Ad}
def dueF (t : Str) : Option (List Sn) := if (Txt.split t "x").length ≤ 3 then optAll stF (Txt.split t "x") else none
def dBx (o : Option (List Sn)) : D := match o with
  | some b => dBox b
  | none => .non
def sp_Ldue : DSp := fun ds M Q _ => ∃ t : Str, ds = [.str t] ∧ t.length ≤ 50000 ∧ Q (dBx (dueF t)) M
theorem ok_Ldue (T : Tx K mg A) : FnD P w K mg base 3 A.a_Ldue A.d_Ldue ["_law_text"] sp_Ldue := by
  refine okD T.f_Ldue.F sc_Ldue (fun ds M Q E h => ?_) fun cdv A outer s H E ds M Q ED hr h tk hp => ?_
  · obtain ⟨b, rfl, _⟩ := h; rfl
  · obtain ⟨t, rfl, hl, hQ⟩ := h
    refine ⟨_, (qss_cons (qs_set 1 sc_Ldue.nd (qe_lst qa_nil))
  (qss_cons (qs_set 2 sc_Ldue.nd qe_str)
  (qss_cons (qs_for hp rfl (qi_any (qe_op o_add (qe_var 0) qe_str)) (qg_name 3 sc_Ldue.nd) (qss_one (qs_if (qt_cmp (o_eq hr.units) (qe_var 3) qe_str (nomark _)) (qss_cons (qs_expr (qe_lm PySem.F.plainAttrs_list PySem.F.slot_list_append PySem.F.type_list_append m_append (qe_var 1) (qa_cons (qe_call (ok_Lstretch T) (hr.mono (by decide)) (by rfl) T.f_Lstretch.g T.f_Lstretch.F.kp T.f_Lstretch.b .nil dd0 (qa_cons (qe_var 2) qa_nil)) qa_nil)))
  (qss_one (qs_set 2 sc_Ldue.nd qe_str))) (qss_one (qs_set 2 sc_Ldue.nd (qe_op o_add (qe_var 2) (qe_var 3)))))))
  (qss_cons (qs_if (PW.pt (qw_or (qt_cmp (o_in hr.units) qe_non (qe_var 1) rfl) (qw_or1 (qt_cmp o_gt (qe_callB c_len (by rfl) T.b_len PySem.boot_len (qa_cons (qe_var 1) qa_nil)) qe_int (nomark _))))) (qss_one (qs_ret qe_non)) qss_nil)
  (qss_one (qs_ret (qe_callTy c_tuple (by rfl) T.b_tuple PyProof.Rows.boot_tuple (qa_cons (qe_var 1) qa_nil)))))))), ?_⟩
    clear tk hp hr
    walk_at "ds"
    intro f hf
    have l1 : (Str.ofString "x").length = 1 := rfl
    refine ⟨by omega, ?_⟩
    have eL : (t ++ Str.ofString "x").cps.toList = t.cps.toList ++ [120] := by
      show (t.cps ++ _).toList = _
      rw [Array.toList_append]; rfl
    have hlen : (t.cps.toList ++ [120]).length = t.length + 1 := by simp [← len_list]
    unfold Dl.signs
    rw [eL]
    generalize hLL : t.cps.toList ++ [120] = L at hlen
    refine loop_inv _ _ (fun i δ M' => (∃ x : Option D, δ = [some (.str t), some (.ref f), some (.str (mkS (goX (L.take i)).2)), x]) ∧ M' f = some (.lst ((goX (L.take i)).1.map fun p => dSp (stF (mkS p)))) ∧ Dl.Sub M M') (fun _ _ _ _ _ => trivial) ?_ ?_ ⟨⟨none, by rfl⟩, by simp [goX, mup_same], Sub.new hf⟩
    · rintro i c δ M' R hi hR ⟨⟨x, rfl⟩, hM, hS⟩
      have hil : i < L.length := (List.getElem?_eq_some_iff.mp hi).1
      have eg : goX (L.take (i + 1)) = stepX (goX (L.take i)) c := by
        unfold goX
        rw [List.take_add_one, hi]
        simp [List.foldl_append]
      obtain ⟨z1, z2⟩ := goX_size (L.take i) ([], [])
      rw [show List.foldl stepX ([], []) (L.take i) = goX (L.take i) from rfl] at z1 z2
      rw [List.length_take] at z1 z2
      have e0 : (⟨#[c]⟩ : Str) = Str.ofString "x" ↔ c = 120 := ⟨fun z => by
        have z2 : [c] = [120] := congrArg (fun x : Str => x.cps.toList) z
        exact (List.cons.inj z2).1, fun z => by subst z; rfl⟩
      walk_at "ds"
      by_cases h : c = 120
      · rw [if_pos (e0.mpr h), lstOf_of hM]
        refine ⟨trivial, mkS (goX (L.take i)).2, rfl, by rw [mkS_len]; simp at z2; omega, ?_⟩
        walk_at "ds"
        rw [lstOf_of hM]
        dsimp only
        refine ⟨by rw [List.length_map]; simp at z1; omega, hR _ _ ⟨⟨some (.str ⟨#[c]⟩), ?_⟩, ?_, fun u o g => ?_⟩⟩
        · rw [eg]
          have : (stepX (goX (L.take i)) c).2 = [] := by unfold stepX; rw [if_pos h]
          rw [this]; rfl
        · rw [mup_same, eg]
          have : (stepX (goX (L.take i)) c).1 = (goX (L.take i)).1 ++ [(goX (L.take i)).2] := by unfold stepX; rw [if_pos h]
          rw [this]; simp
        · have nu : u ≠ f := by rintro rfl; rw [hf] at g; cases g
          rw [mup_ne nu]; exact hS _ _ g
      · rw [if_neg (fun z => h (e0.mp z))]
        refine ⟨by rw [mkS_len]; simp at z2; have : (⟨#[c]⟩ : Str).length = 1 := rfl; omega, hR _ _ ⟨⟨some (.str ⟨#[c]⟩), ?_⟩, ?_, hS⟩⟩
        · rw [eg]
          have : (stepX (goX (L.take i)) c).2 = (goX (L.take i)).2 ++ [c] := by unfold stepX; rw [if_neg h]
          rw [this, ← mkS_app]; rfl
        · rw [hM, eg]
          have : (stepX (goX (L.take i)) c).1 = (goX (L.take i)).1 := by unfold stepX; rw [if_neg h]
          rw [this]
    · rintro δ M' ⟨⟨x, rfl⟩, hM, hS⟩
      rw [List.take_length] at hM
      have eF : (goX L).1.map (fun p => dSp (stF (mkS p))) = (Txt.split t "x").map fun p => dSp (stF p) := by
        rw [← goX_split t, hLL, List.map_map]; rfl
      rw [eF] at hM
      walk_at "ds"
      refine ⟨_, _, Dn.pl (d := .non) (by simp [Pln]), .inl (Dn.ls (n := 59) hM (fun d hd => ?_)), ?_⟩
      · obtain ⟨y, _, rfl⟩ := List.mem_map.mp hd
        cases stF y with
        | none => simp [dSp, Pln]
        | some s =>
          simp only [dSp, dSpan, Pln]
          intro e he
          simp at he
          rcases he with rfl | rfl <;> simp [Pln]
      · have ea : ((pys ((Txt.split t "x").map fun p => dSp (stF p))).any fun z => PyData.eqv z (py .non)) = (Txt.split t "x").any fun p => (stF p).isNone := by
          rw [pys_map, List.map_map, List.any_map]
          congr 1
          funext p
          show PyData.eqv (py (dSp (stF p))) (py .non) = _
          cases stF p <;> simp [dSp, dSpan, py, PyData.eqv]
        rw [ea]
        have eo : ∀ l : List Str, (optAll stF l = none ↔ (l.any fun p => (stF p).isNone) = true) ∧ ∀ ys, optAll stF l = some ys → l.map (fun p => dSp (stF p)) = ys.map dSpan := fun l => by
          induction l with
          | nil => exact ⟨by simp [optAll], fun ys h => by simp [optAll] at h; subst h; rfl⟩
          | cons a r ih =>
            obtain ⟨i1, i2⟩ := ih
            cases e : stF a with
            | none => exact ⟨by simp [optAll, e], fun ys h => by simp [optAll, e] at h⟩
            | some s =>
              cases e2 : optAll stF r with
              | none =>
                have := i1.mp e2
                exact ⟨by simp [optAll, e, e2]; simpa using this, fun ys h => by simp [optAll, e, e2] at h⟩
              | some zs =>
                have h3 : ¬ (r.any fun p => (stF p).isNone) = true := fun z => by rw [i1.mpr z] at e2; cases e2
                refine ⟨?_, fun ys h => ?_⟩
                · simp only [optAll, e, e2, List.any_cons]
                  simp at h3 ⊢
                  exact h3
                · simp only [optAll, e, e2, Option.some.injEq] at h
                  subst h
                  rw [List.map_cons, List.map_cons, i2 zs e2, e]; rfl
        obtain ⟨o1, o2⟩ := eo (Txt.split t "x")
        unfold dueF at hQ
        by_cases hn : ((Txt.split t "x").any fun p => (stF p).isNone) = true
        · rw [hn, if_pos rfl]
          rw [o1.mpr hn] at hQ
          have : dBx (if (Txt.split t "x").length ≤ 3 then none else none) = .non := by split <;> rfl
          rw [this] at hQ
          exact up.by hS hQ
        · have hn' : ((Txt.split t "x").any fun p => (stF p).isNone) = false := by simpa using hn
          rw [hn', if_neg Bool.false_ne_true]
          rw [hM]
          dsimp only
          rw [List.length_map]
          by_cases h3 : (Txt.split t "x").length ≤ 3
          · rw [if_neg (by omega), lstOf_of hM]
            dsimp only
            rw [if_pos h3] at hQ
            cases e2 : optAll stF (Txt.split t "x") with
            | none => exact absurd (o1.mp e2) hn
            | some ys =>
              rw [e2] at hQ
              rw [o2 ys e2]
              exact up.by hS hQ
          · rw [if_pos (by omega)]
            rw [if_neg h3] at hQ
            exact up.by hS hQ
end
end K06
namespace K06
open PySem PySem.Spec PyProof.Rows L2 Dl
theorem spl_ne (S : List Nat) : ∀ (l : List Nat) (k : Nat) (acc : List Nat), 1 ≤ (TL.spl S k acc l).length
  | [], k, acc => by rw [TL.spl_nil]; simp
  | c :: r, 0, acc => by
    by_cases h : TL.pre S (c :: r) = true
    · rw [TL.spl_hit h]; simp
    · rw [TL.spl_miss (by simpa using h)]; exact spl_ne S r 0 _
  | c :: r, k + 1, acc => by show 1 ≤ (TL.spl S k acc r).length; exact spl_ne S r k acc
theorem spl_two : ∀ (l acc : List Nat), TL.spl [46, 46] 0 acc l = [acc ++ l] ∨ (46 ∈ l ∧ 2 ≤ (TL.spl [46, 46] 0 acc l).length)
  | [], acc => by left; rw [TL.spl_nil]; simp
  | c :: r, acc => by
    by_cases h : TL.pre [46, 46] (c :: r) = true
    · right
      have hc : c = 46 := by
        unfold TL.pre at h
        have := eq_of_beq h
        simp at this
        exact this.1
      rw [TL.spl_hit h]
      have := spl_ne [46, 46] r ([46, 46].length - 1) []
      exact ⟨by simp [hc], by simp; omega⟩
    · rw [TL.spl_miss (by simpa using h)]
      rcases spl_two r (acc ++ [c]) with e | ⟨m, e⟩
      · left; rw [e]; simp
      · right; exact ⟨by simp [m], e⟩
theorem numF_dot {w : Str} (h : 46 ∈ w.cps.toList) : numF w = none := by
  unfold numF
  have hf : 46 ∈ (figs w).cps.toList := by
    rw [figs_list]
    split
    · rename_i e
      cases q : w.cps.toList with
      | nil => rw [q] at e; cases e
      | cons c r =>
        rw [q] at e h
        simp at e
        subst e
        simpa using h
    · exact h
  have : goodW w = false := by
    unfold goodW
    have : (figs w).cps.toList.all isFig = false := by
      rw [List.all_eq_false]
      exact ⟨46, hf, by decide⟩
    rw [this]; simp
  rw [this]; rfl
theorem split_mk (t y : Str) (hy : y.cps.toList ≠ []) (h : y.cps.all (· < 256) = true) : Txt.split t y = (TL.spl y.cps.toList 0 [] t.cps.toList).map mkS := by
  rw [← split_list t y hy h, List.map_map]
  conv => lhs; rw [← List.map_id (Txt.split t y)]
  exact List.map_congr_left fun x _ => (mkS_of x).symm
theorem st_span (t : Str) : stF t = spanR t := by
  have hy : (".." : Str).cps.toList ≠ [] := by decide
  unfold spanR
  rw [split_mk t ".." hy (by decide +kernel)]
  show _ = spanO (((TL.spl [46, 46] 0 [] t.cps.toList).map mkS).map numF)
  rcases PyProof.Rows.find_whole t ".." with ⟨e, hn⟩ | ⟨i, e, hi, hn⟩
  · have run := TL.spl_run [46, 46] t.cps.toList t.cps.toList.length 0 [] (by omega) (fun k _ _ => TL.no_at (x := t) (y := "..") hy (hn k))
    rw [List.drop_zero, Nat.zero_add, List.drop_length, TL.spl_nil, List.nil_append, List.take_length] at run
    rw [run]
    unfold stF
    rw [e, if_pos (by decide)]
    simp only [List.map_cons, List.map_nil]
    cases numF (mkS t.cps.toList) <;> rfl
  · have hb : i + 2 ≤ t.length := hi.1
    have run := TL.spl_run [46, 46] t.cps.toList i 0 [] (by have := len_list t; omega) (fun k _ k2 => TL.no_at (x := t) (y := "..") hy (hn k (by omega)))
    rw [List.drop_zero, Nat.zero_add, List.nil_append, TL.spl_at (S := [46, 46]) (by simp) ((TL.at_iff (x := t) (y := "..") hy i).mp hi)] at run
    rw [run]
    unfold stF
    rw [e, if_neg (by omega)]
    have e1 : loS t (i : Int) = numF (mkS (t.cps.toList.take i)) := by
      unfold loS
      congr 1
      exact str_ext (by rw [cutS_list, mkS_list, cut_to])
    have e2 : hiS t (i : Int) = numF (mkS (t.cps.toList.drop (i + 2))) := by
      unfold hiS
      congr 1
      exact str_ext (by rw [cutS_list, mkS_list, show (i : Int) + 2 = ((i + 2 : Nat) : Int) by omega, cut_from])
    rw [e1, e2]
    show _ = spanO (((t.cps.toList.take i :: TL.spl [46, 46] 0 [] (t.cps.toList.drop (i + 2))).map mkS).map numF)
    rcases spl_two (t.cps.toList.drop (i + 2)) [] with q | ⟨m, q⟩
    · rw [q]
      simp only [List.map_cons, List.map_nil, List.nil_append]
      cases numF (mkS (t.cps.toList.take i)) with
      | none => rfl
      | some a =>
        cases numF (mkS (t.cps.toList.drop (i + 2))) with
        | none => rfl
        | some b =>
          simp only [spanO]
          by_cases h : b ≤ a
          · rw [if_pos h, if_neg (by omega)]
          · rw [if_neg h, if_pos (by omega)]
    · rw [numF_dot (w := mkS (t.cps.toList.drop (i + 2))) (by rw [mkS_list]; exact m)]
      match hq : TL.spl [46, 46] 0 [] (t.cps.toList.drop (i + 2)), q with
      | a :: b :: r, _ =>
        simp only [List.map_cons]
        cases numF (mkS (t.cps.toList.take i)) <;> cases numF (mkS a) <;> rfl
theorem due_box (t : Str) : dueF t = boxR t := by
  unfold dueF boxR
  rw [show stF = spanR from funext st_span]
theorem negAbs {i : Int} (h : i < 0) : -((i.natAbs : Nat) : Int) = i := by omega
theorem posAbs {i : Int} (h : ¬ i < 0) : ((i.natAbs : Nat) : Int) = i := by omega
/-- what is written is read -/
theorem num_show {i : Int} (h : -1000000000000 ≤ i ∧ i ≤ 1000000000000) : numF (Str.ofString (toString i)) = some i := by
  obtain ⟨cs, h1, h2, h3, h4, h5, h6⟩ := shL_ex i
  have hk := h5 12 (show i.natAbs < 10000000000000 by omega)
  have hne := List.length_pos_iff.mpr h2
  have hfl : (figs (Str.ofString (toString i))).cps.toList = cs := by
    rw [figs_list]
    show (if (shL i).take 1 = [45] then (shL i).drop 1 else shL i) = cs
    rw [h6]
    by_cases hi : i < 0
    · rw [if_pos hi]; simp
    · rw [if_neg hi, if_neg]
      intro z
      cases cs with
      | nil => simp at z
      | cons c r =>
        simp at z
        have := h1 c (by simp)
        omega
  have hv : intText? (Str.ofString (toString i)) = some i := by
    have hlen : (Str.ofString (toString i)).length ≤ 4300 := by have := shL_len (i := i) (by omega); omega
    by_cases hi : i < 0
    · have e : (Str.ofString (toString i)).cps.toList = 45 :: cs := by show shL i = _; rw [h6, if_pos hi]
      rw [PySem.intText_neg e h1 h2 hlen, h3, negAbs hi]
    · have e : (Str.ofString (toString i)).cps.toList = cs := by show shL i = _; rw [h6, if_neg hi]
      rw [PySem.intText_digits (by rw [e]; exact h1) (by rw [e]; exact h2) hlen, e, h3, posAbs hi]
  have hg : goodW (Str.ofString (toString i)) = true := by
    unfold goodW
    have hl : (figs (Str.ofString (toString i))).length = cs.length := by rw [← len_list, hfl]
    rw [hl, hfl]
    have ha : cs.all isFig = true := List.all_eq_true.mpr fun c hc => isFig_iff.mpr (h1 c hc)
    rw [ha]
    simp only [Bool.and_true, Bool.and_eq_true, decide_eq_true_eq, Bool.not_eq_true', Bool.and_eq_false_iff, decide_eq_false_iff_not]
    refine ⟨⟨by omega, by omega⟩, ?_⟩
    rcases h4 with e | ⟨c, r, e, g⟩
    · match cs, e with
      | [c], _ =>
        by_cases hc : c = 48
        · right
          subst hc
          have hz : i.natAbs = 0 := by rw [← h3]; rfl
          have : i = 0 := by omega
          subst this
          intro z; exact z rfl
        · left; simp; exact hc
    · left; rw [e]; simp; omega
  unfold numF
  rw [if_pos hg, hv]
theorem span_show {s : Sn} (hb : Bd s) (h : s.1 < s.2) : spanR (shS s) = some s := by
  obtain ⟨c1, a1, a2, _, _, _, a6⟩ := shL_ex s.1
  obtain ⟨c2, b1, b2, _, _, _, b6⟩ := shL_ex s.2
  have n1 : 46 ∉ shL s.1 := by
    rw [a6]; intro z
    have : 46 ∈ c1 := by split at z <;> simpa using z
    have := a1 46 this; omega
  have n2 : 46 ∉ shL s.2 := by
    rw [b6]; intro z
    have : 46 ∈ c2 := by split at z <;> simpa using z
    have := b1 46 this; omega
  have e : (shS s).cps.toList = shL s.1 ++ ([46, 46] ++ shL s.2) := by
    unfold shS
    show ((_ ++ _ : Array Nat) ++ _).toList = _
    rw [Array.toList_append, Array.toList_append, List.append_assoc]; rfl
  unfold spanR
  rw [split_mk (shS s) ".." (by decide) (by decide +kernel), e]
  show spanO (((TL.spl [46, 46] 0 [] (shL s.1 ++ ([46, 46] ++ shL s.2))).map mkS).map numF) = _
  rw [TL.spl_part1 n1, TL.spl_last1 n2]
  have m1 : mkS (shL s.1) = Str.ofString (toString s.1) := mkS_of _
  have m2 : mkS (shL s.2) = Str.ofString (toString s.2) := mkS_of _
  unfold Bd at hb
  simp only [List.map_cons, List.map_nil, List.nil_append, m1, m2, num_show (i := s.1) (by omega), num_show (i := s.2) (by omega)]
  simp [spanO, h]
theorem no_x {s : Sn} : 120 ∉ (shS s).cps.toList := by
  obtain ⟨c1, a1, _, _, _, _, a6⟩ := shL_ex s.1
  obtain ⟨c2, b1, _, _, _, _, b6⟩ := shL_ex s.2
  have e : (shS s).cps.toList = shL s.1 ++ ([46, 46] ++ shL s.2) := by
    unfold shS
    show ((_ ++ _ : Array Nat) ++ _).toList = _
    rw [Array.toList_append, Array.toList_append, List.append_assoc]; rfl
  rw [e, a6, b6]
  intro z
  simp only [List.mem_append, List.mem_cons, List.not_mem_nil, or_false] at z
  rcases z with z | z | z
  · have : 120 ∈ c1 := by split at z <;> simpa using z
    have := a1 120 this; omega
  · omega
  · have : 120 ∈ c2 := by split at z <;> simpa using z
    have := b1 120 this; omega
theorem box_show {b : List Sn} (h1 : b ≠ []) (h3 : b.length ≤ 3) (hb : ∀ s ∈ b, Bd s) (hv : ∀ s ∈ b, s.1 < s.2) : boxR (shB b) = some b := by
  have es : Txt.split (shB b) "x" = b.map shS := by
    rw [split_mk (shB b) "x" (by decide) (by decide +kernel)]
    have e : (shB b).cps.toList = TL.joinL [120] ((b.map shS).map fun x => x.cps.toList) := by
      unfold shB; rw [TL.join_eq]; exact TL.tl_join "x" (b.map shS)
    rw [e]
    show (TL.spl [120] 0 [] _).map mkS = _
    rw [TL.spl_join (by simpa using h1) (fun p hp => by
      obtain ⟨x, hx, rfl⟩ := List.mem_map.mp hp
      obtain ⟨s, _, rfl⟩ := List.mem_map.mp hx
      exact no_x)]
    rw [List.map_map]
    conv => rhs; rw [← List.map_id (b.map shS)]
    exact List.map_congr_left fun x _ => mkS_of x
  unfold boxR
  rw [es, List.length_map, if_pos h3]
  have : ∀ l : List Sn, (∀ s ∈ l, Bd s) → (∀ s ∈ l, s.1 < s.2) → optAll spanR (l.map shS) = some l := fun l => by
    induction l with
    | nil => intros; rfl
    | cons a r ih =>
      intro g1 g2
      simp only [List.map_cons, optAll]
      rw [span_show (g1 a (by simp)) (g2 a (by simp)), ih (fun s m => g1 s (by simp [m])) (fun s m => g2 s (by simp [m]))]
  exact this b hb hv
end K06
namespace K06
open PySem PySem.Spec PyProof.Rows L2 Dl
section
variable {P : Program} {w : World} {K : PySem.W.Frag} {mg : Str → Option Value} {base : Heap} {A : Ad}
theorem excc_NoBox (T : Tx K mg A) : ExcC K A.c_NoBox := ⟨T.xhg_NoBox, T.xhk_NoBox, T.xhs_NoBox, T.xhd_NoBox, T.xha_NoBox, T.xhn, T.xht, T.xhm_NoBox⟩
/-- what read gives: the box, or a word -/
def dRd (o : Option (List Sn)) : D := match o with
  | some b => dBox b
  | none => .str "refused"
def sp_Lread : DSp := fun ds M Q _ => ∃ d, ds = [d] ∧ ((∃ t : Str, d = .str t ∧ t.length ≤ 100000 ∧ Q (dRd (boxR t)) M) ∨ ∃ n, tyD M d = some n ∧ isB n "str" = false ∧ Q (.str "refused") M)
theorem ok_Lread (T : Tx K mg A) : FnD P w K mg base 5 A.a_Lread A.d_Lread ["_law_thing"] sp_Lread := by
  refine okD T.f_Lread.F sc_Lread (fun ds M Q E h => ?_) fun cdv A' outer s H E ds M Q ED hr h tk hp => ?_
  · obtain ⟨b, rfl, _⟩ := h; rfl
  · obtain ⟨d, rfl, hQ⟩ := h
    refine ⟨_, (qss_cons (qs_set 1 sc_Lread.nd qe_non)
  (qss_cons (qs_set 2 sc_Lread.nd qe_non)
  (qss_cons (qs_try_as 3 sc_Lread.nd tk ⟨by rfl, by decide, .inl T.c_StoreError⟩ rfl rfl (fun W pn xe tkW _ => qsx_one (qsx_set 2 sc_Lread.nd (qex_call (ok_read_box T) (hr.mono (by decide)) (by rfl) T.f_read_box.g T.f_read_box.F.kp T.f_read_box.b tkW (qa_cons (qe_var 0) qa_nil)))) (fun a pn => (qss_one (qs_set 1 sc_Lread.nd (qe_var 3)))))
  (qss_cons (qs_if (qt_isN (qe_var 1)) (qss_one (qs_ret (qe_var 2))) qss_nil)
  (qss_cons (qs_set 4 sc_Lread.nd (qe_callB c_isEv (by rfl) T.b_isinstance PyProof.Rows.boot_isinstance (qa_cons (qe_var 1) (qa_cons (qe_tup (qa_cons (qe_cls (by rfl) T.c_NoJoin) (qa_cons (qe_cls (by rfl) T.c_NoKey) (qa_cons (qe_cls (by rfl) T.c_NoKeys) (qa_cons (qe_cls (by rfl) T.c_NoMoment) (qa_cons (qe_cls (by rfl) T.c_NoName) (qa_cons (qe_cls (by rfl) T.c_NoRow) (qa_cons (qe_cls (by rfl) T.c_NoText) (qa_cons (qe_cls (by rfl) T.c_NoUndo) (qa_cons (qe_cls (by rfl) T.c_NoWord) qa_nil)))))))))) qa_nil))))
  (qss_cons (qs_if (PW.pt (qw_and (qt_val (qe_callB c_isEv (by rfl) T.b_isinstance PyProof.Rows.boot_isinstance (qa_cons (qe_var 1) (qa_cons (qe_cls (by rfl) T.c_NoBox) qa_nil)))) (qw_and (qt_val (qe_callB c_isEv (by rfl) T.b_isinstance PyProof.Rows.boot_isinstance (qa_cons (qe_var 1) (qa_cons (qe_ty (by rfl) T.b_ValueError Dl.boot_ValueError) qa_nil)))) (qw_and1 (qt_not (qt_val (qe_var 4))))))) (qss_one (qs_ret qe_str)) qss_nil)
  (qss_one (qs_ret qe_str)))))))), ?_⟩
    clear tk hp hr
    have key : ∀ EE : DX, (Q (.str "refused") M → EE (.ref A.c_NoBox) none M) → sp_read_box A [d] M (fun x M1 => up Q x M1) EE := fun EE hE => by
      refine ⟨d, rfl, ?_⟩
      rcases hQ with ⟨t, rfl, hl, hq⟩ | ⟨n, h1, h2, hq⟩
      · refine .inl ⟨t, rfl, hl, ?_⟩
        cases e : boxR t with
        | none => rw [e] at hq; exact hE hq
        | some b => rw [e] at hq; exact up.of hq
      · exact .inr ⟨n, h1, h2, hE hq⟩
    walk_at "ds"
    refine key _ fun hq => ⟨M, Sub.refl _, true, T.xm_NoBox_StoreError, fun _ => ?_, fun h => nomatch h⟩
    dsimp only
    intro a ha
    have hM : mup M a (.ev (.ref A.c_NoBox) none) a = some (.ev (.ref A.c_NoBox) none) := mup_same
    simp only [rdIsEv, two, hM]
    refine ⟨excc_NoBox T, [A.c_NoJoin, A.c_NoKey, A.c_NoKeys, A.c_NoMoment, A.c_NoName, A.c_NoRow, A.c_NoText, A.c_NoUndo, A.c_NoWord], false, rfl, T.ka_others, ?_⟩
    refine ⟨excc_NoBox T, true, T.ki_NoBox_NoBox, ?_⟩
    walk_at "ds"
    refine ⟨excc_NoBox T, true, T.ki_NoBox_ValueError, ?_⟩
    walk_at "ds"
    exact up.by (Sub.new ha) hq
end
end K06
namespace K06
open PySem PySem.Spec PyProof.Rows L2 Dl
section
variable {P : Program} {w : World} {K : PySem.W.Frag} {mg : Str → Option Value} {base : Heap} {A : Ad}
theorem optAll_len {α β : Type} {f : α → Option β} : ∀ {l : List α} {ys : List β}, optAll f l = some ys → ys.length = l.length
  | [], ys, h => by simp [optAll] at h; subst h; rfl
  | a :: r, ys, h => by
    simp only [optAll] at h
    cases e1 : f a with
    | none => rw [e1] at h; cases h
    | some y =>
      cases e2 : optAll f r with
      | none => rw [e1, e2] at h; cases h
      | some zs =>
        rw [e1, e2] at h
        simp at h
        subst h
        simp [optAll_len e2]
theorem box_len {t : Str} {b : List Sn} (h : boxR t = some b) : 1 ≤ b.length ∧ b.length ≤ 3 := by
  unfold boxR at h
  split at h
  · rename_i h3
    rw [optAll_len h]
    refine ⟨?_, h3⟩
    rw [split_mk t "x" (by decide) (by decide +kernel), List.length_map]
    exact spl_ne _ _ _ _
  · cases h
def sp_Lright : DSp := fun ds M Q _ => ∃ t : Str, ds = [.str t] ∧ t.length ≤ 50000 ∧ Q (.bl true) M
theorem ok_Lright (T : Tx K mg A) : FnD P w K mg base 6 A.a_Lright A.d_Lright ["_law_text"] sp_Lright := by
  refine okD T.f_Lright.F sc_Lright (fun ds M Q E h => ?_) fun cdv A' outer s H E ds M Q ED hr h tk hp => ?_
  · obtain ⟨b, rfl, _⟩ := h; rfl
  · obtain ⟨t, rfl, hl, hQ⟩ := h
    refine ⟨_, (qss_cons (qs_set 1 sc_Lright.nd (qe_call (ok_Ldue T) (hr.mono (by decide)) (by rfl) T.f_Ldue.g T.f_Ldue.F.kp T.f_Ldue.b .nil dd0 (qa_cons (qe_var 0) qa_nil)))
  (qss_cons (qs_if (qt_isN (qe_var 1)) (qss_one (qs_ret (qe_cmp (o_eq hr.units) (qe_call (ok_Lread T) (hr.mono (by decide)) (by rfl) T.f_Lread.g T.f_Lread.F.kp T.f_Lread.b .nil dd0 (qa_cons (qe_var 0) qa_nil)) qe_str (nomark _)))) qss_nil)
  (qss_cons (qs_if (qt_cmp o_gt (qe_callB (c_maxL rfl) (by rfl) T.b_max PyProof.Rows.boot_max (qa_cons (qe_lc (own := [("_law_low", 3), ("_law_high", 4)]) (g := (dgTup 2 (dgCons (dgName 3) (dgCons (dgName 4) dgNil)))) (tt := dYes) rfl sc_Lright.nd (qi_any (qe_var 1)) (blkOk_by (own := [("_law_low", 3), ("_law_high", 4)]) (N := ["_law_text", "_law_due_here", "_law_found", "_law_low", "_law_high"]) (sc := defScope s_Lright) (by decide +kernel)) (fun _ _ _ _ _ => (qv_tup (n := 2) rfl (qvs_cons (qv_name 3 sc_Lright.nd) (qvs_cons (qv_name 4 sc_Lright.nd) qvs_nil)))) (fun _ _ _ _ _ => qts_nil) (fun _ _ _ _ _ => (qe_callB (c_max2 rfl) (by rfl) T.b_max PyProof.Rows.boot_max (qa_cons (qe_var 4) (qa_cons (qe_op o_sub qe_int (qe_var 3)) qa_nil))))) qa_nil)) (qe_op o_pow qe_int qe_int) (nomark _)) (qss_one (qs_ret qe_bl)) qss_nil)
  (qss_cons (qs_set 2 sc_Lright.nd (qe_call (ok_Lread T) (hr.mono (by decide)) (by rfl) T.f_Lread.g T.f_Lread.F.kp T.f_Lread.b .nil dd0 (qa_cons (qe_var 0) qa_nil)))
  (qss_cons (qs_if (PW.pt (qw_or (qt_not (qt_val (qe_callB c_isi (by rfl) T.b_isinstance PyProof.Rows.boot_isinstance (qa_cons (qe_var 2) (qa_cons (qe_ty (by rfl) T.b_tuple PyProof.Rows.boot_tuple) qa_nil))))) (qw_or1 (qt_cmp (o_ne hr.units) (qe_var 2) (qe_var 1) (nomark _))))) (qss_one (qs_ret qe_bl)) qss_nil)
  (qss_cons (qs_for hp rfl (qi_any (qe_var 2)) (qg_tup (n := 2) rfl (qgs_cons (qg_name 3 sc_Lright.nd) (qgs_cons (qg_name 4 sc_Lright.nd) qgs_nil))) (qss_one (qs_if (PW.pt (qw_or (qt_not (qt_val (qe_callB c_isi (by rfl) T.b_isinstance PyProof.Rows.boot_isinstance (qa_cons (qe_var 3) (qa_cons (qe_ty (by rfl) T.b_int PyProof.Rows.boot_int) qa_nil))))) (qw_or (qt_not (qt_val (qe_callB c_isi (by rfl) T.b_isinstance PyProof.Rows.boot_isinstance (qa_cons (qe_var 4) (qa_cons (qe_ty (by rfl) T.b_int PyProof.Rows.boot_int) qa_nil))))) (qw_or (qt_val (qe_callB c_isi (by rfl) T.b_isinstance PyProof.Rows.boot_isinstance (qa_cons (qe_var 3) (qa_cons (qe_ty (by rfl) T.b_bool PyProof.Rows.boot_bool) qa_nil)))) (qw_or1 (qt_val (qe_callB c_isi (by rfl) T.b_isinstance PyProof.Rows.boot_isinstance (qa_cons (qe_var 4) (qa_cons (qe_ty (by rfl) T.b_bool PyProof.Rows.boot_bool) qa_nil))))))))) (qss_one (qs_ret qe_bl)) qss_nil)))
  (qss_one (qs_ret qe_bl)))))))), ?_⟩
    clear tk hp hr
    walk_at "ds"
    refine ⟨t, rfl, hl, ?_⟩
    rw [due_box]
    cases e : boxR t with
    | none =>
      simp only [dBx]
      walk_at "ds"
      refine ⟨_, rfl, .inl ⟨t, rfl, by omega, ?_⟩⟩
      rw [e]
      exact up.of hQ
    | some b =>
      simp only [dBx, dBox]
      have hbl : 1 ≤ b.length ∧ b.length ≤ 3 := box_len e
      walk_at "ds"
      intro p hp
      refine lc_pure dSpan (fun s => D.int (max s.2 (0 - s.1))) _ _ (fun _ => trivial) (by show 0 + _ ≤ _; omega) (fun s hs acc R hR => ?_) ?_
      · simp only [dSpan]
        walk_at "ds"
        exact hR
      · walk_at "ds"
        rw [maps_int]
        refine ⟨by rw [List.length_map]; omega, fun m hm hmx => ?_⟩
        have hS : Dl.Sub M (mup M p (.lst (b.map fun s => D.int (max s.2 (0 - s.1))))) := Sub.new hp
        by_cases h12 : 1000000000000 < m
        · rw [if_pos h12]
          exact up.by hS hQ
        · rw [if_neg h12]
          refine ⟨_, rfl, .inl ⟨t, rfl, by omega, ?_⟩⟩
          rw [e]
          simp only [dRd, dBox]
          rw [if_neg (by decide)]
          have hpl : Pln 60 (.tup (b.map dSpan)) := by
            simp only [Pln]
            intro d hd
            obtain ⟨y, _, rfl⟩ := List.mem_map.mp hd
            simp only [dSpan, Pln]
            intro e he
            simp at he
            rcases he with rfl | rfl <;> simp [Pln]
          refine ⟨_, _, Dn.pl hpl, Dn.pl hpl, ?_⟩
          rw [PySem.SeqAt.eqv_refl _ hpl.ok.2.1, Bool.not_true, if_neg Bool.false_ne_true]
          refine loop_inv dSpan b (fun i δ M' => (∃ x y : Option D, δ = [some (.str t), some (.tup (b.map dSpan)), some (.tup (b.map dSpan)), x, y]) ∧ Dl.Sub M M') (fun _ _ _ _ _ => trivial) ?_ ?_ ⟨⟨_, _, rfl⟩, hS⟩
          · rintro i s δ M' R hi hR ⟨⟨x, y, rfl⟩, hS'⟩
            simp only [dSpan]
            walk_at "ds"
            exact hR _ _ ⟨⟨_, _, rfl⟩, hS'⟩
          · rintro δ M' ⟨⟨x, y, rfl⟩, hS'⟩
            walk_at "ds"
            exact up.by hS' hQ
end
end K06
namespace K06
open PySem PySem.Spec PyProof.Rows L2 Dl
section
variable {P : Program} {w : World} {K : PySem.W.Frag} {mg : Str → Option Value} {base : Heap} {A : Ad}
theorem ints_at' {ns : List Int} (j : Nat) (h : j < ns.length) : ∃ n, atI (ns.map D.int) (j : Int) = some (.int n) := by
  rw [atI_nat', List.getElem?_map, List.getElem?_eq_getElem h]
  exact ⟨_, rfl⟩
def sp_Lspoilt : DSp := fun ds M Q _ => ∃ (t : Str) (p : Addr) (ns : List Int), ds = [.str t, .ref p] ∧ M p = some (.lst (ns.map .int)) ∧ 7 ≤ ns.length ∧ t.length ≤ 1000 ∧ ∀ t' : Str, t'.length ≤ t.length + 20 → Q (.str t') M
theorem ok_Lspoilt (T : Tx K mg A) : FnD P w K mg base 1 A.a_Lspoilt A.d_Lspoilt ["_law_text", "_law_xs"] sp_Lspoilt := by
  refine okD T.f_Lspoilt.F sc_Lspoilt (fun ds M Q E h => ?_) fun cdv A' outer s H E ds M Q ED hr h tk hp => ?_
  · obtain ⟨b, _, _, rfl, _⟩ := h; rfl
  · obtain ⟨t, p, ns, rfl, hM, hns, hl, hQ⟩ := h
    refine ⟨_, (qss_cons (qs_set 2 sc_Lspoilt.nd (qe_lst (qa_cons qe_str (qa_cons qe_str (qa_cons qe_str (qa_cons qe_str (qa_cons qe_str (qa_cons qe_str (qa_cons qe_str (qa_cons qe_str (qa_cons qe_str (qa_cons qe_str (qa_cons qe_str (qa_cons qe_str (qa_cons qe_str (qa_cons qe_str (qa_cons qe_str (qa_cons qe_str (qa_cons qe_str (qa_cons qe_str (qa_cons qe_str qa_nil)))))))))))))))))))))
  (qss_cons (qs_for hp rfl (qi_range1 (by rfl) T.b_range (qa_cons (qe_op o_add qe_int (qe_op o_mod (qe_ix (qe_var 1) qe_int) qe_int)) qa_nil)) (qg_name 3 sc_Lspoilt.nd) (qss_cons (qs_set 4 sc_Lspoilt.nd (qe_op o_mod (qe_ix (qe_var 1) (qe_op o_add qe_int (qe_op o_mulI qe_int (qe_var 3)))) (qe_op o_add (qe_callB c_len (by rfl) T.b_len PySem.boot_len (qa_cons (qe_var 0) qa_nil)) qe_int)))
  (qss_cons (qs_set 5 sc_Lspoilt.nd (qe_ix (qe_var 2) (qe_op o_mod (qe_ix (qe_var 1) (qe_op o_add qe_int (qe_op o_mulI qe_int (qe_var 3)))) qe_int)))
  (qss_one (qs_set 0 sc_Lspoilt.nd (qe_op o_add (qe_op o_add (qe_slice (qe_var 0) qo_none (qo_some (qe_var 4))) (qe_pure (qe_ix (qe_lst (qa_cons qe_str (qa_cons (qe_var 5) (qa_cons (qe_var 5) qa_nil)))) (qe_op o_mod (qe_ix (qe_var 1) (qe_op o_add qe_int (qe_op o_mulI qe_int (qe_var 3)))) qe_int)))) (qe_slice (qe_var 0) (qo_some (qe_op o_add (qe_var 4) (qe_pure (qe_ix (qe_lst (qa_cons qe_int (qa_cons qe_int (qa_cons qe_int qa_nil)))) (qe_op o_mod (qe_ix (qe_var 1) (qe_op o_add qe_int (qe_op o_mulI qe_int (qe_var 3)))) qe_int))))) qo_none)))))))
  (qss_one (qs_ret (qe_var 0))))), ?_⟩
    clear tk hp hr
    walk_at "ds"
    intro f hf
    have npf : p ≠ f := mne hM hf
    obtain ⟨n0, e0⟩ := ints_at' (ns := ns) 0 (by omega)
    rw [lstOf_of (mup_old hM hf)]
    dsimp only
    rw [show atI (ns.map D.int) 0 = some (.int n0) from e0]
    walk_at "ds"
    refine ⟨by omega, ?_⟩
    generalize hLs : ([D.str (Str.ofString "0"), D.str (Str.ofString "1"), D.str (Str.ofString "9"), D.str (Str.ofString "-"), D.str (Str.ofString "."), D.str (Str.ofString ".."), D.str (Str.ofString "x"), D.str (Str.ofString " "), D.str (Str.ofString "+"), D.str (Str.ofString "_"), D.str (Str.ofString "X"), D.str (Str.ofString ","), D.str (Str.ofString "a"), D.str (Str.ofString "00"), D.str (Str.ofString "10"), D.str (Str.ofString "-0"), D.str (Str.ofString "x0..1"), D.str (Str.ofString "e"), D.str (Str.ofString "/")] : List D) = LS
    have hpick : ∀ n : Int, ∃ z : Str, atI LS (n % 19) = some (.str z) ∧ z.length ≤ 5 := fun n => by
      have hx : ∀ k : Nat, k < 19 → ∃ z : Str, LS[k]? = some (.str z) ∧ z.length ≤ 5 := fun k hk => by
        subst hLs
        have : k = 0 ∨ k = 1 ∨ k = 2 ∨ k = 3 ∨ k = 4 ∨ k = 5 ∨ k = 6 ∨ k = 7 ∨ k = 8 ∨ k = 9 ∨ k = 10 ∨ k = 11 ∨ k = 12 ∨ k = 13 ∨ k = 14 ∨ k = 15 ∨ k = 16 ∨ k = 17 ∨ k = 18 := by omega
        rcases this with h | h | h | h | h | h | h | h | h | h | h | h | h | h | h | h | h | h | h <;> subst h <;> exact ⟨_, rfl, by decide⟩
      rw [atI_int _ _ (by omega)]
      exact hx _ (by omega)
    have e : intsD 0 (1 + n0 % 2).toNat = (List.range (1 + n0 % 2).toNat).map fun (i : Nat) => D.int (0 + (i : Int)) := rfl
    rw [e]
    refine loop_inv _ _ (fun i δ M' => (∃ (z : Str) (x3 x4 x5 : Option D), δ = [some (.str z), some (.ref p), some (.ref f), x3, x4, x5] ∧ z.length ≤ t.length + 5 * i) ∧ M' f = some (.lst LS) ∧ M' p = some (.lst (ns.map .int)) ∧ Dl.Sub M M') (fun _ _ _ _ _ => trivial) ?_ ?_ ⟨⟨t, none, none, none, rfl, by omega⟩, mup_same, mup_old hM hf, Sub.new hf⟩
    · rintro i j δ M' R hi hR ⟨⟨z, x3, x4, x5, rfl, hz⟩, hF, hP, hS⟩
      obtain ⟨rfl, hlt⟩ := range_get hi
      have hj : j ≤ 1 := by omega
      obtain ⟨n1, e1⟩ : ∃ n, atI (ns.map D.int) (1 + 3 * (0 + (j : Int))) = some (.int n) := by
        have := ints_at' (ns := ns) (1 + 3 * j) (by omega)
        rwa [show ((1 + 3 * j : Nat) : Int) = 1 + 3 * (0 + (j : Int)) by omega] at this
      obtain ⟨n2, e2⟩ : ∃ n, atI (ns.map D.int) (2 + 3 * (0 + (j : Int))) = some (.int n) := by
        have := ints_at' (ns := ns) (2 + 3 * j) (by omega)
        rwa [show ((2 + 3 * j : Nat) : Int) = 2 + 3 * (0 + (j : Int)) by omega] at this
      obtain ⟨n3, e3⟩ : ∃ n, atI (ns.map D.int) (3 + 3 * (0 + (j : Int))) = some (.int n) := by
        have := ints_at' (ns := ns) (3 + 3 * j) (by omega)
        rwa [show ((3 + 3 * j : Nat) : Int) = 3 + 3 * (0 + (j : Int)) by omega] at this
      obtain ⟨zm, em, hzm⟩ := hpick n2
      walk_at "ds"
      simp only [lstOf_of hP, lstOf_of hF, e1, e2, e3]
      walk_at "ds"
      simp only [em]
      walk_at "ds"
      obtain ⟨k, hk, hkl⟩ : ∃ k : Nat, n1 % ((z.length : Int) + 1) = (k : Int) ∧ k ≤ z.length := by
        have a1 := Int.emod_nonneg n1 (show ((z.length : Int) + 1) ≠ 0 by omega)
        have a2 := Int.emod_lt_of_pos n1 (show (0 : Int) < (z.length : Int) + 1 by omega)
        exact ⟨(n1 % ((z.length : Int) + 1)).toNat, by omega, by omega⟩
      rw [hk]
      have lc1 : (cutS z none (some (k : Int))).length ≤ k := by
        rw [← len_list, cutS_list, cut_to]; simp; omega
      have lc2 : ∀ d : Nat, (cutS z (some ((k : Int) + (d : Int))) none).length ≤ z.length - k := fun d => by
        rw [← len_list, cutS_list, show (k : Int) + (d : Int) = ((k + d : Nat) : Int) by omega, cut_from, ← len_list z]; simp; omega
      refine ⟨by omega, by omega, by omega, fun p1 hp1 => ?_⟩
      rw [lstOf_of (mup_old hP hp1)]
      simp only [e3]
      refine ⟨by omega, ?_⟩
      have fin : ∀ (y : Str) (d : Nat) (x4 x5 : Option D), y.length ≤ 5 → R [some (.str (cutS z none (some (k : Int)) ++ y ++ cutS z (some ((k : Int) + (d : Int))) none)), some (.ref p), some (.ref f), some (.int (0 + (j : Int))), x4, x5] M' := fun y d x4 x5 hy => by
        refine hR _ _ ⟨⟨_, _, _, _, rfl, ?_⟩, hF, hP, hS⟩
        have := lc2 d
        rw [str_len_app, str_len_app]; omega
      have hpr : n3 % 3 = 0 ∨ n3 % 3 = 1 ∨ n3 % 3 = 2 := by omega
      have g0 := lc2 0
      have g1 := lc2 1
      have ly0 : (Str.ofString "").length = 0 := rfl
      rcases hpr with h | h | h <;> rw [h] <;> walk_at "ds" <;> refine ⟨Sub.new hp1, by omega, fun p2 hp2 => ?_⟩ <;> rw [lstOf_of (mup_old hP hp2)] <;> simp only [e3] <;> refine ⟨by omega, ?_⟩ <;> rw [h] <;> walk_at "ds"
      · exact ⟨Sub.new hp2, by omega, by rw [str_len_app]; simp at g1 ⊢; omega, by simpa using fin (Str.ofString "") 1 _ _ (by rw [ly0]; omega)⟩
      · exact ⟨Sub.new hp2, by omega, by rw [str_len_app]; simp at g0 ⊢; omega, by simpa using fin zm 0 _ _ hzm⟩
      · exact ⟨Sub.new hp2, by omega, by rw [str_len_app]; simp at g1 ⊢; omega, by simpa using fin zm 1 _ _ hzm⟩
    · rintro δ M' ⟨⟨z, x3, x4, x5, rfl, hz⟩, hF, hP, hS⟩
      walk_at "ds"
      rw [List.length_range] at hz
      exact up.by hS (hQ z (by omega))
end
end K06
namespace K06
open PySem PySem.Spec PyProof.Rows L2 Dl
theorem strsOf_inv : ∀ {ds : List D} {l : List Str}, strsOf ds = some l → ds = l.map D.str
  | [], l, h => by simp [strsOf] at h; subst h; rfl
  | .str a :: r, l, h => by
    simp only [strsOf, Option.map_eq_some_iff] at h
    obtain ⟨t, h1, rfl⟩ := h
    rw [strsOf_inv h1]; rfl
  | .non :: r, l, h => by simp [strsOf] at h
  | .bl _ :: r, l, h => by simp [strsOf] at h
  | .int _ :: r, l, h => by simp [strsOf] at h
  | .ty _ :: r, l, h => by simp [strsOf] at h
  | .ref _ :: r, l, h => by simp [strsOf] at h
  | .tup _ :: r, l, h => by simp [strsOf] at h
  | .fzl _ :: r, l, h => by simp [strsOf] at h
  | .fzt _ :: r, l, h => by simp [strsOf] at h
theorem shS_sum {b : List Sn} (h : ∀ s ∈ b, Bd s) : ((b.map shS).map (·.length)).sum ≤ b.length * 30 := by
  induction b with
  | nil => simp
  | cons a r ih =>
    have := ih fun s m => h s (by simp [m])
    have := shS_len (h a (by simp))
    simp at *; omega
theorem shB_len {b : List Sn} (h : ∀ s ∈ b, Bd s) : (shB b).length ≤ b.length * 31 := by
  have e := PySem.size_glued "x" (b.map shS)
  have := shS_sum h
  have l3 : (Str.ofString "x").length = 1 := rfl
  have e2 : (shB b).length = _ := e
  rw [e2, List.length_map, l3]
  omega
def fx1 : List Str := ["", "x", "0..1x", "x0..1", "0..0", "1..0", "0...1", "0.1", "..", "0..", "..1", "-0..1", "00..1", "0..01"]
def fx2 : List Str := ["0..1x0..1x0..1x0..1", " 0..1", "0..1 ", "0 ..1", "-1..0", "--1..0", "-..0", "0..12345678901234"]
def fx3 : List Str := ["0..1000000000000", "-1000000000000..0", "0..1..2", "0..1 x0..1", "0..1X0..1", "+0..1", "0..1_0"]
theorem fx_ok : (∀ z ∈ fx1, z.length ≤ 1000) ∧ (∀ z ∈ fx2, z.length ≤ 1000) ∧ (∀ z ∈ fx3, z.length ≤ 1000) := by decide +kernel
section
variable {P : Program} {w : World} {K : PySem.W.Frag} {mg : Str → Option Value} {base : Heap} {A : Ad}
def sp_law : DSp := fun ds M Q _ => ∃ ns : List Int, ds = [.fzl (ns.map .int)] ∧ ns.length ≤ 63 ∧ Q (.bl true) M
theorem ok_law (T : Tx K mg A) : FnD P w K mg base 7 A.a_law A.d_law ["_law_script"] sp_law := by
  refine okD T.f_law.F sc_law (fun ds M Q E h => ?_) fun cdv A' outer s H E ds M Q ED hr h tk hp => ?_
  · obtain ⟨ns, rfl, _⟩ := h; rfl
  · obtain ⟨ns, rfl, hl, hQ⟩ := h
    refine ⟨_, (qss_cons (qs_for hp rfl (qi_any (qe_lst (qa_cons qe_non (qa_cons qe_int (qa_cons qe_bl (qa_cons (qe_lst (qa_cons qe_str qa_nil)) (qa_cons (qe_tup (qa_cons qe_str qa_nil)) (qa_cons (qe_tup (qa_cons (qe_tup (qa_cons qe_int (qa_cons qe_int qa_nil))) qa_nil)) (qa_cons qe_dnewK qa_nil))))))))) (qg_name 1 sc_law.nd) (qss_one (qs_if (qt_cmp (o_ne hr.units) (qe_call (ok_Lread T) (hr.mono (by decide)) (by rfl) T.f_Lread.g T.f_Lread.F.kp T.f_Lread.b .nil dd0 (qa_cons (qe_var 1) qa_nil)) qe_str (nomark _)) (qss_one (qs_ret qe_bl)) qss_nil)))
  (qss_cons (qs_set 2 sc_law.nd (qe_lst (qa_cons qe_str (qa_cons qe_str (qa_cons qe_str (qa_cons qe_str (qa_cons qe_str (qa_cons qe_str (qa_cons qe_str (qa_cons qe_str (qa_cons qe_str (qa_cons qe_str (qa_cons qe_str (qa_cons qe_str (qa_cons qe_str (qa_cons qe_str qa_nil))))))))))))))))
  (qss_cons (qs_set 2 sc_law.nd (qe_op o_add (qe_var 2) (qe_lst (qa_cons qe_str (qa_cons qe_str (qa_cons qe_str (qa_cons qe_str (qa_cons qe_str (qa_cons qe_str (qa_cons qe_str (qa_cons qe_str qa_nil)))))))))))
  (qss_cons (qs_set 2 sc_law.nd (qe_op o_add (qe_var 2) (qe_lst (qa_cons qe_str (qa_cons qe_str (qa_cons qe_str (qa_cons qe_str (qa_cons qe_str (qa_cons qe_str (qa_cons qe_str qa_nil))))))))))
  (qss_cons (qs_if (qt_not (qt_val (qe_callB (c_all rfl) (by rfl) T.b_all PyProof.Rows.boot_all (qa_cons (qe_lc (own := [("_law_text", 6)]) (g := (dgName 6)) (tt := dYes) rfl sc_law.nd (qi_any (qe_var 2)) (blkOk_by (own := [("_law_text", 6)]) (N := ["_law_script", "_law_thing", "_law_fixed", "_law_cell_here", "_law_xs", "_law_box", "_law_text", "_law_k", "_law_low", "_law_high"]) (sc := defScope s_law) (by decide +kernel)) (fun _ _ _ _ _ => (qv_name 6 sc_law.nd)) (fun _ _ _ _ _ => qts_nil) (fun _ _ _ _ _ => (qe_call (ok_Lright T) (hr.mono (by decide)) (by rfl) T.f_Lright.g T.f_Lright.F.kp T.f_Lright.b .nil dd0 (qa_cons (qe_var 6) qa_nil)))) qa_nil)))) (qss_one (qs_ret qe_bl)) qss_nil)
  (qss_cons (qs_for hp rfl (qi_any (qe_op o_add (qe_lst (qa_cons (qe_call (ok_Lcell T) (hr.mono (by decide)) (by rfl) T.f_Lcell.g T.f_Lcell.F.kp T.f_Lcell.b .nil dd0 (qa_cons (qe_var 0) (qa_cons qe_int qa_nil))) qa_nil)) (qe_slice (qe_var 0) (qo_some qe_int) (qo_some qe_int)))) (qg_name 3 sc_law.nd) (qss_cons (qs_set 4 sc_law.nd (qe_call (ok_Lnumbers T) (hr.mono (by decide)) (by rfl) T.f_Lnumbers.g T.f_Lnumbers.F.kp T.f_Lnumbers.b .nil dd0 (qa_cons (qe_var 3) (qa_cons qe_int qa_nil))))
  (qss_cons (qs_set 5 sc_law.nd (qe_callTy c_tuple (by rfl) T.b_tuple PyProof.Rows.boot_tuple (qa_cons (qe_lc (own := [("_law_k", 7)]) (g := (dgName 7)) (tt := dYes) rfl sc_law.nd (qi_range1 (by rfl) T.b_range (qa_cons (qe_op o_add qe_int (qe_op o_mod (qe_ix (qe_var 4) qe_int) qe_int)) qa_nil)) (blkOk_by (own := [("_law_k", 7)]) (N := ["_law_script", "_law_thing", "_law_fixed", "_law_cell_here", "_law_xs", "_law_box", "_law_text", "_law_k", "_law_low", "_law_high"]) (sc := defScope s_law) (by decide +kernel)) (fun _ _ _ _ _ => (qv_name 7 sc_law.nd)) (fun _ _ _ _ _ => qts_nil) (fun _ _ _ _ _ => (qe_call (ok_Lone_span T) (hr.mono (by decide)) (by rfl) T.f_Lone_span.g T.f_Lone_span.F.kp T.f_Lone_span.b .nil dd0 (qa_cons (qe_ix (qe_var 4) (qe_op o_add qe_int (qe_op o_mulI qe_int (qe_var 7)))) (qa_cons (qe_ix (qe_var 4) (qe_op o_add qe_int (qe_op o_mulI qe_int (qe_var 7)))) (qa_cons (qe_ix (qe_var 4) qe_int) qa_nil)))))) qa_nil)))
  (qss_cons (qs_set 6 sc_law.nd (qe_join qe_str (qe_lc (own := [("_law_low", 8), ("_law_high", 9)]) (g := (dgTup 2 (dgCons (dgName 8) (dgCons (dgName 9) dgNil)))) (tt := dYes) rfl sc_law.nd (qi_any (qe_var 5)) (blkOk_by (own := [("_law_low", 8), ("_law_high", 9)]) (N := ["_law_script", "_law_thing", "_law_fixed", "_law_cell_here", "_law_xs", "_law_box", "_law_text", "_law_k", "_law_low", "_law_high"]) (sc := defScope s_law) (by decide +kernel)) (fun _ _ _ _ _ => (qv_tup (n := 2) rfl (qvs_cons (qv_name 8 sc_law.nd) (qvs_cons (qv_name 9 sc_law.nd) qvs_nil)))) (fun _ _ _ _ _ => qts_nil) (fun _ _ _ _ _ => (qe_op o_add (qe_op o_add (qe_callTy c_strI (by rfl) T.b_str PyProof.Rows.boot_str (qa_cons (qe_var 8) qa_nil)) qe_str) (qe_callTy c_strI (by rfl) T.b_str PyProof.Rows.boot_str (qa_cons (qe_var 9) qa_nil)))))))
  (qss_one (qs_if (PW.pt (qw_or (qt_cmp (o_ne hr.units) (qe_call (ok_show_box T) (hr.mono (by decide)) (by rfl) T.f_show_box.g T.f_show_box.F.kp T.f_show_box.b .nil dd0 (qa_cons (qe_var 5) qa_nil)) (qe_var 6) (nomark _)) (qw_or (qt_cmp (o_ne hr.units) (qe_callX (ok_read_box T) (hr.mono (by decide)) (by rfl) T.f_read_box.g T.f_read_box.F.kp T.f_read_box.b .nil dd0 tk (qa_cons (qe_var 6) qa_nil)) (qe_var 5) (nomark _)) (qw_or1 (qt_not (qt_val (qe_call (ok_Lright T) (hr.mono (by decide)) (by rfl) T.f_Lright.g T.f_Lright.F.kp T.f_Lright.b .nil dd0 (qa_cons (qe_call (ok_Lspoilt T) (hr.mono (by decide)) (by rfl) T.f_Lspoilt.g T.f_Lspoilt.F.kp T.f_Lspoilt.b .nil dd0 (qa_cons (qe_var 6) (qa_cons (qe_slice (qe_var 4) (qo_some qe_int) qo_none) qa_nil))) qa_nil)))))))) (qss_one (qs_ret qe_bl)) qss_nil))))))
  (qss_one (qs_ret qe_bl)))))))), ?_⟩
    clear tk hp hr
    refine seq_cut (fun δ' M' => (∃ x1 x2 x3 x4 x5 x6 x7 x8 x9 : Option D, δ' = [some (.fzl (ns.map .int)), x1, x2, x3, x4, x5, x6, x7, x8, x9]) ∧ Dl.Sub M M') (fun R hR => ?_) ?_
    · walk_at "ds"
      intro p hp p1 hp1 p2 hp2
      have hS : Dl.Sub M (mup (mup (mup M p (.lst [.str (Str.ofString "0..1")])) p1 (.dK [])) p2 (.lst [.non, .int 3, .bl true, .ref p, .tup [.str (Str.ofString "0..1")], .tup [.tup [.int 0, .int 1]], .ref p1])) :=
        (Sub.new hp).trans ((Sub.new (by rw [mup_ne hp1.1]; exact hp1.2)).trans (Sub.new (by rw [mup_ne hp2.1, mup_ne hp2.2.1]; exact hp2.2.2)))
      have hty : ∀ d ∈ ([.non, .int 3, .bl true, .ref p, .tup [.str (Str.ofString "0..1")], .tup [.tup [.int 0, .int 1]], .ref p1] : List D), ∃ n, tyD (mup (mup (mup M p (.lst [.str (Str.ofString "0..1")])) p1 (.dK [])) p2 (.lst [.non, .int 3, .bl true, .ref p, .tup [.str (Str.ofString "0..1")], .tup [.tup [.int 0, .int 1]], .ref p1])) d = some n ∧ isB n "str" = false := fun d hd => by
        simp only [List.mem_cons, List.not_mem_nil, or_false] at hd
        rcases hd with rfl | rfl | rfl | rfl | rfl | rfl | rfl
        · exact ⟨_, rfl, by decide⟩
        · exact ⟨_, rfl, by decide⟩
        · exact ⟨_, rfl, by decide⟩
        · refine ⟨"list", ?_, by decide⟩
          simp only [tyD]
          rw [mup_ne (Ne.symm hp2.2.1), mup_ne (Ne.symm hp1.1), mup_same]
        · exact ⟨_, rfl, by decide⟩
        · exact ⟨_, rfl, by decide⟩
        · refine ⟨"dict", ?_, by decide⟩
          simp only [tyD]
          rw [mup_ne (Ne.symm hp2.1), mup_same]
      have hat : isL p2 [.non, .int 3, .bl true, .ref p, .tup [.str (Str.ofString "0..1")], .tup [.tup [.int 0, .int 1]], .ref p1] (mup (mup (mup M p (.lst [.str (Str.ofString "0..1")])) p1 (.dK [])) p2 (.lst [.non, .int 3, .bl true, .ref p, .tup [.str (Str.ofString "0..1")], .tup [.tup [.int 0, .int 1]], .ref p1])) := mup_same
      revert hS hty hat
      generalize (mup (mup (mup M p (.lst [.str (Str.ofString "0..1")])) p1 (.dK [])) p2 (.lst [.non, .int 3, .bl true, .ref p, .tup [.str (Str.ofString "0..1")], .tup [.tup [.int 0, .int 1]], .ref p1])) = M3
      generalize ([.non, .int 3, .bl true, .ref p, .tup [.str (Str.ofString "0..1")], .tup [.tup [.int 0, .int 1]], .ref p1] : List D) = LS
      intro hS hty hat
      refine Eq.mp (congrArg (fun l => dLoop _ _ _ _ l _ _) (List.map_id LS)) ?_
      refine loop_inv id LS (fun i δ M' => (∃ x1 : Option D, δ = [some (.fzl (ns.map .int)), x1, none, none, none, none, none, none, none, none]) ∧ M' = M3) (fun _ _ M' _ h => by rw [h.2, List.map_id]; exact hat) ?_ ?_ ⟨⟨_, rfl⟩, rfl⟩
      · rintro i d δ M' R' hi hR' ⟨⟨x1, rfl⟩, rfl⟩
        walk_at "ds"
        refine ⟨d, rfl, .inr ?_⟩
        obtain ⟨n, h1, h2⟩ := hty d (List.mem_of_getElem? hi)
        refine ⟨n, h1, h2, ?_⟩
        walk_at "ds"
        exact hR' _ _ ⟨⟨_, rfl⟩, rfl⟩
      · rintro δ M' ⟨⟨x1, rfl⟩, rfl⟩
        exact hR _ _ ⟨⟨_, _, _, _, _, _, _, _, _, rfl⟩, hS⟩
    · rintro δ' M' ⟨⟨x1, x2, x3, x4, x5, x6, x7, x8, x9, rfl⟩, hS⟩
      refine seq_cut (fun δ' M1 => ∃ (f : Addr) (l : List Str), δ' = [some (.fzl (ns.map .int)), x1, some (.ref f), x3, x4, x5, x6, x7, x8, x9] ∧ M1 f = some (.lst (l.map D.str)) ∧ l.length ≤ 100 ∧ (∀ z ∈ l, z.length ≤ 1000) ∧ Dl.Sub M M1) (fun R hR => ?_) ?_
      · walk_at "ds"
        intro f hf
        exact hR _ _ ⟨f, fx1, rfl, by rw [mup_same]; rfl, by decide, fx_ok.1, hS.trans (Sub.new hf)⟩
      rintro δ' M1 ⟨f, l, rfl, hf, hl1, hl2, hS1⟩
      refine seq_cut (fun δ' M1 => ∃ (f : Addr) (l : List Str), δ' = [some (.fzl (ns.map .int)), x1, some (.ref f), x3, x4, x5, x6, x7, x8, x9] ∧ M1 f = some (.lst (l.map D.str)) ∧ l.length ≤ 200 ∧ (∀ z ∈ l, z.length ≤ 1000) ∧ Dl.Sub M M1) (fun R hR => ?_) ?_
      · walk_at "ds"
        intro g hg
        rw [lstOf_of (mup_old hf hg)]
        dsimp only
        rw [List.length_map]
        refine ⟨by simp; omega, fun h hh => hR _ _ ⟨h, l ++ fx2, rfl, ?_, ?_, ?_, ?_⟩⟩
        · rw [mup_same, List.map_append]; rfl
        · have : fx2.length ≤ 8 := by decide
          rw [List.length_append]; omega
        · intro z hz
          rcases List.mem_append.mp hz with m | m
          · exact hl2 z m
          · exact fx_ok.2.1 z m
        · exact (hS1.trans (Sub.new hg)).trans (Sub.new (by rw [mup_ne hh.1]; exact hh.2))
      rintro δ' M1 ⟨f, l, rfl, hf, hl1, hl2, hS1⟩
      refine seq_cut (fun δ' M1 => ∃ (f : Addr) (l : List Str), δ' = [some (.fzl (ns.map .int)), x1, some (.ref f), x3, x4, x5, x6, x7, x8, x9] ∧ M1 f = some (.lst (l.map D.str)) ∧ l.length ≤ 300 ∧ (∀ z ∈ l, z.length ≤ 1000) ∧ Dl.Sub M M1) (fun R hR => ?_) ?_
      · walk_at "ds"
        intro g hg
        rw [lstOf_of (mup_old hf hg)]
        dsimp only
        rw [List.length_map]
        refine ⟨by simp; omega, fun h hh => hR _ _ ⟨h, l ++ fx3, rfl, ?_, ?_, ?_, ?_⟩⟩
        · rw [mup_same, List.map_append]; rfl
        · have : fx3.length ≤ 8 := by decide
          rw [List.length_append]; omega
        · intro z hz
          rcases List.mem_append.mp hz with m | m
          · exact hl2 z m
          · exact fx_ok.2.2 z m
        · exact (hS1.trans (Sub.new hg)).trans (Sub.new (by rw [mup_ne hh.1]; exact hh.2))
      rintro δ' M1 ⟨f, l, rfl, hf, hl1, hl2, hS1⟩
      refine seq_cut (fun δ' M1 => (∃ x1 x2 x3 x4 x5 x6 x7 x8 x9 : Option D, δ' = [some (.fzl (ns.map .int)), x1, x2, x3, x4, x5, x6, x7, x8, x9]) ∧ Dl.Sub M M1) (fun R hR => ?_) ?_
      · walk_at "ds"
        rw [lstOf_of hf]
        dsimp only
        intro g hg
        refine lc_pure D.str (fun _ => D.bl true) _ _ (fun _ => by unfold isL; exact mup_old hf hg) (by show 0 + _ ≤ _; omega) (fun z hz acc R' hR' => ?_) ?_
        · walk_at "ds"
          exact ⟨z, rfl, by have := hl2 z hz; omega, hR'⟩
        · walk_at "ds"
          rw [maps_bl]
          dsimp only
          have : (l.map fun _ => true).all id = true := by simp
          rw [this]
          simp only [Bool.not_true, Bool.false_eq_true, if_false]
          exact hR _ _ ⟨⟨_, _, _, _, _, _, _, _, _, rfl⟩, hS1.trans (Sub.new hg)⟩
      rintro δ' M1 ⟨⟨x1, x2, x3, x4, x5, x6, x7, x8, x9, rfl⟩, hS1⟩
      walk_at "ds"
      refine ⟨ns, 0, rfl, by omega, by omega, fun p1 hp1 p2 hp2 => ?_⟩
      obtain ⟨n21, hp2⟩ := hp2
      have hcut : ∃ xs : List Int, Dl.cutD (ns.map D.int) (some 1) (some 12) = xs.map D.int ∧ xs.length ≤ 63 := by
        rw [cut_map]
        refine ⟨_, rfl, ?_⟩
        show (Dl.cutD ns (some ((1 : Nat) : Int)) (some ((12 : Nat) : Int))).length ≤ 63
        rw [cut_both]
        simp; omega
      obtain ⟨xs, ex, hx⟩ := hcut
      rw [ex, lstOf_of (ds := [.int (cellF ns 0)]) (by rw [mup_ne (Ne.symm n21), mup_same])]
      simp only
      refine ⟨by simp; omega, fun p3 hp3 => ?_⟩
      have ecs : [D.int (cellF ns 0)] ++ xs.map D.int = (cellF ns 0 :: xs).map D.int := rfl
      rw [ecs]
      have hS3 : Dl.Sub M (mup (mup (mup M1 p1 (.lst [.int (cellF ns 0)])) p2 (.lst (xs.map D.int))) p3 (.lst ((cellF ns 0 :: xs).map D.int))) :=
        hS1.trans ((Sub.new hp1).trans ((Sub.new (by rw [mup_ne n21]; exact hp2)).trans (Sub.new (by rw [mup_ne hp3.1, mup_ne hp3.2.1]; exact hp3.2.2))))
      refine loop_inv _ _ (fun i δ M' => (∃ x1 x2 x3 x4 x5 x6 x7 x8 x9 : Option D, δ = [some (.fzl (ns.map .int)), x1, x2, x3, x4, x5, x6, x7, x8, x9]) ∧ M' p3 = some (.lst ((cellF ns 0 :: xs).map D.int)) ∧ Dl.Sub M M') (fun _ _ _ _ h => h.2.1) ?_ ?_ ⟨⟨_, _, _, _, _, _, _, _, _, rfl⟩, by rw [mup_same], hS3⟩
      · rintro i cv δ M2 R hi hR ⟨⟨x1, x2, x3, x4, x5, x6, x7, x8, x9, rfl⟩, hM3, hS⟩
        refine seq_gen2 fun R' hR' => ?_
        have hK : ∀ δ' M', (∃ (q : Addr) (b : List Sn) (x6 x7 x8 x9 : Option D), δ' = [some (.fzl (ns.map .int)), x1, x2, some (.int cv), some (.ref q), some (dBox b), x6, x7, x8, x9] ∧ M' q = some (.lst ((numsF cv 16).map D.int)) ∧ b ≠ [] ∧ b.length ≤ 3 ∧ (∀ s ∈ b, V0 s) ∧ Dl.Sub M2 M') → R' δ' M' := by
          rintro δ' M4 ⟨q, b, x6, x7, x8, x9, rfl, hq, hb1, hb3, hbv, hS4⟩
          refine hR' _ _ ?_
          have hBd : ∀ s ∈ b, Bd s := fun s hs => by have := hbv s hs; unfold V0 at this; unfold Bd; omega
          have hlt : ∀ s ∈ b, s.1 < s.2 := fun s hs => (hbv s hs).1
          simp only [dBox]
          walk_at "ds"
          intro p hp
          refine lc_pure dSpan (fun s => D.str (shS s)) _ _ (fun _ => trivial) (by show 0 + _ ≤ _; omega) (fun s hs acc R hR => ?_) ?_
          · have hbs := hBd s hs
            unfold Bd at hbs
            have l1 := shL_len (i := s.1) (by omega)
            have l2 := shL_len (i := s.2) (by omega)
            have l3 : (Str.ofString "..").length = 2 := rfl
            simp only [dSpan]
            walk_at "ds"
            exact ⟨bits (by omega), by omega, bits (by omega), by rw [str_len_app]; omega, hR⟩
          · walk_at "ds"
            have e : strsOf (b.map fun s => D.str (shS s)) = some (b.map shS) := by
              have := strsOf_map (b.map shS)
              rwa [List.map_map] at this
            rw [e]
            dsimp only
            have hlen := shB_len hBd
            have hsum := shS_sum hBd
            have l3 : (Str.ofString "x").length = 1 := rfl
            refine ⟨by rw [List.length_map, l3]; omega, b, rfl, hb3, hBd, ?_⟩
            have e1 : Txt.join (Str.ofString "x") (b.map shS) = shB b := rfl
            rw [e1]
            simp only [decide_true, Bool.not_true, Bool.false_eq_true, if_false]
            refine ⟨_, rfl, .inl ⟨shB b, rfl, by omega, ?_⟩⟩
            rw [box_show hb1 hb3 hBd hlt]
            dsimp only
            have hpl : Pln 60 (.tup (b.map dSpan)) := by
              simp only [Pln]
              intro d hd
              obtain ⟨y, _, rfl⟩ := List.mem_map.mp hd
              simp only [dSpan, Pln]
              intro e he
              simp at he
              rcases he with rfl | rfl <;> simp [Pln]
            refine ⟨_, _, Dn.pl hpl, Dn.pl hpl, ?_⟩
            have eqq : (py (dBox b)).eqv (py (.tup (b.map dSpan))) = true := PySem.SeqAt.eqv_refl _ hpl.ok.2.1
            rw [eqq, Bool.not_true, if_neg Bool.false_ne_true, lstOf_of (mup_old hq hp)]
            dsimp only
            intro p8 hp8
            have ecut : Dl.cutD ((numsF cv 16).map D.int) (some 8) none = ((numsF cv 16).drop 8).map D.int := by
              rw [cut_map]; exact congrArg _ (cut_from _ 8)
            rw [ecut]
            have h8p : p ≠ p8 := fun e => by subst e; rw [mup_same] at hp8; cases hp8
            refine ⟨shB b, p8, (numsF cv 16).drop 8, rfl, mup_same, by rw [List.length_drop, numsF_len]; omega, by omega, fun t' ht' => ⟨t', rfl, by omega, ?_⟩⟩
            walk_at "ds"
            have hS5 : Dl.Sub M2 (mup (mup M4 p (.lst (b.map fun s => D.str (shS s)))) p8 (.lst (((numsF cv 16).drop 8).map D.int))) := hS4.trans ((Sub.new hp).trans (Sub.new hp8))
            exact hR _ _ ⟨⟨_, _, _, _, _, _, _, _, _, rfl⟩, hS5 _ _ hM3, hS.trans hS5⟩
        walk_at "ds"
        refine ⟨cv, 16, rfl, by omega, fun q hq => ?_⟩
        walk_at "ds"
        have hnl : (numsF cv 16).length = 16 := numsF_len cv 16
        obtain ⟨n0, e0⟩ := ints_at' (ns := numsF cv 16) 0 (by omega)
        obtain ⟨n7, e7⟩ := ints_at' (ns := numsF cv 16) 7 (by omega)
        rw [show atI ((numsF cv 16).map D.int) 0 = some (.int n0) from e0]
        dsimp only
        have e : intsD 0 (1 + n0 % 3).toNat = (List.range (1 + n0 % 3).toNat).map fun (i : Nat) => D.int (0 + (i : Int)) := rfl
        rw [e]
        refine ⟨by omega, by omega, fun p hp => ?_⟩
        refine lc_inv _ _ (fun i acc M' => ∃ L : List Sn, L.length = i ∧ acc = L.map dSpan ∧ (∀ s ∈ L, V0 s) ∧ M' = mup (mup M2 q (.lst ((numsF cv 16).map D.int))) p (.lst acc)) (fun _ _ _ _ _ => trivial) ?_ ?_ ⟨[], rfl, rfl, by simp, rfl⟩
        · rintro i j acc M' R hi ⟨L, hl', rfl, hL, rfl⟩ hR
          obtain ⟨rfl, hlt⟩ := range_get hi
          obtain ⟨n1, e1⟩ : ∃ n, atI ((numsF cv 16).map D.int) (1 + 2 * (0 + (j : Int))) = some (.int n) := by
            have := ints_at' (ns := numsF cv 16) (1 + 2 * j) (by omega)
            rwa [show ((1 + 2 * j : Nat) : Int) = 1 + 2 * (0 + (j : Int)) by omega] at this
          obtain ⟨n2, e2⟩ : ∃ n, atI ((numsF cv 16).map D.int) (2 + 2 * (0 + (j : Int))) = some (.int n) := by
            have := ints_at' (ns := numsF cv 16) (2 + 2 * j) (by omega)
            rwa [show ((2 + 2 * j : Nat) : Int) = 2 + 2 * (0 + (j : Int)) by omega] at this
          have hqM : (mup (mup M2 q (.lst ((numsF cv 16).map D.int))) p (.lst (L.map dSpan))) q = some (.lst ((numsF cv 16).map D.int)) := by rw [mup_ne (Ne.symm hp.1), mup_same]
          walk_at "ds"
          simp only [lstOf_of hqM, e1, e2, show atI ((numsF cv 16).map D.int) 7 = some (.int n7) from e7]
          refine ⟨n1, n2, n7, rfl, fun s hs => ?_⟩
          refine hR _ _ mup_same (by rw [List.length_map]; omega) ⟨L ++ [s], by simp [hl'], by simp, ?_, by rw [mup_mup]⟩
          intro x hx
          rcases List.mem_append.mp hx with m | m
          · exact hL x m
          · simp at m; subst m; exact hs
        · rintro acc M' ⟨L, hl', rfl, hL, rfl⟩
          rw [List.length_range] at hl'
          walk_at "ds"
          refine hK _ _ ⟨q, L, _, _, _, _, rfl, by rw [mup_ne (Ne.symm hp.1), mup_same], ?_, by omega, hL, (Sub.new hq).trans (Sub.new (by rw [mup_ne hp.1]; exact hp.2))⟩
          intro z; subst z; simp at hl'; omega
      · rintro δ M2 ⟨⟨x1, x2, x3, x4, x5, x6, x7, x8, x9, rfl⟩, hM3, hS⟩
        walk_at "ds"
        exact up.by hS hQ
end
end K06
set_option maxHeartbeats 0
namespace K06
open PySem PySem.Spec PyProof.Rows L2 Dl
def dd_is_whole : He.DefD := ⟨("is_whole", none), "is_whole", "is_whole", defArgs s_is_whole, defBody s_is_whole, defScope s_is_whole, [], []⟩
def dd_is_span : He.DefD := ⟨("is_span", none), "is_span", "is_span", defArgs s_is_span, defBody s_is_span, defScope s_is_span, [], []⟩
def dd_number_in : He.DefD := ⟨("number_in", none), "number_in", "number_in", defArgs s_number_in, defBody s_number_in, defScope s_number_in, [], []⟩
def dd_show_span : He.DefD := ⟨("show_span", none), "show_span", "show_span", defArgs s_show_span, defBody s_show_span, defScope s_show_span, [], []⟩
def dd_show_box : He.DefD := ⟨("show_box", none), "show_box", "show_box", defArgs s_show_box, defBody s_show_box, defScope s_show_box, [], []⟩
def dd_read_span : He.DefD := ⟨("read_span", none), "read_span", "read_span", defArgs s_read_span, defBody s_read_span, defScope s_read_span, [], []⟩
def dd_read_box : He.DefD := ⟨("read_box", none), "read_box", "read_box", defArgs s_read_box, defBody s_read_box, defScope s_read_box, [], []⟩
def dd_Lcell : He.DefD := ⟨("_law_cell", none), "_law_cell", "_law_cell", defArgs s_Lcell, defBody s_Lcell, defScope s_Lcell, [], []⟩
def dd_Lnumbers : He.DefD := ⟨("_law_numbers", none), "_law_numbers", "_law_numbers", defArgs s_Lnumbers, defBody s_Lnumbers, defScope s_Lnumbers, [], []⟩
def dd_Lone_span : He.DefD := ⟨("_law_one_span", none), "_law_one_span", "_law_one_span", defArgs s_Lone_span, defBody s_Lone_span, defScope s_Lone_span, [], []⟩
def dd_Lnumber : He.DefD := ⟨("_law_number", none), "_law_number", "_law_number", defArgs s_Lnumber, defBody s_Lnumber, defScope s_Lnumber, [], []⟩
def dd_Lstretch : He.DefD := ⟨("_law_stretch", none), "_law_stretch", "_law_stretch", defArgs s_Lstretch, defBody s_Lstretch, defScope s_Lstretch, [], []⟩
def dd_Ldue : He.DefD := ⟨("_law_due", none), "_law_due", "_law_due", defArgs s_Ldue, defBody s_Ldue, defScope s_Ldue, [], []⟩
def dd_Lread : He.DefD := ⟨("_law_read", none), "_law_read", "_law_read", defArgs s_Lread, defBody s_Lread, defScope s_Lread, [], []⟩
def dd_Lright : He.DefD := ⟨("_law_right", none), "_law_right", "_law_right", defArgs s_Lright, defBody s_Lright, defScope s_Lright, [], []⟩
def dd_Lspoilt : He.DefD := ⟨("_law_spoilt", none), "_law_spoilt", "_law_spoilt", defArgs s_Lspoilt, defBody s_Lspoilt, defScope s_Lspoilt, [], []⟩
def dd_law : He.DefD := ⟨("law", none), "law", "law", defArgs s_law, defBody s_law, defScope s_law, [], []⟩
def fn : List He.DefD := [dd_is_whole, dd_is_span, dd_number_in, dd_show_span, dd_show_box, dd_read_span, dd_read_box, dd_Lcell, dd_Lnumbers, dd_Lone_span, dd_Lnumber, dd_Lstretch, dd_Ldue, dd_Lread, dd_Lright, dd_Lspoilt, dd_law]
def fa : List He.Fa := [.glo "is_whole", .glo "is_span", .glo "number_in", .glo "show_span", .glo "show_box", .glo "read_span", .glo "read_box", .glo "_law_cell", .glo "_law_numbers", .glo "_law_one_span", .glo "_law_number", .glo "_law_stretch", .glo "_law_due", .glo "_law_read", .glo "_law_right", .glo "_law_spoilt", .glo "law", .free "ValueError", .free "abs", .free "all", .free "any", .free "bool", .free "int", .free "isinstance", .free "len", .free "max", .free "range", .free "str", .free "tuple", .glo "NoBox", .glo "NoJoin", .glo "NoKey", .glo "NoKeys", .glo "NoMoment", .glo "NoName", .glo "NoRow", .glo "NoText", .glo "NoUndo", .glo "NoWord", .glo "StoreError", .str "FIGURES" "0123456789", .int "MOST_FIGURES" (13), .int "MOST_KEYS" (3), .exc "NoBox", .exm "NoBox" "StoreError" true]
def exs : List (PySem.W.Frag → Bool) := [fun K => decide (PySem.W.kitOne K (.ref (He.ga K "NoBox")) (.ref (He.ga K "NoBox")) = some true), fun K => decide (PySem.W.kitOne K (.ref (He.ga K "NoBox")) (.type "ValueError") = some true), fun K => decide (PySem.W.kitAny K (.ref (He.ga K "NoBox")) [(.ref (He.ga K "NoJoin")), (.ref (He.ga K "NoKey")), (.ref (He.ga K "NoKeys")), (.ref (He.ga K "NoMoment")), (.ref (He.ga K "NoName")), (.ref (He.ga K "NoRow")), (.ref (He.ga K "NoText")), (.ref (He.ga K "NoUndo")), (.ref (He.ga K "NoWord"))] = some false), fun K => decide (PySem.W.findIn K (.ref (He.ga K "NoBox")) "__getattribute__" = some (some (.builtin "BaseException.__getattribute__"))), fun K => decide (PySem.W.findIn K (.ref (He.ga K "NoBox")) "__getattr__" = some none), fun K => decide (PySem.W.subIn K (.ref (He.ga K "NoBox")) (.type "BaseException") = some true), fun K => decide (PySem.W.hasDictIn K (He.ga K "NoBox") = true), fun K => decide (PySem.W.findIn K (.ref (He.ga K "NoBox")) "__class__" = some (some (.builtin "object.__class__"))), fun K => decide (PySem.W.mroIn K (He.ga K "NoBox") (.type "object") = some true), fun K => decide (PySem.W.specialIn K (.builtin "object.__class__") "__get__" = some (some (.builtin "getset_descriptor.__get__"))), fun K => decide (PySem.W.takesIn K (.builtin "object.__class__") = some true)]
abbrev R : PySem.W.OpenRow := PySem.W.OpenLaw.row PySem.Challenge.rw_twigstore_k06_boxes_as_texts
abbrev hk : PySem.W.Hook := hookDE 4 fa fn exs
def ob (s : PySem.W.SharedT) : He.AlD × Bool := obsDE 4 fa fn exs (HandSHeadRun.getT s)
theorem ob_eq (s : PySem.W.SharedT) : ob s = hk.obs s.abs := obsDE_eq (HandSHeadRun.getT_eq s)
def loose0 : List Str := ["StoreError", "NoBox", "NoMoment", "NoName", "NoUndo", "NoWord", "NoKey", "NoKeys", "NoJoin", "NoText", "NoRow", "is_whole", "is_span", "FIGURES", "MOST_FIGURES", "MOST_KEYS", "number_in", "show_span", "show_box", "read_span", "read_box", "_law_cell", "_law_numbers", "_law_one_span", "_law_number", "_law_stretch", "_law_due", "_law_read", "_law_right", "_law_spoilt"]
def loose : List Str := loose0
theorem run (w : World) : HandSHeadRun.RunEq R (PySem.W.view R.prog [34]) hk ob 8000 loose w := by
  intro os
  kernel_rfl
theorem facts {P : Program} {w : World} {K : PySem.W.Frag} {h : Heap} {mg : Str → Option Value} {f : Addr} (X : K.In h) (G : h.Ns mainGlobals mg) (hfa : mg ("law" : Str) = some (.ref f)) (c : He.SaysD fa fn K) (cx : (exs.all fun f => f K) = true) :
    ∃ fd : FuncData, (∀ (s : Shared) (v : Value), BindsTo s fd ⟨[v], []⟩ [("_law_script", v)]) ∧ ∀ base : Heap, K.In base → base.Ns mainGlobals mg → FnD P w K mg base 7 f fd ["_law_script"] sp_law := by
  obtain ⟨fd_is_whole, F_is_whole⟩ := c.def_ 0 (d := dd_is_whole) rfl
  obtain ⟨fd_is_span, F_is_span⟩ := c.def_ 1 (d := dd_is_span) rfl
  obtain ⟨fd_number_in, F_number_in⟩ := c.def_ 2 (d := dd_number_in) rfl
  obtain ⟨fd_show_span, F_show_span⟩ := c.def_ 3 (d := dd_show_span) rfl
  obtain ⟨fd_show_box, F_show_box⟩ := c.def_ 4 (d := dd_show_box) rfl
  obtain ⟨fd_read_span, F_read_span⟩ := c.def_ 5 (d := dd_read_span) rfl
  obtain ⟨fd_read_box, F_read_box⟩ := c.def_ 6 (d := dd_read_box) rfl
  obtain ⟨fd_Lcell, F_Lcell⟩ := c.def_ 7 (d := dd_Lcell) rfl
  obtain ⟨fd_Lnumbers, F_Lnumbers⟩ := c.def_ 8 (d := dd_Lnumbers) rfl
  obtain ⟨fd_Lone_span, F_Lone_span⟩ := c.def_ 9 (d := dd_Lone_span) rfl
  obtain ⟨fd_Lnumber, F_Lnumber⟩ := c.def_ 10 (d := dd_Lnumber) rfl
  obtain ⟨fd_Lstretch, F_Lstretch⟩ := c.def_ 11 (d := dd_Lstretch) rfl
  obtain ⟨fd_Ldue, F_Ldue⟩ := c.def_ 12 (d := dd_Ldue) rfl
  obtain ⟨fd_Lread, F_Lread⟩ := c.def_ 13 (d := dd_Lread) rfl
  obtain ⟨fd_Lright, F_Lright⟩ := c.def_ 14 (d := dd_Lright) rfl
  obtain ⟨fd_Lspoilt, F_Lspoilt⟩ := c.def_ 15 (d := dd_Lspoilt) rfl
  obtain ⟨fd_law, F_law⟩ := c.def_ 16 (d := dd_law) rfl
  have D_is_whole : Dfn K mg "is_whole" "is_whole" s_is_whole ["thing"] _ fd_is_whole := dfn_of X G F_is_whole (c.fact 0 (f := .glo "is_whole") rfl) fun _ _ _ _ _ _ us hl => match us, hl with | [_], _ => rfl
  have D_is_span : Dfn K mg "is_span" "is_span" s_is_span ["thing"] _ fd_is_span := dfn_of X G F_is_span (c.fact 1 (f := .glo "is_span") rfl) fun _ _ _ _ _ _ us hl => match us, hl with | [_], _ => rfl
  have D_number_in : Dfn K mg "number_in" "number_in" s_number_in ["word"] _ fd_number_in := dfn_of X G F_number_in (c.fact 2 (f := .glo "number_in") rfl) fun _ _ _ _ _ _ us hl => match us, hl with | [_], _ => rfl
  have D_show_span : Dfn K mg "show_span" "show_span" s_show_span ["span"] _ fd_show_span := dfn_of X G F_show_span (c.fact 3 (f := .glo "show_span") rfl) fun _ _ _ _ _ _ us hl => match us, hl with | [_], _ => rfl
  have D_show_box : Dfn K mg "show_box" "show_box" s_show_box ["box"] _ fd_show_box := dfn_of X G F_show_box (c.fact 4 (f := .glo "show_box") rfl) fun _ _ _ _ _ _ us hl => match us, hl with | [_], _ => rfl
  have D_read_span : Dfn K mg "read_span" "read_span" s_read_span ["text"] _ fd_read_span := dfn_of X G F_read_span (c.fact 5 (f := .glo "read_span") rfl) fun _ _ _ _ _ _ us hl => match us, hl with | [_], _ => rfl
  have D_read_box : Dfn K mg "read_box" "read_box" s_read_box ["text"] _ fd_read_box := dfn_of X G F_read_box (c.fact 6 (f := .glo "read_box") rfl) fun _ _ _ _ _ _ us hl => match us, hl with | [_], _ => rfl
  have D_Lcell : Dfn K mg "_law_cell" "_law_cell" s_Lcell ["_law_script", "_law_k"] _ fd_Lcell := dfn_of X G F_Lcell (c.fact 7 (f := .glo "_law_cell") rfl) fun _ _ _ _ _ _ us hl => match us, hl with | [_, _], _ => rfl
  have D_Lnumbers : Dfn K mg "_law_numbers" "_law_numbers" s_Lnumbers ["_law_cell_here", "_law_many"] _ fd_Lnumbers := dfn_of X G F_Lnumbers (c.fact 8 (f := .glo "_law_numbers") rfl) fun _ _ _ _ _ _ us hl => match us, hl with | [_, _], _ => rfl
  have D_Lone_span : Dfn K mg "_law_one_span" "_law_one_span" s_Lone_span ["_law_x", "_law_y", "_law_way"] _ fd_Lone_span := dfn_of X G F_Lone_span (c.fact 9 (f := .glo "_law_one_span") rfl) fun _ _ _ _ _ _ us hl => match us, hl with | [_, _, _], _ => rfl
  have D_Lnumber : Dfn K mg "_law_number" "_law_number" s_Lnumber ["_law_text"] _ fd_Lnumber := dfn_of X G F_Lnumber (c.fact 10 (f := .glo "_law_number") rfl) fun _ _ _ _ _ _ us hl => match us, hl with | [_], _ => rfl
  have D_Lstretch : Dfn K mg "_law_stretch" "_law_stretch" s_Lstretch ["_law_text"] _ fd_Lstretch := dfn_of X G F_Lstretch (c.fact 11 (f := .glo "_law_stretch") rfl) fun _ _ _ _ _ _ us hl => match us, hl with | [_], _ => rfl
  have D_Ldue : Dfn K mg "_law_due" "_law_due" s_Ldue ["_law_text"] _ fd_Ldue := dfn_of X G F_Ldue (c.fact 12 (f := .glo "_law_due") rfl) fun _ _ _ _ _ _ us hl => match us, hl with | [_], _ => rfl
  have D_Lread : Dfn K mg "_law_read" "_law_read" s_Lread ["_law_thing"] _ fd_Lread := dfn_of X G F_Lread (c.fact 13 (f := .glo "_law_read") rfl) fun _ _ _ _ _ _ us hl => match us, hl with | [_], _ => rfl
  have D_Lright : Dfn K mg "_law_right" "_law_right" s_Lright ["_law_text"] _ fd_Lright := dfn_of X G F_Lright (c.fact 14 (f := .glo "_law_right") rfl) fun _ _ _ _ _ _ us hl => match us, hl with | [_], _ => rfl
  have D_Lspoilt : Dfn K mg "_law_spoilt" "_law_spoilt" s_Lspoilt ["_law_text", "_law_xs"] _ fd_Lspoilt := dfn_of X G F_Lspoilt (c.fact 15 (f := .glo "_law_spoilt") rfl) fun _ _ _ _ _ _ us hl => match us, hl with | [_, _], _ => rfl
  have D_law : Dfn K mg "law" "law" s_law ["_law_script"] _ fd_law := dfn_of X G F_law (c.fact 16 (f := .glo "law") rfl) fun _ _ _ _ _ _ us hl => match us, hl with | [_], _ => rfl
  have e := hfa.symm.trans D_law.g
  cases e
  have b := FunD.bindsA (ps := ["_law_script"]) F_law fun _ _ _ _ _ _ us hl => match us, hl with | [_], _ => rfl
  have T : Tx K mg ⟨_, fd_is_whole, _, fd_is_span, _, fd_number_in, _, fd_show_span, _, fd_show_box, _, fd_read_span, _, fd_read_box, _, fd_Lcell, _, fd_Lnumbers, _, fd_Lone_span, _, fd_Lnumber, _, fd_Lstretch, _, fd_Ldue, _, fd_Lread, _, fd_Lright, _, fd_Lspoilt, _, fd_law, He.ga K "NoBox", He.ga K "NoJoin", He.ga K "NoKey", He.ga K "NoKeys", He.ga K "NoMoment", He.ga K "NoName", He.ga K "NoRow", He.ga K "NoText", He.ga K "NoUndo", He.ga K "NoWord", He.ga K "StoreError"⟩ := ⟨D_is_whole, D_is_span, D_number_in, D_show_span, D_show_box, D_read_span, D_read_box, D_Lcell, D_Lnumbers, D_Lone_span, D_Lnumber, D_Lstretch, D_Ldue, D_Lread, D_Lright, D_Lspoilt, D_law, He.free_ok X G (c.fact 17 (f := .free "ValueError") rfl), He.free_ok X G (c.fact 18 (f := .free "abs") rfl), He.free_ok X G (c.fact 19 (f := .free "all") rfl), He.free_ok X G (c.fact 20 (f := .free "any") rfl), He.free_ok X G (c.fact 21 (f := .free "bool") rfl), He.free_ok X G (c.fact 22 (f := .free "int") rfl), He.free_ok X G (c.fact 23 (f := .free "isinstance") rfl), He.free_ok X G (c.fact 24 (f := .free "len") rfl), He.free_ok X G (c.fact 25 (f := .free "max") rfl), He.free_ok X G (c.fact 26 (f := .free "range") rfl), He.free_ok X G (c.fact 27 (f := .free "str") rfl), He.free_ok X G (c.fact 28 (f := .free "tuple") rfl), He.glo_ok X G (c.fact 29 (f := .glo "NoBox") rfl), He.glo_ok X G (c.fact 30 (f := .glo "NoJoin") rfl), He.glo_ok X G (c.fact 31 (f := .glo "NoKey") rfl), He.glo_ok X G (c.fact 32 (f := .glo "NoKeys") rfl), He.glo_ok X G (c.fact 33 (f := .glo "NoMoment") rfl), He.glo_ok X G (c.fact 34 (f := .glo "NoName") rfl), He.glo_ok X G (c.fact 35 (f := .glo "NoRow") rfl), He.glo_ok X G (c.fact 36 (f := .glo "NoText") rfl), He.glo_ok X G (c.fact 37 (f := .glo "NoUndo") rfl), He.glo_ok X G (c.fact 38 (f := .glo "NoWord") rfl), He.glo_ok X G (c.fact 39 (f := .glo "StoreError") rfl), He.str_ok X G (c.fact 40 (f := .str "FIGURES" "0123456789") rfl), He.int_ok X G (c.fact 41 (f := .int "MOST_FIGURES" (13)) rfl), He.int_ok X G (c.fact 42 (f := .int "MOST_KEYS" (3)) rfl), He.exc_ok (c.fact 43 (f := .exc "NoBox") rfl), He.exm_ok (c.fact 44 (f := .exm "NoBox" "StoreError" true) rfl), of_decide_eq_true (ex_at cx 0 (f := fun K => decide (PySem.W.kitOne K (.ref (He.ga K "NoBox")) (.ref (He.ga K "NoBox")) = some true)) rfl), of_decide_eq_true (ex_at cx 1 (f := fun K => decide (PySem.W.kitOne K (.ref (He.ga K "NoBox")) (.type "ValueError") = some true)) rfl), of_decide_eq_true (ex_at cx 2 (f := fun K => decide (PySem.W.kitAny K (.ref (He.ga K "NoBox")) [(.ref (He.ga K "NoJoin")), (.ref (He.ga K "NoKey")), (.ref (He.ga K "NoKeys")), (.ref (He.ga K "NoMoment")), (.ref (He.ga K "NoName")), (.ref (He.ga K "NoRow")), (.ref (He.ga K "NoText")), (.ref (He.ga K "NoUndo")), (.ref (He.ga K "NoWord"))] = some false)) rfl), of_decide_eq_true (ex_at cx 3 (f := fun K => decide (PySem.W.findIn K (.ref (He.ga K "NoBox")) "__getattribute__" = some (some (.builtin "BaseException.__getattribute__")))) rfl), of_decide_eq_true (ex_at cx 4 (f := fun K => decide (PySem.W.findIn K (.ref (He.ga K "NoBox")) "__getattr__" = some none)) rfl), of_decide_eq_true (ex_at cx 5 (f := fun K => decide (PySem.W.subIn K (.ref (He.ga K "NoBox")) (.type "BaseException") = some true)) rfl), of_decide_eq_true (ex_at cx 6 (f := fun K => decide (PySem.W.hasDictIn K (He.ga K "NoBox") = true)) rfl), of_decide_eq_true (ex_at cx 7 (f := fun K => decide (PySem.W.findIn K (.ref (He.ga K "NoBox")) "__class__" = some (some (.builtin "object.__class__")))) rfl), of_decide_eq_true (ex_at cx 8 (f := fun K => decide (PySem.W.mroIn K (He.ga K "NoBox") (.type "object") = some true)) rfl), of_decide_eq_true (ex_at cx 9 (f := fun K => decide (PySem.W.specialIn K (.builtin "object.__class__") "__get__" = some (some (.builtin "getset_descriptor.__get__")))) rfl), of_decide_eq_true (ex_at cx 10 (f := fun K => decide (PySem.W.takesIn K (.builtin "object.__class__") = some true)) rfl)⟩
  exact ⟨fd_law, fun s v => b s [v] rfl, fun base _ _ => ok_law T⟩
end K06
open PySem PySem.W PySem.Calls PyProof.Rows
theorem PySem.Challenge.cw_twigstore_k06_boxes_as_texts_holds : PySem.Challenge.rw_twigstore_k06_boxes_as_texts.Holds := by
  w_on; o_law
  refine HandSHeadRun.head_any (r := OpenLaw.row PySem.Challenge.rw_twigstore_k06_boxes_as_texts) (q := view (OpenLaw.row PySem.Challenge.rw_twigstore_k06_boxes_as_texts).prog [34]) (H := K06.hk) (ob := K06.ob) (M := 8000) (loose := K06.loose) (d := HandSHeadRun.topDef (OpenLaw.row PySem.Challenge.rw_twigstore_k06_boxes_as_texts).prog 34) (kwd := []) K06.ob_eq
    (by kernel_rfl) (fun s => by kernel_rfl) K06.run (by kernel_rfl) (by kernel_rfl) (by kernel_rfl) (by rfl) (by first | assumption | decide +kernel) (by decide +kernel) ⟨rfl, rfl, rfl, rfl, rfl, by decide +kernel⟩ ?hw ?hc
  case hw => w_witness2
  case hc =>
    refine Dl.walk_w (l := PySem.Challenge.rw_twigstore_k06_boxes_as_texts) (n := 63) (k := 7) (x := "_law_script") (p := K06.sp_law) rfl (by decide) (by kernel_rfl) ⟨by decide, by decide, by decide⟩ (fun ns M Q E h q => ⟨ns, rfl, h, q _⟩) ?F
    intro w mg fa h Y G hmg0
    obtain ⟨K, KX, c, cx⟩ := Y
    have hmg : mg ("law" : PySem.Str) = some (.ref fa) := by
      have e : (HandSHeadRun.topDef (OpenLaw.row PySem.Challenge.rw_twigstore_k06_boxes_as_texts).prog 34).name = ("law" : PySem.Str) := by kernel_rfl
      rw [← e]
      exact hmg0
    obtain ⟨fd, hb, hF⟩ := K06.facts (P := (PySem.Challenge.rw_twigstore_k06_boxes_as_texts).prog) (w := w) KX G hmg c cx
    exact ⟨K, fd, KX, hb, hF⟩
