import PyProof.Rows.All
import Wide.All
import OpenK.AllK
import Wide.FinOn
import HandS.ForMost
import HandS.Exc
import HandS.ExcOwn
import HandS.TryOnly
import HandS.WordsExc
import HandS.TupAny
import HandS.Zip
import HandS.Flow
import KE.SortData
import KE.DataCmp
import HandS.IsInst
import HandS.Defaults
import HandS.Head0
import HandS.Head1
import HandS.Head2
import HandS.HeadEnd
import HandS.HeadHook1
import HandS.HeadHook2
import PySem.Challenge.RW_twigstore_k05_whole_boxes_less_boxes
set_option Elab.async false
set_option linter.all false
set_option maxRecDepth 100000
/-! The data layer: tuples (and locked lists) as values, changing objects in a store of their own. -/
namespace Dl
open PySem PySem.Spec PyProof.Rows L2

/-- data: a tuple and a locked list are values here -/
inductive D where
  | non | bl (b : Bool) | int (i : Int) | str (x : Str) | ty (n : String) | ref (a : Addr)
  | tup (xs : List D) | fzl (xs : List D)
  /-- a tuple of the written part -/
  | fzt (xs : List D)

mutual
def Rep (K : PySem.W.Frag) (H : Hp) : D → V → Prop
  | .non, v => v = .non
  | .bl b, v => v = .bl b
  | .int i, v => v = .int i
  | .str x, v => v = .str x
  | .ty n, v => v = .ty n
  | .ref a, v => v = .ref a
  | .tup ds, v => ∃ p xs, v = .ref p ∧ H p = some (.tup xs) ∧ Reps K H ds xs
  | .fzt ds, v => ∃ p xs, v = .ref p ∧ SqT K (fun _ => none) p xs ∧ Reps K H ds xs
  | .fzl ds, v => ∃ p xs, v = .ref p ∧ ((∃ o, H p = some (.frz o (.lst xs))) ∨ (SqL K (fun _ => none) p xs)) ∧ Reps K H ds xs
def Reps (K : PySem.W.Frag) (H : Hp) : List D → List V → Prop
  | [], xs => xs = []
  | d :: ds, xs => ∃ v vs, xs = v :: vs ∧ Rep K H d v ∧ Reps K H ds vs
end

/-- what stays for ever: tuples, locked tuples, locked lists -/
structure Pers (H H' : Hp) : Prop where
  t : ∀ b xs, H b = some (.tup xs) → H' b = some (.tup xs)
  ft : ∀ b o xs, H b = some (.frz o (.tup xs)) → H' b = some (.frz o (.tup xs))
  fl : ∀ b o xs, H b = some (.frz o (.lst xs)) → H' b = some (.frz o (.lst xs))
theorem Pers.refl (H : Hp) : Pers H H := ⟨fun _ _ h => h, fun _ _ _ h => h, fun _ _ _ h => h⟩
theorem Pers.trans {H H1 H2 : Hp} (a : Pers H H1) (b : Pers H1 H2) : Pers H H2 :=
  ⟨fun x y h => b.t x y (a.t x y h), fun x y z h => b.ft x y z (a.ft x y z h), fun x y z h => b.fl x y z (a.fl x y z h)⟩
theorem Pers.new {H : Hp} {p : Addr} {o : HO} (h : H p = none) : Pers H (upd H p o) :=
  ⟨fun b xs e => by rw [upd_ne (ne_of_none e h)]; exact e, fun b u xs e => by rw [upd_ne (ne_of_none e h)]; exact e, fun b u xs e => by rw [upd_ne (ne_of_none e h)]; exact e⟩
/-- an object that may change is changed -/
theorem Pers.chg {H : Hp} {p : Addr} {u o : HO} (h : H p = some u) (h1 : ∀ xs, u ≠ .tup xs) (h2 : ∀ o x, u ≠ .frz o x) : Pers H (upd H p o) :=
  ⟨fun b xs e => by rw [upd_ne (ne_of e h (fun z => h1 xs z.symm))]; exact e, fun b u xs e => by rw [upd_ne (ne_of e h (fun z => h2 _ _ z.symm))]; exact e, fun b u xs e => by rw [upd_ne (ne_of e h (fun z => h2 _ _ z.symm))]; exact e⟩

theorem Pers.sqt {K : PySem.W.Frag} {H H' : Hp} {a : Addr} {xs : List V} (p : Pers H H') (h : SqT K H a xs) : SqT K H' a xs := by
  rcases h with (h | ⟨o, h⟩) | h
  · exact .inl (.inl (p.t _ _ h))
  · exact .inl (.inr ⟨o, p.ft _ _ _ h⟩)
  · exact .inr h
mutual
theorem Rep.mono {K : PySem.W.Frag} {H H' : Hp} (p : Pers H H') : ∀ (d : D) (v : V), Rep K H d v → Rep K H' d v
  | .non, v, h => h
  | .bl b, v, h => h
  | .int i, v, h => h
  | .str x, v, h => h
  | .ty n, v, h => h
  | .ref a, v, h => h
  | .tup ds, v, h => by
    simp only [Rep] at h ⊢
    obtain ⟨q, xs, e, s, r⟩ := h
    exact ⟨q, xs, e, p.t _ _ s, Reps.mono p ds xs r⟩
  | .fzt ds, v, h => by
    simp only [Rep] at h ⊢
    obtain ⟨q, xs, e, s, r⟩ := h
    exact ⟨q, xs, e, s, Reps.mono p ds xs r⟩
  | .fzl ds, v, h => by
    simp only [Rep] at h ⊢
    obtain ⟨q, xs, e, s, r⟩ := h
    refine ⟨q, xs, e, ?_, Reps.mono p ds xs r⟩
    rcases s with ⟨o, s⟩ | s
    · exact .inl ⟨o, p.fl _ _ _ s⟩
    · exact .inr s
theorem Reps.mono {K : PySem.W.Frag} {H H' : Hp} (p : Pers H H') : ∀ (ds : List D) (vs : List V), Reps K H ds vs → Reps K H' ds vs
  | [], vs, h => h
  | d :: ds, vs, h => by
    simp only [Reps] at h ⊢
    obtain ⟨v, r, e, a, b⟩ := h
    exact ⟨v, r, e, Rep.mono p d v a, Reps.mono p ds r b⟩
end
section
variable {K : PySem.W.Frag} {H H' : Hp}
theorem reps_nil : Reps K H [] [] := by simp only [Reps]
theorem reps_cons {d : D} {ds : List D} {v : V} {vs : List V} (a : Rep K H d v) (b : Reps K H ds vs) : Reps K H (d :: ds) (v :: vs) := by
  simp only [Reps]; exact ⟨v, vs, rfl, a, b⟩
theorem reps_cons_inv {d : D} {ds : List D} {vs : List V} (h : Reps K H (d :: ds) vs) : ∃ v r, vs = v :: r ∧ Rep K H d v ∧ Reps K H ds r := by
  simp only [Reps] at h; exact h
theorem reps_nil_inv {vs : List V} (h : Reps K H [] vs) : vs = [] := by simp only [Reps] at h; exact h
theorem Reps.len : ∀ {ds : List D} {vs : List V}, Reps K H ds vs → vs.length = ds.length
  | [], vs, h => by rw [reps_nil_inv h]; rfl
  | d :: ds, vs, h => by
    obtain ⟨v, r, rfl, _, b⟩ := reps_cons_inv h
    rw [List.length_cons, List.length_cons, Reps.len b]
theorem Reps.app : ∀ {ds es : List D} {vs ws : List V}, Reps K H ds vs → Reps K H es ws → Reps K H (ds ++ es) (vs ++ ws)
  | [], es, vs, ws, h, g => by rw [reps_nil_inv h]; exact g
  | d :: ds, es, vs, ws, h, g => by
    obtain ⟨v, r, rfl, a, b⟩ := reps_cons_inv h
    exact reps_cons a (Reps.app b g)
theorem Reps.get : ∀ {ds : List D} {vs : List V} (i : Nat) {d : D}, Reps K H ds vs → ds[i]? = some d → ∃ v, vs[i]? = some v ∧ Rep K H d v
  | [], _, i, _, _, e => by simp at e
  | d :: ds, vs, 0, d', h, e => by
    obtain ⟨v, r, rfl, a, b⟩ := reps_cons_inv h
    simp at e; subst e
    exact ⟨v, rfl, a⟩
  | d :: ds, vs, i + 1, d', h, e => by
    obtain ⟨v, r, rfl, a, b⟩ := reps_cons_inv h
    obtain ⟨w, g, q⟩ := Reps.get i b (by simpa using e)
    exact ⟨w, by simpa using g, q⟩
theorem Reps.get' : ∀ {ds : List D} {vs : List V} (i : Nat) {v : V}, Reps K H ds vs → vs[i]? = some v → ∃ d, ds[i]? = some d ∧ Rep K H d v
  | [], vs, i, v, h, e => by rw [reps_nil_inv h] at e; simp at e
  | d :: ds, vs, 0, v', h, e => by
    obtain ⟨v, r, rfl, a, b⟩ := reps_cons_inv h
    simp at e; subst e
    exact ⟨d, rfl, a⟩
  | d :: ds, vs, i + 1, v', h, e => by
    obtain ⟨v, r, rfl, a, b⟩ := reps_cons_inv h
    obtain ⟨w, g, q⟩ := Reps.get' i b (by simpa using e)
    exact ⟨w, by simpa using g, q⟩
theorem Reps.drop : ∀ {ds : List D} {vs : List V} (n : Nat), Reps K H ds vs → Reps K H (ds.drop n) (vs.drop n)
  | ds, vs, 0, h => by simpa using h
  | [], vs, n + 1, h => by rw [reps_nil_inv h]; simpa using reps_nil
  | d :: ds, vs, n + 1, h => by
    obtain ⟨v, r, rfl, a, b⟩ := reps_cons_inv h
    simpa using Reps.drop n b
theorem Reps.take : ∀ {ds : List D} {vs : List V} (n : Nat), Reps K H ds vs → Reps K H (ds.take n) (vs.take n)
  | ds, vs, 0, h => by simpa using reps_nil
  | [], vs, n + 1, h => by rw [reps_nil_inv h]; simpa using reps_nil
  | d :: ds, vs, n + 1, h => by
    obtain ⟨v, r, rfl, a, b⟩ := reps_cons_inv h
    simpa using reps_cons a (Reps.take n b)
theorem Reps.set : ∀ {ds : List D} {vs : List V} (i : Nat) {d : D} {v : V}, Reps K H ds vs → Rep K H d v → Reps K H (ds.set i d) (vs.set i v)
  | [], vs, i, _, _, h, _ => by rw [reps_nil_inv h]; simpa using reps_nil
  | d :: ds, vs, 0, _, _, h, g => by
    obtain ⟨v, r, rfl, a, b⟩ := reps_cons_inv h
    simpa using reps_cons g b
  | d :: ds, vs, i + 1, _, _, h, g => by
    obtain ⟨v, r, rfl, a, b⟩ := reps_cons_inv h
    simpa using reps_cons a (Reps.set i b g)
theorem reps_ints : ∀ (ns : List Int), Reps K H (ns.map D.int) (ns.map V.int)
  | [] => reps_nil
  | n :: ns => reps_cons (by simp only [Rep]) (reps_ints ns)
theorem reps_ints_inv : ∀ {ns : List Int} {vs : List V}, Reps K H (ns.map D.int) vs → vs = ns.map V.int
  | [], vs, h => reps_nil_inv h
  | n :: ns, vs, h => by
    obtain ⟨v, r, rfl, a, b⟩ := reps_cons_inv h
    simp only [Rep] at a
    rw [a, reps_ints_inv b]; rfl
theorem reps_bls_inv : ∀ {ns : List Bool} {vs : List V}, Reps K H (ns.map D.bl) vs → vs = ns.map V.bl
  | [], vs, h => reps_nil_inv h
  | n :: ns, vs, h => by
    obtain ⟨v, r, rfl, a, b⟩ := reps_cons_inv h
    simp only [Rep] at a
    rw [a, reps_bls_inv b]; rfl
theorem reps_strs_inv : ∀ {ns : List Str} {vs : List V}, Reps K H (ns.map D.str) vs → vs = ns.map V.str
  | [], vs, h => reps_nil_inv h
  | n :: ns, vs, h => by
    obtain ⟨v, r, rfl, a, b⟩ := reps_cons_inv h
    simp only [Rep] at a
    rw [a, reps_strs_inv b]; rfl
theorem rep_fzl {ds : List D} {v : V} (h : Rep K H (.fzl ds) v) : ∃ p xs, v = .ref p ∧ SqL K H p xs ∧ Reps K H ds xs := by
  simp only [Rep] at h
  obtain ⟨p, xs, e, s, r⟩ := h
  refine ⟨p, xs, e, ?_, r⟩
  rcases s with ⟨o, s⟩ | (s | ⟨o, s⟩) | s
  · exact .inl (.inr ⟨o, s⟩)
  · cases s
  · cases s
  · exact .inr s
theorem rep_tupH {ds : List D} {v : V} (h : Rep K H (.tup ds) v) : ∃ p xs, v = .ref p ∧ H p = some (.tup xs) ∧ Reps K H ds xs := by
  simp only [Rep] at h; exact h
theorem rep_tup {ds : List D} {v : V} (h : Rep K H (.tup ds) v) : ∃ p xs, v = .ref p ∧ SqT K H p xs ∧ Reps K H ds xs := by
  obtain ⟨p, xs, a, b, c⟩ := rep_tupH h
  exact ⟨p, xs, a, SqT.of b, c⟩
theorem rep_fzt {ds : List D} {v : V} (h : Rep K H (.fzt ds) v) : ∃ p xs, v = .ref p ∧ (∀ H, SqT K H p xs) ∧ Reps K H ds xs := by
  simp only [Rep] at h
  obtain ⟨p, xs, a, b, c⟩ := h
  refine ⟨p, xs, a, fun H' => ?_, c⟩
  rcases b with (b | ⟨o, b⟩) | b
  · cases b
  · cases b
  · exact .inr b
theorem rep_tup_mk {ds : List D} {p : Addr} {xs : List V} (s : H p = some (.tup xs)) (r : Reps K H ds xs) : Rep K H (.tup ds) (.ref p) := by
  simp only [Rep]; exact ⟨p, xs, rfl, s, r⟩
end

/-! ### changing objects -/
inductive MO where
  | lst (xs : List D)
  | dK (kvs : List (Key × D))
  | dT (kvs : List (List Key × D))
  | ins (C : Addr) (fs : List (Str × D))
  | xd (fs : List (Str × D))
  /-- locked while it is walked -/
  | lk (o : MO)
abbrev Mp := Addr → Option MO
def mup (M : Mp) (a : Addr) (o : MO) : Mp := fun b => if b = a then some o else M b
def mdel (M : Mp) (a : Addr) : Mp := fun b => if b = a then none else M b
theorem mup_same {M : Mp} {a : Addr} {o : MO} : mup M a o a = some o := by unfold mup; rw [if_pos rfl]
theorem mup_ne {M : Mp} {a b : Addr} {o : MO} (h : b ≠ a) : mup M a o b = M b := by unfold mup; rw [if_neg h]
theorem mup_mup {M : Mp} {a : Addr} {o u : MO} : mup (mup M a o) a u = mup M a u := by funext b; unfold mup; split <;> rfl
theorem mup_none {M : Mp} {a b : Addr} {o : MO} : (mup M a o b = none) = (b ≠ a ∧ M b = none) := by
  unfold mup
  by_cases h : b = a
  · simp [h]
  · simp [h]
theorem mup_swap {M : Mp} {a b : Addr} {o u : MO} (h : a ≠ b) : mup (mup M a o) b u = mup (mup M b u) a o := by
  funext c; unfold mup
  by_cases h1 : c = a
  · by_cases h2 : c = b
    · exact absurd (h1.symm.trans h2) h
    · simp [h1, h]
  · simp [h1]
theorem mdel_mup {M : Mp} {a : Addr} {o : MO} (h : M a = none) : mdel (mup M a o) a = M := by
  funext b; unfold mdel mup
  by_cases e : b = a
  · simp [e, h]
  · simp [e]
theorem mne {M : Mp} {a b : Addr} {o : MO} (h : M a = some o) (h' : M b = none) : a ≠ b := by
  intro e; subst e; rw [h] at h'; cases h'
/-- all of it stands there as well -/
def Sub (M M' : Mp) : Prop := ∀ a o, M a = some o → M' a = some o
theorem Sub.refl (M : Mp) : Sub M M := fun _ _ h => h
theorem Sub.trans {M M1 M2 : Mp} (a : Sub M M1) (b : Sub M1 M2) : Sub M M2 := fun x o h => b x o (a x o h)
theorem Sub.new {M : Mp} {p : Addr} {o : MO} (h : M p = none) : Sub M (mup M p o) := fun a u e => by rw [mup_ne (mne e h)]; exact e
theorem Sub.free {M M' : Mp} (s : Sub M M') {p : Addr} (h : M' p = none) : M p = none := by
  cases q : M p with
  | none => rfl
  | some o => rw [s p o q] at h; cases h
theorem Sub.up {M M' : Mp} (s : Sub M M') {p : Addr} {o : MO} : Sub (mup M p o) (mup M' p o) := fun a u e => by
  by_cases h : a = p
  · subst h; rw [mup_same] at e ⊢; exact e
  · rw [mup_ne h] at e ⊢; exact s a u e
theorem Sub.upR {M M' : Mp} (s : Sub M M') {p : Addr} {o : MO} (h : M p = none) : Sub M (mup M' p o) := fun a u e => by
  rw [mup_ne (mne e h)]; exact s a u e
theorem Sub.del {M : Mp} {p : Addr} : Sub (mdel M p) M := fun a u e => by
  unfold mdel at e; split at e
  · cases e
  · exact e

def RepF (K : PySem.W.Frag) (H : Hp) : List (Str × D) → List (Str × V) → Prop
  | [], xs => xs = []
  | (k, d) :: r, xs => ∃ v vs, xs = (k, v) :: vs ∧ Rep K H d v ∧ RepF K H r vs
def RepKV {κ : Type} (K : PySem.W.Frag) (H : Hp) : List (κ × D) → List (κ × V) → Prop
  | [], xs => xs = []
  | (k, d) :: r, xs => ∃ v vs, xs = (k, v) :: vs ∧ Rep K H d v ∧ RepKV K H r vs
theorem RepKV.mono {κ : Type} {K : PySem.W.Frag} {H H' : Hp} (p : Pers H H') : ∀ {fs : List (κ × D)} {xs : List (κ × V)}, RepKV K H fs xs → RepKV K H' fs xs
  | [], xs, h => h
  | (k, d) :: r, xs, h => by
    obtain ⟨v, vs, e, a, b⟩ := h
    exact ⟨v, vs, e, Rep.mono p d v a, RepKV.mono p b⟩
theorem RepKV.len {κ : Type} {K : PySem.W.Frag} {H : Hp} : ∀ {fs : List (κ × D)} {xs : List (κ × V)}, RepKV K H fs xs → xs.length = fs.length
  | [], xs, h => by rw [show xs = [] from h]; rfl
  | (k, d) :: r, xs, h => by
    obtain ⟨v, vs, rfl, a, b⟩ := h
    rw [List.length_cons, List.length_cons, RepKV.len b]

def MOk (K : PySem.W.Frag) (H : Hp) (a : Addr) : MO → Prop
  | .lst ds => ∃ xs, H a = some (.lst xs) ∧ Reps K H ds xs
  | .dK kvs => ∃ xs, H a = some (.dK xs) ∧ RepKV K H kvs xs
  | .dT kvs => ∃ xs, H a = some (.dT xs) ∧ RepKV K H kvs xs
  | .ins C fs => ∃ dx xs, H a = some (.ins C dx xs) ∧ RepKV K H fs xs
  | .xd fs => ∃ xs, H a = some (.xd xs) ∧ RepKV K H fs xs
  | .lk (.dK kvs) => ∃ o xs, H a = some (.frz o (.dK xs)) ∧ RepKV K H kvs xs
  | .lk (.dT kvs) => ∃ o xs, H a = some (.frz o (.dT xs)) ∧ RepKV K H kvs xs
  | .lk _ => False
def Sm (K : PySem.W.Frag) (M : Mp) (H : Hp) : Prop := ∀ a o, M a = some o → MOk K H a o
section
variable {K : PySem.W.Frag} {H H' : Hp} {M M' : Mp}
theorem MOk.some {a : Addr} {o : MO} (h : MOk K H a o) : ∃ u, H a = some u ∧ (∀ xs, u ≠ .tup xs) ∧ (∀ o xs, u ≠ .frz o (.tup xs)) ∧ (∀ o xs, u ≠ .frz o (.lst xs)) := by
  cases o with
  | lst ds => obtain ⟨xs, e, _⟩ := h; exact ⟨_, e, (by intro _ z; cases z), (by intro _ _ z; cases z), (by intro _ _ z; cases z)⟩
  | dK ds => obtain ⟨xs, e, _⟩ := h; exact ⟨_, e, (by intro _ z; cases z), (by intro _ _ z; cases z), (by intro _ _ z; cases z)⟩
  | dT ds => obtain ⟨xs, e, _⟩ := h; exact ⟨_, e, (by intro _ z; cases z), (by intro _ _ z; cases z), (by intro _ _ z; cases z)⟩
  | ins C ds => obtain ⟨dx, xs, e, _⟩ := h; exact ⟨_, e, (by intro _ z; cases z), (by intro _ _ z; cases z), (by intro _ _ z; cases z)⟩
  | xd ds => obtain ⟨xs, e, _⟩ := h; exact ⟨_, e, (by intro _ z; cases z), (by intro _ _ z; cases z), (by intro _ _ z; cases z)⟩
  | lk o =>
    cases o with
    | dK ds => obtain ⟨o, xs, e, _⟩ := h; exact ⟨_, e, (by intro _ z; cases z), (by intro _ _ z; injection z with _ z; cases z), (by intro _ _ z; injection z with _ z; cases z)⟩
    | dT ds => obtain ⟨o, xs, e, _⟩ := h; exact ⟨_, e, (by intro _ z; cases z), (by intro _ _ z; injection z with _ z; cases z), (by intro _ _ z; injection z with _ z; cases z)⟩
    | _ => exact (show False from h).elim
theorem Sm.free (s : Sm K M H) {p : Addr} (h : H p = none) : M p = none := by
  cases q : M p with
  | none => rfl
  | some o => obtain ⟨u, e, _⟩ := (s p o q).some; rw [h] at e; cases e
theorem Sm.sub (s : Sm K M' H) (h : Sub M M') : Sm K M H := fun a o e => s a o (h a o e)
/-- the objects stand as they stood, what their parts stand for too -/
theorem MOk.mono {a : Addr} {o : MO} (h : MOk K H a o) (p : Pers H H') (e : H' a = H a) : MOk K H' a o := by
  cases o with
  | lst ds => obtain ⟨xs, q, r⟩ := h; exact ⟨xs, e.trans q, Reps.mono p _ _ r⟩
  | dK ds => obtain ⟨xs, q, r⟩ := h; exact ⟨xs, e.trans q, r.mono p⟩
  | dT ds => obtain ⟨xs, q, r⟩ := h; exact ⟨xs, e.trans q, r.mono p⟩
  | ins C ds => obtain ⟨dx, xs, q, r⟩ := h; exact ⟨dx, xs, e.trans q, r.mono p⟩
  | xd ds => obtain ⟨xs, q, r⟩ := h; exact ⟨xs, e.trans q, r.mono p⟩
  | lk o =>
    cases o with
    | dK ds => obtain ⟨o, xs, q, r⟩ := h; exact ⟨o, xs, e.trans q, r.mono p⟩
    | dT ds => obtain ⟨o, xs, q, r⟩ := h; exact ⟨o, xs, e.trans q, r.mono p⟩
    | _ => exact (show False from h).elim
/-- something new that M doesn't see -/
theorem Sm.new (s : Sm K M H) {p : Addr} {o : HO} (h : H p = none) : Sm K M (upd H p o) := fun a u e => by
  obtain ⟨w, q, _⟩ := (s a u e).some
  exact (s a u e).mono (Pers.new h) (upd_ne (ne_of_none q h))
/-- an object is laid or changed at p -/
theorem Sm.put (s : Sm K M H) {p : Addr} {o : HO} {u : MO} (pr : Pers H (upd H p o)) (h : MOk K (upd H p o) p u) : Sm K (mup M p u) (upd H p o) := fun a w e => by
  by_cases q : a = p
  · subst q; rw [mup_same] at e; cases e; exact h
  · rw [mup_ne q] at e
    exact (s a w e).mono pr (upd_ne q)
end

/-! ### slots -/
abbrev DSt := List (Option D)
def RepS (K : PySem.W.Frag) (H : Hp) : DSt → L2.St → Prop
  | [], σ => σ = []
  | none :: δ, σ => ∃ x r, σ = x :: r ∧ RepS K H δ r
  | some d :: δ, σ => ∃ v r, σ = some v :: r ∧ Rep K H d v ∧ RepS K H δ r
section
variable {K : PySem.W.Frag} {H H' : Hp}
theorem RepS.mono (p : Pers H H') : ∀ {δ : DSt} {σ : L2.St}, RepS K H δ σ → RepS K H' δ σ
  | [], σ, h => h
  | none :: δ, σ, h => by obtain ⟨x, r, e, q⟩ := h; exact ⟨x, r, e, RepS.mono p q⟩
  | some d :: δ, σ, h => by obtain ⟨v, r, e, a, q⟩ := h; exact ⟨v, r, e, Rep.mono p d v a, RepS.mono p q⟩
theorem RepS.get : ∀ {δ : DSt} {σ : L2.St} {i : Nat} {d : D}, RepS K H δ σ → δ[i]? = some (some d) → ∃ v, σ[i]? = some (some v) ∧ Rep K H d v
  | [], σ, i, d, h, e => by simp at e
  | none :: δ, σ, 0, d, h, e => by simp at e
  | some d' :: δ, σ, 0, d, h, e => by
    obtain ⟨v, r, rfl, a, q⟩ := h
    simp at e; subst e
    exact ⟨v, rfl, a⟩
  | none :: δ, σ, i + 1, d, h, e => by
    obtain ⟨x, r, rfl, q⟩ := h
    obtain ⟨v, g, a⟩ := RepS.get (i := i) q (by simpa using e)
    exact ⟨v, by simpa using g, a⟩
  | some d' :: δ, σ, i + 1, d, h, e => by
    obtain ⟨x, r, rfl, _, q⟩ := h
    obtain ⟨v, g, a⟩ := RepS.get (i := i) q (by simpa using e)
    exact ⟨v, by simpa using g, a⟩
theorem RepS.set : ∀ {δ : DSt} {σ : L2.St} (i : Nat) {d : D} {v : V}, RepS K H δ σ → Rep K H d v → RepS K H (δ.set i (some d)) (σ.set i (some v))
  | [], σ, i, d, v, h, _ => by rw [show σ = [] from h]; simp [RepS]
  | none :: δ, σ, 0, d, v, h, g => by obtain ⟨x, r, rfl, q⟩ := h; exact ⟨v, r, rfl, g, q⟩
  | some d' :: δ, σ, 0, d, v, h, g => by obtain ⟨x, r, rfl, _, q⟩ := h; exact ⟨v, r, rfl, g, q⟩
  | none :: δ, σ, i + 1, d, v, h, g => by obtain ⟨x, r, rfl, q⟩ := h; exact ⟨x, r.set i (some v), by simp, RepS.set i q g⟩
  | some d' :: δ, σ, i + 1, d, v, h, g => by obtain ⟨x, r, rfl, a, q⟩ := h; exact ⟨x, r.set i (some v), by simp, a, RepS.set i q g⟩
theorem RepS.unset : ∀ {δ : DSt} {σ : L2.St} (i : Nat) {x : Option V}, RepS K H δ σ → RepS K H (δ.set i none) (σ.set i x)
  | [], σ, i, x, h => by rw [show σ = [] from h]; simp [RepS]
  | none :: δ, σ, 0, w, h => by obtain ⟨x, r, rfl, q⟩ := h; exact ⟨w, r, rfl, q⟩
  | some d' :: δ, σ, 0, w, h => by obtain ⟨x, r, rfl, _, q⟩ := h; exact ⟨w, r, rfl, q⟩
  | none :: δ, σ, i + 1, w, h => by obtain ⟨x, r, rfl, q⟩ := h; exact ⟨x, r.set i w, by simp, RepS.unset i q⟩
  | some d' :: δ, σ, i + 1, w, h => by obtain ⟨x, r, rfl, a, q⟩ := h; exact ⟨x, r.set i w, by simp, a, RepS.unset i q⟩
theorem RepS.nones : ∀ (n : Nat) (σ : L2.St), σ.length = n → RepS K H (List.replicate n none) σ
  | 0, σ, h => by rw [List.eq_nil_of_length_eq_zero h]; simp [RepS]
  | n + 1, [], h => by simp at h
  | n + 1, x :: r, h => by
    rw [List.replicate_succ]
    exact ⟨x, r, rfl, RepS.nones n r (by simpa using h)⟩
theorem RepS.app : ∀ {δ δ' : DSt} {σ σ' : L2.St}, RepS K H δ σ → RepS K H δ' σ' → RepS K H (δ ++ δ') (σ ++ σ')
  | [], δ', σ, σ', h, g => by rw [show σ = [] from h]; exact g
  | none :: δ, δ', σ, σ', h, g => by obtain ⟨x, r, rfl, q⟩ := h; exact ⟨x, r ++ σ', rfl, RepS.app q g⟩
  | some d :: δ, δ', σ, σ', h, g => by obtain ⟨x, r, rfl, a, q⟩ := h; exact ⟨x, r ++ σ', rfl, a, RepS.app q g⟩
theorem RepS.of : ∀ {ds : List D} {vs : List V}, Reps K H ds vs → RepS K H (ds.map some) (vs.map some)
  | [], vs, h => by rw [reps_nil_inv h]; simp [RepS]
  | d :: ds, vs, h => by
    obtain ⟨v, r, rfl, a, b⟩ := reps_cons_inv h
    exact ⟨v, r.map some, rfl, a, RepS.of b⟩
theorem RepS.len : ∀ {δ : DSt} {σ : L2.St}, RepS K H δ σ → σ.length = δ.length
  | [], σ, h => by rw [show σ = [] from h]; rfl
  | none :: δ, σ, h => by obtain ⟨x, r, rfl, q⟩ := h; rw [List.length_cons, List.length_cons, RepS.len q]
  | some d :: δ, σ, h => by obtain ⟨x, r, rfl, _, q⟩ := h; rw [List.length_cons, List.length_cons, RepS.len q]
end
def startD : List Str → List D → DSt
  | [], _ => []
  | _ :: N, [] => none :: startD N []
  | _ :: N, d :: ds => some d :: startD N ds
theorem startD_nil : ∀ N : List Str, startD N [] = List.replicate N.length none
  | [] => rfl
  | _ :: N => by simp only [startD, startD_nil N, List.length_cons, List.replicate_succ]
theorem startD_eq : ∀ {N : List Str} {ds : List D}, ds.length ≤ N.length → startD N ds = ds.map some ++ List.replicate (N.length - ds.length) none
  | [], [], _ => rfl
  | [], d :: ds, h => absurd h (by simp)
  | n :: N, [], _ => by rw [startD_nil]; rfl
  | n :: N, d :: ds, h => by
    have := startD_eq (N := N) (ds := ds) (by simpa using h)
    simp only [startD, this, List.map_cons, List.length_cons, List.cons_append, Nat.add_sub_add_right]
end Dl
/-! Readings over data, and how they lie over the layer's readings. -/
namespace Dl
open PySem PySem.Spec PyProof.Rows L2

abbrev DK := D → Mp → Prop
abbrev RE := DSt → Mp → DK → Prop
abbrev RT := DSt → Mp → (Bool → Mp → Prop) → Prop
abbrev RA := DSt → Mp → (List D → Mp → Prop) → Prop
abbrev RG := D → DSt → Mp → (DSt → Mp → Prop) → Prop
abbrev RGs := List D → DSt → Mp → (DSt → Mp → Prop) → Prop
abbrev RO := DSt → Mp → (Option Int → Mp → Prop) → Prop
/-- what is walked: what must stay, the items -/
abbrev RI := DSt → Mp → ((Mp → Prop) → List D → Mp → Prop) → Prop
structure DEnds where
  nx : DSt → Mp → Prop
  rt : DK
  bk : DSt → Mp → Prop := fun _ _ => False
  ct : DSt → Mp → Prop := fun _ _ => False
abbrev RS := DEnds → DSt → Mp → Prop
/-- an exception: its class, its own dict's fields where it has one -/
abbrev DX := Value → Option (List (Str × D)) → Mp → Prop

/-- from a wish over data to one over the layer -/
def Wk (K : PySem.W.Frag) (H : Hp) (QD : DK) (Q : VK) : Prop := ∀ d M' v H', QD d M' → Rep K H' d v → Sm K M' H' → Pers H H' → Q v H'
def WkB (K : PySem.W.Frag) (H : Hp) (QD : Bool → Mp → Prop) (Q : Bool → Hp → Prop) : Prop := ∀ b M' H', QD b M' → Sm K M' H' → Pers H H' → Q b H'
def WkL (K : PySem.W.Frag) (H : Hp) (QD : List D → Mp → Prop) (Q : List V → Hp → Prop) : Prop := ∀ ds M' vs H', QD ds M' → Reps K H' ds vs → Sm K M' H' → Pers H H' → Q vs H'
def WkS (K : PySem.W.Frag) (H : Hp) (QD : DSt → Mp → Prop) (Q : L2.St → Hp → Prop) : Prop := ∀ δ M' σ H', QD δ M' → RepS K H' δ σ → Sm K M' H' → Pers H H' → Q σ H'
def WkO (K : PySem.W.Frag) (H : Hp) (QD : Option Int → Mp → Prop) (Q : Option Int → Hp → Prop) : Prop := ∀ i M' H', QD i M' → Sm K M' H' → Pers H H' → Q i H'
def Xd (K : PySem.W.Frag) (H : Hp) (fs : Option (List (Str × D))) (d : Option Addr) : Prop := match fs with
  | none => True
  | some fs => ∃ a xs, d = some a ∧ H a = some (.xd xs) ∧ RepKV K H fs xs
def WkX (K : PySem.W.Frag) (H : Hp) (ED : DX) (E : XK) : Prop := ∀ cls fs M' d H', ED cls fs M' → Xd K H' fs d → Sm K M' H' → Pers H H' → E cls d H'
theorem Wk.on {K : PySem.W.Frag} {H H1 : Hp} {QD : DK} {Q : VK} (w : Wk K H QD Q) (p : Pers H H1) : Wk K H1 QD Q := fun d M' v H' a b c e => w d M' v H' a b c (p.trans e)
theorem WkB.on {K : PySem.W.Frag} {H H1 : Hp} {QD : Bool → Mp → Prop} {Q : Bool → Hp → Prop} (w : WkB K H QD Q) (p : Pers H H1) : WkB K H1 QD Q := fun d M' H' a c e => w d M' H' a c (p.trans e)
theorem WkL.on {K : PySem.W.Frag} {H H1 : Hp} {QD : List D → Mp → Prop} {Q : List V → Hp → Prop} (w : WkL K H QD Q) (p : Pers H H1) : WkL K H1 QD Q := fun d M' v H' a b c e => w d M' v H' a b c (p.trans e)
theorem WkS.on {K : PySem.W.Frag} {H H1 : Hp} {QD : DSt → Mp → Prop} {Q : L2.St → Hp → Prop} (w : WkS K H QD Q) (p : Pers H H1) : WkS K H1 QD Q := fun d M' v H' a b c e => w d M' v H' a b c (p.trans e)
theorem WkO.on {K : PySem.W.Frag} {H H1 : Hp} {QD : Option Int → Mp → Prop} {Q : Option Int → Hp → Prop} (w : WkO K H QD Q) (p : Pers H H1) : WkO K H1 QD Q := fun d M' H' a c e => w d M' H' a c (p.trans e)
theorem WkX.on {K : PySem.W.Frag} {H H1 : Hp} {QD : DX} {Q : XK} (w : WkX K H QD Q) (p : Pers H H1) : WkX K H1 QD Q := fun a b c d e f g h i => w a b c d e f g h (p.trans i)

structure Imp (K : PySem.W.Frag) (H : Hp) (E : DEnds) (D : Ends) : Prop where
  nx : WkS K H E.nx D.nx
  rt : Wk K H E.rt D.rt
  bk : WkS K H E.bk D.bk
  ct : WkS K H E.ct D.ct
theorem Imp.on {K : PySem.W.Frag} {H H1 : Hp} {E : DEnds} {D : Ends} (w : Imp K H E D) (p : Pers H H1) : Imp K H1 E D := ⟨w.nx.on p, w.rt.on p, w.bk.on p, w.ct.on p⟩

def lE (K : PySem.W.Frag) (t : RE) : TE := fun σ H Q => ∃ δ M QD, RepS K H δ σ ∧ Sm K M H ∧ t δ M QD ∧ Wk K H QD Q
def lT (K : PySem.W.Frag) (t : RT) : TT := fun σ H Q => ∃ δ M QD, RepS K H δ σ ∧ Sm K M H ∧ t δ M QD ∧ WkB K H QD Q
def lA (K : PySem.W.Frag) (t : RA) : TA := fun σ H Q => ∃ δ M QD, RepS K H δ σ ∧ Sm K M H ∧ t δ M QD ∧ WkL K H QD Q
def lO (K : PySem.W.Frag) (t : RO) : TO := fun σ H Q => ∃ δ M QD, RepS K H δ σ ∧ Sm K M H ∧ t δ M QD ∧ WkO K H QD Q
def lS (K : PySem.W.Frag) (t : RS) : TS := fun D σ H => ∃ δ M E, RepS K H δ σ ∧ Sm K M H ∧ t E δ M ∧ Imp K H E D
def lG (K : PySem.W.Frag) (g : RG) : TG := fun v σ H Q => ∃ d δ M QD, Rep K H d v ∧ RepS K H δ σ ∧ Sm K M H ∧ g d δ M QD ∧ WkS K H QD Q
def lGs (K : PySem.W.Frag) (g : RGs) : TGs := fun vs σ H Q => ∃ ds δ M QD, Reps K H ds vs ∧ RepS K H δ σ ∧ Sm K M H ∧ g ds δ M QD ∧ WkS K H QD Q

/-! ### weaker readings -/
section
variable {X : Cx} {e : Expr} {es : List Expr} {st : Stmt} {sts : List Stmt}
theorem PE.wk {t t' : TE} (h : PE X e t) (k : ∀ σ H Q, t' σ H Q → t σ H Q) : PE X e t' := ⟨fun pins s σ H Q I w => h.run pins s σ H Q I (k _ _ _ w)⟩
theorem PT.wk {t t' : TT} (h : PT X e t) (k : ∀ σ H Q, t' σ H Q → t σ H Q) : PT X e t' := ⟨fun pins s σ H Q I w => h.run pins s σ H Q I (k _ _ _ w)⟩
theorem PW.wk {t t' : TT} (h : PW X e t) (k : ∀ σ H Q, t' σ H Q → t σ H Q) : PW X e t' := ⟨fun wh pins s σ H Q I w => h.run wh pins s σ H Q I (k _ _ _ w)⟩
theorem PA.wk {t t' : TA} (h : PA X es t) (k : ∀ σ H Q, t' σ H Q → t σ H Q) : PA X es t' := ⟨fun pos pins s σ H Q I w => h.run pos pins s σ H Q I (k _ _ _ w)⟩
theorem PS.wk {t t' : TS} (h : PS X st t) (k : ∀ D σ H, t' D σ H → t D σ H) : PS X st t' := ⟨fun pins s σ H D I w => h.run pins s σ H D I (k _ _ _ w)⟩
theorem PSs.wk {t t' : TS} (h : PSs X sts t) (k : ∀ D σ H, t' D σ H → t D σ H) : PSs X sts t' := ⟨fun pins s σ H D I w => h.run pins s σ H D I (k _ _ _ w)⟩
theorem PG.wk {t t' : TG} (h : PG X e t) (k : ∀ v σ H Q, t' v σ H Q → t v σ H Q) : PG X e t' := ⟨fun pins s σ H v u Q I r w => h.run pins s σ H v u Q I r (k _ _ _ _ w)⟩
theorem PGs.wk {t t' : TGs} (h : PGs X es t) (k : ∀ v σ H Q, t' v σ H Q → t v σ H Q) : PGs X es t' := ⟨fun pins s σ H v u Q I r w => h.run pins s σ H v u Q I r (k _ _ _ _ w)⟩
theorem PI.wk {tg : Expr} {t t' : TI} (h : PI X tg e t) (k : ∀ σ H Q, t' σ H Q → t σ H Q) : PI X tg e t' := ⟨fun pins s σ H Q I w => h.run pins s σ H Q I (k _ _ _ w)⟩
end

/-! ### the readings -/
def dVar (i : Nat) : RE := fun δ M Q => match δ[i]? with
  | some (some d) => Q d M
  | _ => False
def dC (d : D) : RE := fun _ M Q => Q d M
def dNil : RA := fun _ M Q => Q [] M
def dCons (t : RE) (r : RA) : RA := fun δ M Q => t δ M fun d M1 => r δ M1 fun ds M2 => Q (d :: ds) M2
def dOp (rd : D → D → Mp → DK → Prop) (ta tb : RE) : RE := fun δ M Q => ta δ M fun x M1 => tb δ M1 fun y M2 => rd x y M2 Q
def dUn (rd : D → Mp → DK → Prop) (ta : RE) : RE := fun δ M Q => ta δ M fun x M1 => rd x M1 Q
def dTup (t : RA) : RE := fun δ M Q => t δ M fun ds M1 => ds.length ≤ 1000 ∧ Q (.tup ds) M1
def dLst (t : RA) : RE := fun δ M Q => t δ M fun ds M1 => ds.length ≤ 1000 ∧ ∀ p, M1 p = none → Q (.ref p) (mup M1 p (.lst ds))
def dCB (rd : List D → Mp → DK → Prop) (t : RA) : RE := fun δ M Q => t δ M fun ds M1 => rd ds M1 Q
def dTest (t : RE) : RT := fun δ M Q => t δ M fun d M1 => match d with
  | .bl b => Q b M1
  | _ => False
def dAnd (t u : RT) : RT := fun δ M Q => t δ M fun c M1 => if c = true then u δ M1 Q else Q false M1
def dOr (t u : RT) : RT := fun δ M Q => t δ M fun c M1 => if c = true then Q true M1 else u δ M1 Q
def dNot (t : RT) : RT := fun δ M Q => t δ M fun c M1 => Q (!c) M1
def dAndV (ta tb : RE) : RE := fun δ M Q => ta δ M fun x M1 => match x with
  | .bl c => if c = true then tb δ M1 Q else Q (.bl false) M1
  | _ => False
def dOrV (ta tb : RE) : RE := fun δ M Q => ta δ M fun x M1 => match x with
  | .bl c => if c = true then Q (.bl true) M1 else tb δ M1 Q
  | _ => False
def dNotV (ta : RE) : RE := fun δ M Q => ta δ M fun x M1 => match x with
  | .bl c => Q (.bl (!c)) M1
  | _ => False
def dIfE (t : RT) (ta tb : RE) : RE := fun δ M Q => t δ M fun c M1 => if c = true then ta δ M1 Q else tb δ M1 Q
def dChain (r r' : D → D → Mp → DK → Prop) (ta tb tc : RE) : RE := fun δ M Q => ta δ M fun x M1 => tb δ M1 fun y M2 => r x y M2 fun z M3 => match z with
  | .bl k => if k = true then tc δ M3 fun u M4 => r' y u M4 Q else Q (.bl false) M3
  | _ => False
def dNext : RS := fun E δ M => E.nx δ M
def dSeq (t u : RS) : RS := fun E δ M => t { E with nx := u E } δ M
def dBreak : RS := fun E δ M => E.bk δ M
def dCont : RS := fun E δ M => E.ct δ M
def dDrop (te : RE) : RS := fun E δ M => te δ M fun _ M1 => E.nx δ M1
def dRet (te : RE) : RS := fun E δ M => te δ M E.rt
def dRetN : RS := fun E _ M => E.rt .non M
def dIf (c : RT) (t u : RS) : RS := fun E δ M => c δ M fun b M1 => if b = true then t E δ M1 else u E δ M1
def dAsg (te : RE) (g : RG) : RS := fun E δ M => te δ M fun x M1 => g x δ M1 E.nx
def dgName (i : Nat) : RG := fun d δ M Q => Q (δ.set i (some d)) M
def dgNil : RGs := fun ds δ M Q => ds = [] ∧ Q δ M
def dgCons (t : RG) (u : RGs) : RGs := fun ds δ M Q => match ds with
  | [] => False
  | d :: r => t d δ M fun δ1 M1 => u r δ1 M1 Q
def dgTup (n : Nat) (t : RGs) : RG := fun d δ M Q => match d with
  | .tup ds => ds.length = n ∧ t ds δ M Q
  | _ => False

/-! ### expressions -/
section
variable {X : Cx} {a b c e : Expr} {es : List Expr} {ta tb tc te : RE} {t : RA} {pos : Pos}
theorem qe_var (i : Nat) {x : Str} {pos : Pos} (hN : X.N[i]? = some x := by rfl) (hv : Vis X.env.scope x := by first | exact Or.inl rfl | exact Or.inr (Or.inl rfl) | exact Or.inr (Or.inr rfl)) (hd : (x == ("__debug__" : Str)) = false := by decide)
    (hcd : (x == ("__classdict__" : Str)) = false := by decide) : PE X (.Name x pos) (lE X.K (dVar i)) := by
  refine PE.wk (pe_var hN hv hd hcd) fun σ H Q ⟨δ, M, QD, r, s, h, w⟩ => ?_
  unfold dVar at h
  split at h
  · rename_i d e
    obtain ⟨v, g, q⟩ := r.get e
    exact ⟨v, g, w d M v H h q s (Pers.refl H)⟩
  · exact h.elim
theorem qe_c {d : D} {v : V} (h : PE X e (tC v)) (r : ∀ H, Rep X.K H d v) : PE X e (lE X.K (dC d)) :=
  PE.wk h fun σ H Q ⟨δ, M, QD, _, s, h, w⟩ => w d M v H h (r H) s (Pers.refl H)
theorem qe_int {i j pos} : PE X (.Constant (.int i) j pos) (lE X.K (dC (.int i))) := qe_c pe_int fun H => by simp only [Rep]
theorem qe_bl {b j pos} : PE X (.Constant (.bool b) j pos) (lE X.K (dC (.bl b))) := qe_c pe_bl fun H => by simp only [Rep]
theorem qe_non {j pos} : PE X (.Constant .none j pos) (lE X.K (dC .non)) := qe_c pe_non fun H => by simp only [Rep]
theorem qe_str {x j pos} : PE X (.Constant (.str x) j pos) (lE X.K (dC (.str x))) := qe_c pe_str fun H => by simp only [Rep]
theorem qa_nil : PA X [] (lA X.K dNil) := PA.wk pa_nil fun σ H Q ⟨δ, M, QD, _, s, h, w⟩ => w [] M [] H h reps_nil s (Pers.refl H)
theorem qa_cons (ha : PE X e (lE X.K te)) (hr : PA X es (lA X.K t)) (hs : starEach (e :: es) X.env = (false, eval e X.env) :: starEach es X.env := by rfl) : PA X (e :: es) (lA X.K (dCons te t)) := by
  refine PA.wk (pa_cons ha hr hs) fun σ H Q ⟨δ, M, QD, r, s, h, w⟩ => ?_
  refine ⟨δ, M, _, r, s, h, fun d M1 v H1 q1 r1 s1 p1 => ?_⟩
  refine ⟨δ, M1, _, r.mono p1, s1, q1, fun ds M2 vs H2 q2 r2 s2 p2 => ?_⟩
  exact w _ _ _ _ q2 (reps_cons (Rep.mono p2 _ _ r1) r2) s2 (p1.trans p2)
theorem line_1000 {n : Nat} (h : n ≤ 1000) : n ≤ sizeLine := Nat.le_trans h (by decide)
theorem line_mil {n : Nat} (h : n ≤ 1000000) : n ≤ sizeLine := Nat.le_trans h (by decide)
theorem qe_tup {x1} (h : PA X es (lA X.K t)) : PE X (.Tuple es x1 pos) (lE X.K (dTup t)) := by
  refine PE.wk (pe_tup h) fun σ H Q ⟨δ, M, QD, r, s, h, w⟩ => ?_
  refine ⟨δ, M, _, r, s, h, fun ds M1 vs H1 q1 r1 s1 p1 => ⟨by rw [r1.len]; exact line_1000 q1.1, fun p hp => ?_⟩⟩
  have pn : Pers H1 (upd H1 p (.tup vs)) := Pers.new hp
  exact w _ _ _ _ q1.2 (rep_tup_mk upd_same (Reps.mono pn _ _ r1)) (s1.new hp) (p1.trans pn)
theorem qe_lst (h : PA X es (lA X.K t)) : PE X (.List es pos) (lE X.K (dLst t)) := by
  refine PE.wk (pe_lst h) fun σ H Q ⟨δ, M, QD, r, s, h, w⟩ => ?_
  refine ⟨δ, M, _, r, s, h, fun ds M1 vs H1 q1 r1 s1 p1 => ⟨by rw [r1.len]; exact line_1000 q1.1, fun p hp => ?_⟩⟩
  have pn : Pers H1 (upd H1 p (.lst vs)) := Pers.new hp
  exact w _ _ _ _ (q1.2 p (s1.free hp)) (by simp only [Rep]) (s1.put pn ⟨vs, upd_same, Reps.mono pn _ _ r1⟩) (p1.trans pn)

/-- a two-place operation over data -/
def lR (K : PySem.W.Frag) (rd : D → D → Mp → DK → Prop) : R2 := fun v u H Q => ∃ x y M QD, Rep K H x v ∧ Rep K H y u ∧ Sm K M H ∧ rd x y M QD ∧ Wk K H QD Q
theorem lOp {rd : D → D → Mp → DK → Prop} {σ : L2.St} {H : Hp} {Q : VK} (h : lE X.K (dOp rd ta tb) σ H Q) : tOp (lR X.K rd) (lE X.K ta) (lE X.K tb) σ H Q := by
  obtain ⟨δ, M, QD, r, s, h, w⟩ := h
  refine ⟨δ, M, _, r, s, h, fun d M1 v H1 q1 r1 s1 p1 => ?_⟩
  refine ⟨δ, M1, _, r.mono p1, s1, q1, fun y M2 u H2 q2 r2 s2 p2 => ?_⟩
  exact ⟨d, y, M2, QD, Rep.mono p2 _ _ r1, r2, s2, q2, w.on (p1.trans p2)⟩
theorem qe_op {op : Operator} {rd : D → D → Mp → DK → Prop} (ho : OpR X (binaryOp op) (lR X.K rd)) (ha : PE X a (lE X.K ta)) (hb : PE X b (lE X.K tb)) : PE X (.BinOp a op b pos) (lE X.K (dOp rd ta tb)) :=
  PE.wk (pe_op ho ha hb) fun σ H Q h => lOp h
theorem qe_cmp {op : CmpOp} {rd : D → D → Mp → DK → Prop} (ho : OpR X (compareOp op) (lR X.K rd)) (ha : PE X a (lE X.K ta)) (hb : PE X b (lE X.K tb)) (hm : behindInMarks op b = false) : PE X (.Compare a [op] [b] pos) (lE X.K (dOp rd ta tb)) :=
  PE.wk (pe_cmpR ho ha hb hm) fun σ H Q h => lOp h
def lU (K : PySem.W.Frag) (rd : D → Mp → DK → Prop) : V → Hp → VK → Prop := fun v H Q => ∃ x M QD, Rep K H x v ∧ Sm K M H ∧ rd x M QD ∧ Wk K H QD Q
theorem qe_un {op : UnaryOp} {rd : D → Mp → DK → Prop} (ho : UnR X (unaryOp op) (lU X.K rd)) (ha : PE X a (lE X.K ta)) : PE X (.UnaryOp op a pos) (lE X.K (dUn rd ta)) := by
  refine PE.wk (pe_un ho ha) fun σ H Q ⟨δ, M, QD, r, s, h, w⟩ => ?_
  exact ⟨δ, M, _, r, s, h, fun d M1 v H1 q1 r1 s1 p1 => ⟨d, M1, QD, r1, s1, q1, w.on p1⟩⟩
def lC (K : PySem.W.Frag) (rd : List D → Mp → DK → Prop) : List V → Hp → VK → Prop := fun vs H Q => ∃ ds M QD, Reps K H ds vs ∧ Sm K M H ∧ rd ds M QD ∧ Wk K H QD Q
theorem lCB {rd : List D → Mp → DK → Prop} {σ : L2.St} {H : Hp} {Q : VK} (h : lE X.K (dCB rd t) σ H Q) : tCB (lC X.K rd) (lA X.K t) σ H Q := by
  obtain ⟨δ, M, QD, r, s, h, w⟩ := h
  exact ⟨δ, M, _, r, s, h, fun ds M1 vs H1 q1 r1 s1 p1 => ⟨ds, M1, QD, r1, s1, q1, w.on p1⟩⟩
theorem qe_callB {x : Str} {id : String} {p : Pos} {rd : List D → Mp → DK → Prop} (hc : CallR X (.builtin id) (lC X.K rd)) (hg : Gl X x) (hm : X.mg x = none) (hv : bootBuiltins x = some (.builtin id)) (ha : PA X (e :: es) (lA X.K t)) (hn : x ≠ "__name__" := by decide) (hdb : (x == ("__debug__" : Str)) = false := by decide)
    (he : starEach (e :: es) X.env = (false, eval e X.env) :: starEach es X.env := by rfl) (hpl : (backTo pos (starEach es X.env)).any (·.1) = false := by rfl) : PE X (.Call (.Name x p) (e :: es) [] pos) (lE X.K (dCB rd t)) :=
  PE.wk (pe_callB hc hg hm hv ha hn hdb he hpl) fun σ H Q h => lCB h
theorem qe_callTy {x : Str} {T : String} {p : Pos} {rd : List D → Mp → DK → Prop} (hc : CallR X (.type T) (lC X.K rd)) (hg : Gl X x) (hm : X.mg x = none) (hv : bootBuiltins x = some (.type T)) (ha : PA X (e :: es) (lA X.K t)) (hn : x ≠ "__name__" := by decide) (hdb : (x == ("__debug__" : Str)) = false := by decide)
    (he : starEach (e :: es) X.env = (false, eval e X.env) :: starEach es X.env := by rfl) (hpl : (backTo pos (starEach es X.env)).any (·.1) = false := by rfl) : PE X (.Call (.Name x p) (e :: es) [] pos) (lE X.K (dCB rd t)) :=
  PE.wk (pe_callTy hc hg hm hv ha hn hdb he hpl) fun σ H Q h => lCB h

/-! ### tests -/
variable {tA tB' : RT} {rest : List Expr}
theorem qt_val (h : PE X e (lE X.K te)) (he : ∀ whole, isTrue e X.env whole = (do let v ← whole; standAt e.pos; holding [v] (truthy v)) := by intro _; rfl) : PT X e (lT X.K (dTest te)) := by
  refine PT.wk (pt_val h he) fun σ H Q ⟨δ, M, QD, r, s, h, w⟩ => ?_
  refine ⟨δ, M, _, r, s, h, fun d M1 v H1 q1 r1 s1 p1 => ?_⟩
  cases d with
  | bl b => simp only [Rep] at r1; exact ⟨b, r1, w b M1 H1 q1 s1 p1⟩
  | _ => exact q1.elim
theorem qt_cmp {op : CmpOp} {rd : D → D → Mp → DK → Prop} (ho : OpR X (compareOp op) (lR X.K rd)) (ha : PE X a (lE X.K ta)) (hb : PE X b (lE X.K tb)) (hm : behindInMarks op b = false) : PT X (.Compare a [op] [b] pos) (lT X.K (dTest (dOp rd ta tb))) := by
  refine PT.wk (pt_cmpR ho ha hb hm) fun σ H Q ⟨δ, M, QD, r, s, h, w⟩ => ?_
  refine lOp (X := X) ⟨δ, M, _, r, s, h, fun d M1 v H1 q1 r1 s1 p1 => ?_⟩
  cases d with
  | bl b => simp only [Rep] at r1; exact ⟨b, r1, w b M1 H1 q1 s1 p1⟩
  | _ => exact q1.elim
theorem lChain {r r' : D → D → Mp → DK → Prop} {σ : L2.St} {H : Hp} {Q : VK} (h : lE X.K (dChain r r' ta tb tc) σ H Q) : tChain (lR X.K r) (lR X.K r') (lE X.K ta) (lE X.K tb) (lE X.K tc) σ H Q := by
  obtain ⟨δ, M, QD, rr, s, h, w⟩ := h
  refine ⟨δ, M, _, rr, s, h, fun x M1 v H1 q1 r1 s1 p1 => ?_⟩
  refine ⟨δ, M1, _, rr.mono p1, s1, q1, fun y M2 u H2 q2 r2 s2 p2 => ?_⟩
  refine ⟨x, y, M2, _, Rep.mono p2 _ _ r1, r2, s2, q2, fun z M3 zv H3 q3 r3 s3 p3 => ?_⟩
  cases z with
  | bl k =>
    simp only [Rep] at r3
    refine ⟨k, r3, ?_⟩
    cases k with
    | true =>
      dsimp only at q3
      rw [if_pos rfl] at q3 ⊢
      refine ⟨δ, M3, _, rr.mono ((p1.trans p2).trans p3), s3, q3, fun z' M4 zu H4 q4 r4 s4 p4 => ?_⟩
      exact ⟨y, z', M4, QD, Rep.mono (p3.trans p4) _ _ r2, r4, s4, q4, w.on (((p1.trans p2).trans p3).trans p4)⟩
    | false =>
      dsimp only at q3
      rw [if_neg Bool.false_ne_true] at q3 ⊢
      exact w _ _ _ _ q3 (by simp only [Rep]) s3 ((p1.trans p2).trans p3)
  | _ => exact q3.elim
theorem qe_chain {op op' : CmpOp} {r r' : D → D → Mp → DK → Prop} (ho : OpR X (compareOp op) (lR X.K r)) (ho' : OpR X (compareOp op') (lR X.K r')) (ha : PE X a (lE X.K ta)) (hb : PE X b (lE X.K tb)) (hc : PE X c (lE X.K tc))
    (hm : lastMarks [op, op'] [b, c] = false := by with_unfolding_all rfl) : PE X (.Compare a [op, op'] [b, c] pos) (lE X.K (dChain r r' ta tb tc)) :=
  PE.wk (pe_chain ho ho' ha hb hc hm) fun σ H Q h => lChain h
theorem qt_chain {op op' : CmpOp} {r r' : D → D → Mp → DK → Prop} (ho : OpR X (compareOp op) (lR X.K r)) (ho' : OpR X (compareOp op') (lR X.K r')) (ha : PE X a (lE X.K ta)) (hb : PE X b (lE X.K tb)) (hc : PE X c (lE X.K tc))
    (hm : lastMarks [op, op'] [b, c] = false := by with_unfolding_all rfl) : PT X (.Compare a [op, op'] [b, c] pos) (lT X.K (dTest (dChain r r' ta tb tc))) := by
  refine PT.wk (pt_chain ho ho' ha hb hc hm) fun σ H Q ⟨δ, M, QD, r, s, h, w⟩ => ?_
  refine lChain (X := X) ⟨δ, M, _, r, s, h, fun d M1 v H1 q1 r1 s1 p1 => ?_⟩
  cases d with
  | bl b => simp only [Rep] at r1; exact ⟨b, r1, w b M1 H1 q1 s1 p1⟩
  | _ => exact q1.elim
theorem qw_and1 (ha : PT X a (lT X.K tA)) : PW X (.BoolOp .And [a] pos) (lT X.K tA) := pw_and1 ha
theorem qw_or1 (ha : PT X a (lT X.K tA)) : PW X (.BoolOp .Or [a] pos) (lT X.K tA) := pw_or1 ha
theorem qw_and (ha : PT X a (lT X.K tA)) (hb : PW X (.BoolOp .And (b :: rest) pos) (lT X.K tB')) : PW X (.BoolOp .And (a :: b :: rest) pos) (lT X.K (dAnd tA tB')) := by
  refine PW.wk (pw_and ha hb) fun σ H Q ⟨δ, M, QD, r, s, h, w⟩ => ?_
  refine ⟨δ, M, _, r, s, h, fun c M1 H1 q1 s1 p1 => ?_⟩
  cases c with
  | true => rw [if_pos rfl] at q1 ⊢; exact ⟨δ, M1, QD, r.mono p1, s1, q1, w.on p1⟩
  | false => rw [if_neg Bool.false_ne_true] at q1 ⊢; exact w _ _ _ q1 s1 p1
theorem qw_or (ha : PT X a (lT X.K tA)) (hb : PW X (.BoolOp .Or (b :: rest) pos) (lT X.K tB')) : PW X (.BoolOp .Or (a :: b :: rest) pos) (lT X.K (dOr tA tB')) := by
  refine PW.wk (pw_or ha hb) fun σ H Q ⟨δ, M, QD, r, s, h, w⟩ => ?_
  refine ⟨δ, M, _, r, s, h, fun c M1 H1 q1 s1 p1 => ?_⟩
  cases c with
  | true => rw [if_pos rfl] at q1 ⊢; exact w _ _ _ q1 s1 p1
  | false => rw [if_neg Bool.false_ne_true] at q1 ⊢; exact ⟨δ, M1, QD, r.mono p1, s1, q1, w.on p1⟩
theorem qt_not (ha : PT X a (lT X.K tA)) : PT X (.UnaryOp .Not a pos) (lT X.K (dNot tA)) := by
  refine PT.wk (pt_not ha) fun σ H Q ⟨δ, M, QD, r, s, h, w⟩ => ?_
  exact ⟨δ, M, _, r, s, h, fun c M1 H1 q1 s1 p1 => w _ _ _ q1 s1 p1⟩
theorem qe_one {op} (h : PE X a (lE X.K ta)) : PE X (.BoolOp op [a] pos) (lE X.K ta) := pe_one h
theorem qe_and (ha : PE X a (lE X.K ta)) (hb : PE X (.BoolOp .And (b :: rest) pos) (lE X.K tb)) : PE X (.BoolOp .And (a :: b :: rest) pos) (lE X.K (dAndV ta tb)) := by
  refine PE.wk (pe_and ha hb) fun σ H Q ⟨δ, M, QD, r, s, h, w⟩ => ?_
  refine ⟨δ, M, _, r, s, h, fun d M1 v H1 q1 r1 s1 p1 => ?_⟩
  cases d with
  | bl c =>
    simp only [Rep] at r1
    refine ⟨c, r1, ?_⟩
    cases c with
    | true => dsimp only at q1; rw [if_pos rfl] at q1 ⊢; exact ⟨δ, M1, QD, r.mono p1, s1, q1, w.on p1⟩
    | false => dsimp only at q1; rw [if_neg Bool.false_ne_true] at q1 ⊢; exact w _ _ _ _ q1 (by simp only [Rep]) s1 p1
  | _ => exact q1.elim
theorem qe_or (ha : PE X a (lE X.K ta)) (hb : PE X (.BoolOp .Or (b :: rest) pos) (lE X.K tb)) : PE X (.BoolOp .Or (a :: b :: rest) pos) (lE X.K (dOrV ta tb)) := by
  refine PE.wk (pe_or ha hb) fun σ H Q ⟨δ, M, QD, r, s, h, w⟩ => ?_
  refine ⟨δ, M, _, r, s, h, fun d M1 v H1 q1 r1 s1 p1 => ?_⟩
  cases d with
  | bl c =>
    simp only [Rep] at r1
    refine ⟨c, r1, ?_⟩
    cases c with
    | true => dsimp only at q1; rw [if_pos rfl] at q1 ⊢; exact w _ _ _ _ q1 (by simp only [Rep]) s1 p1
    | false => dsimp only at q1; rw [if_neg Bool.false_ne_true] at q1 ⊢; exact ⟨δ, M1, QD, r.mono p1, s1, q1, w.on p1⟩
  | _ => exact q1.elim
theorem qe_not (ha : PE X a (lE X.K ta)) : PE X (.UnaryOp .Not a pos) (lE X.K (dNotV ta)) := by
  refine PE.wk (pe_not ha) fun σ H Q ⟨δ, M, QD, r, s, h, w⟩ => ?_
  refine ⟨δ, M, _, r, s, h, fun d M1 v H1 q1 r1 s1 p1 => ?_⟩
  cases d with
  | bl c => simp only [Rep] at r1; exact ⟨c, r1, w _ _ _ _ q1 (by simp only [Rep]) s1 p1⟩
  | _ => exact q1.elim
theorem qe_ifExp (hc : PT X c (lT X.K tA)) (ha : PE X a (lE X.K ta)) (hb : PE X b (lE X.K tb)) : PE X (.IfExp c a b pos) (lE X.K (dIfE tA ta tb)) := by
  refine PE.wk (pe_ifExp hc ha hb) fun σ H Q ⟨δ, M, QD, r, s, h, w⟩ => ?_
  refine ⟨δ, M, _, r, s, h, fun c M1 H1 q1 s1 p1 => ?_⟩
  cases c with
  | true => rw [if_pos rfl] at q1 ⊢; exact ⟨δ, M1, QD, r.mono p1, s1, q1, w.on p1⟩
  | false => rw [if_neg Bool.false_ne_true] at q1 ⊢; exact ⟨δ, M1, QD, r.mono p1, s1, q1, w.on p1⟩
end

/-! ### statements -/
section
variable {X : Cx} {st : Stmt} {rest : List Stmt} {t u : RS} {e : Expr} {te : RE} {pos : Pos}
theorem qss_nil : PSs X [] (lS X.K dNext) := PSs.wk pss_nil fun D σ H ⟨δ, M, E, r, s, h, w⟩ => w.nx _ _ _ _ h r s (Pers.refl H)
theorem qss_cons (h1 : PS X st (lS X.K t)) (h2 : PSs X rest (lS X.K u)) : PSs X (st :: rest) (lS X.K (dSeq t u)) := by
  refine PSs.wk (pss_cons h1 h2) fun D σ H ⟨δ, M, E, r, s, h, w⟩ => ?_
  exact ⟨δ, M, _, r, s, h, ⟨fun δ' M' σ' H' q r' s' p => ⟨δ', M', E, r', s', q, w.on p⟩, w.rt, w.bk, w.ct⟩⟩
theorem qss_one (h1 : PS X st (lS X.K t)) : PSs X [st] (lS X.K t) := pss_one h1
theorem qs_pass : PS X (.Pass pos) (lS X.K dNext) := PS.wk ps_pass fun D σ H ⟨δ, M, E, r, s, h, w⟩ => w.nx _ _ _ _ h r s (Pers.refl H)
theorem qs_break : PS X (.Break pos) (lS X.K dBreak) := PS.wk ps_break fun D σ H ⟨δ, M, E, r, s, h, w⟩ => w.bk _ _ _ _ h r s (Pers.refl H)
theorem qs_continue : PS X (.Continue pos) (lS X.K dCont) := PS.wk ps_continue fun D σ H ⟨δ, M, E, r, s, h, w⟩ => w.ct _ _ _ _ h r s (Pers.refl H)
theorem qs_expr (he : PE X e (lE X.K te)) (hs : swapsWith e none pos.line X.env = pure false := by rfl) : PS X (.Expr e pos) (lS X.K (dDrop te)) := by
  refine PS.wk (ps_expr he hs) fun D σ H ⟨δ, M, E, r, s, h, w⟩ => ?_
  exact ⟨δ, M, _, r, s, h, fun d M1 v H1 q1 r1 s1 p1 => w.nx _ _ _ _ q1 (r.mono p1) s1 p1⟩
theorem qs_ret (he : PE X e (lE X.K te)) : PS X (.Return (some e) pos) (lS X.K (dRet te)) := by
  refine PS.wk (ps_ret he) fun D σ H ⟨δ, M, E, r, s, h, w⟩ => ?_
  exact ⟨δ, M, _, r, s, h, w.rt⟩
theorem qs_retN : PS X (.Return none pos) (lS X.K dRetN) := PS.wk ps_retN fun D σ H ⟨δ, M, E, r, s, h, w⟩ => w.rt _ _ _ _ h (by simp only [Rep]) s (Pers.refl H)
theorem qs_if {c : Expr} {a b : List Stmt} {tc : RT} (hc : PT X c (lT X.K tc)) (ha : PSs X a (lS X.K t)) (hb : PSs X b (lS X.K u)) : PS X (.If c a b pos) (lS X.K (dIf tc t u)) := by
  refine PS.wk (ps_if hc ha hb) fun D σ H ⟨δ, M, E, r, s, h, w⟩ => ?_
  refine ⟨δ, M, _, r, s, h, fun c M1 H1 q1 s1 p1 => ?_⟩
  cases c with
  | true => rw [if_pos rfl] at q1 ⊢; exact ⟨δ, M1, E, r.mono p1, s1, q1, w.on p1⟩
  | false => rw [if_neg Bool.false_ne_true] at q1 ⊢; exact ⟨δ, M1, E, r.mono p1, s1, q1, w.on p1⟩
theorem qg_name (i : Nat) {x : Str} (hN : X.N.Nodup) (hi : X.N[i]? = some x := by rfl) (hx : Loc X.env.scope x := by first | exact Or.inl rfl | exact Or.inr rfl) (hf : X.fn x = true ∨ X.env.scope.names.lookup x = some .local := by first | exact .inl rfl | exact .inr rfl | assumption) : PG X (.Name x pos) (lG X.K (dgName i)) := by
  refine PG.wk (pg_name hN hi hx hf) fun v σ H Q ⟨d, δ, M, QD, rd, r, s, h, w⟩ => ?_
  exact w _ _ _ _ h (r.set i rd) s (Pers.refl H)
theorem qgs_nil : PGs X [] (lGs X.K dgNil) := PGs.wk pgs_nil fun vs σ H Q ⟨ds, δ, M, QD, rd, r, s, h, w⟩ => by
  obtain ⟨rfl, h⟩ := h
  exact ⟨reps_nil_inv rd, w _ _ _ _ h r s (Pers.refl H)⟩
theorem qgs_cons {e : Expr} {es : List Expr} {t : RG} {u : RGs} (h1 : PG X e (lG X.K t)) (h2 : PGs X es (lGs X.K u))
    (hs : (assignEach (e :: es) X.env).map (·.2) = assign e X.env :: (assignEach es X.env).map (·.2) := by rfl) : PGs X (e :: es) (lGs X.K (dgCons t u)) := by
  refine PGs.wk (pgs_cons h1 h2 hs) fun vs σ H Q ⟨ds, δ, M, QD, rd, r, s, h, w⟩ => ?_
  cases ds with
  | nil => exact h.elim
  | cons d ds =>
    obtain ⟨v, vr, rfl, a, b⟩ := reps_cons_inv rd
    refine ⟨v, vr, rfl, d, δ, M, _, a, r, s, h, fun δ1 M1 σ1 H1 q1 r1 s1 p1 => ?_⟩
    exact ⟨ds, δ1, M1, QD, Reps.mono p1 _ _ b, r1, s1, q1, w.on p1⟩
theorem qg_tup {es : List Expr} {k : Nat} {t : RGs} {n : Nat} (hc : X.calm = true) (h : PGs X es (lGs X.K t))
    (hn : (assignEach es X.env).length = n := by rfl) (hst : (assignEach es X.env).findIdx? (·.1) = none := by rfl) : PG X (.Tuple es k pos) (lG X.K (dgTup n t)) := by
  refine PG.wk (pg_tup hc h hn hst) fun v σ H Q ⟨d, δ, M, QD, rd, r, s, h, w⟩ => ?_
  cases d with
  | tup ds =>
    obtain ⟨p, xs, rfl, hs, hr⟩ := rep_tup rd
    exact ⟨p, xs, rfl, hs, by rw [hr.len]; exact h.1, ds, δ, M, QD, hr, r, s, h.2, w⟩
  | _ => exact h.elim
theorem qs_set (i : Nat) {x : Str} {pos' : Pos} (hN : X.N.Nodup) (he : PE X e (lE X.K te)) (hi : X.N[i]? = some x := by rfl) (hx : Loc X.env.scope x := by first | exact Or.inl rfl | exact Or.inr rfl) (hs : swapsWith e (some (.Name x pos')) pos.line X.env = pure false := by rfl) (hf : X.fn x = true ∨ X.env.scope.names.lookup x = some .local := by first | exact .inl rfl | exact .inr rfl | assumption) :
    PS X (.Assign [.Name x pos'] e pos) (lS X.K (dAsg te (dgName i))) := by
  refine PS.wk (ps_set hN hi hx he hs hf) fun D σ H ⟨δ, M, E, r, s, h, w⟩ => ?_
  exact ⟨δ, M, _, r, s, h, fun d M1 v H1 q1 r1 s1 p1 => w.nx _ _ _ _ q1 ((r.mono p1).set i r1) s1 p1⟩
theorem qs_asg {tg : Expr} {g : RG} (he : PE X e (lE X.K te)) (hg : PG X tg (lG X.K g)) (hs : swapsWithSole [tg] e pos.line X.env = pure false := by rfl) (hw : swappedStores [tg] e X.env = pure none := by rfl)
    (h1 : (assignEach [tg] X.env).map (·.2) = [assign tg X.env] := by rfl) : PS X (.Assign [tg] e pos) (lS X.K (dAsg te g)) := by
  refine PS.wk (ps_asg he hg hs hw h1) fun D σ H ⟨δ, M, E, r, s, h, w⟩ => ?_
  exact ⟨δ, M, _, r, s, h, fun d M1 v H1 q1 r1 s1 p1 => ⟨d, δ, M1, _, r1, r.mono p1, s1, q1, w.nx.on p1⟩⟩
end
end Dl
/-! Operators, subscripts, loops, comprehensions, calls over data. -/
namespace Dl
open PySem PySem.Spec PyProof.Rows L2

/-! ### operators -/
def rdII (C : Int → Int → Prop) (g : Int → Int → D) : D → D → Mp → DK → Prop := fun x y M Q => match x, y with
  | .int i, .int j => C i j ∧ Q (g i j) M
  | _, _ => False
def rdI0 (g : Int → Int → D) : D → D → Mp → DK → Prop := fun x y M Q => match x, y with
  | .int i, .int j => Q (g i j) M
  | _, _ => False
/-- a list's items -/
def lstOf (M : Mp) (a : Addr) : Option (List D) := match M a with
  | some (.lst ds) => some ds
  | _ => none
def rdAdd : D → D → Mp → DK → Prop := fun x y M Q => match x with
  | .int i => (match y with
    | .int j => Q (.int (i + j)) M
    | _ => False)
  | .str i => (match y with
    | .str j => i.length + j.length ≤ 1000000 ∧ Q (.str (i ++ j)) M
    | _ => False)
  | .tup i => (match y with
    | .tup j => i.length + j.length ≤ 1000000 ∧ Q (.tup (i ++ j)) M
    | _ => False)
  | .ref a => (match y with
    | .ref b => (match lstOf M a, lstOf M b with
      | some i, some j => i.length + j.length ≤ 1000000 ∧ ∀ p, M p = none → Q (.ref p) (mup M p (.lst (i ++ j)))
      | _, _ => False)
    | _ => False)
  | _ => False
theorem lstOf_some {M : Mp} {a : Addr} {ds : List D} (h : lstOf M a = some ds) : M a = some (.lst ds) := by
  unfold lstOf at h
  split at h
  · rename_i e; cases h; exact e
  · cases h
section
variable {X : Cx} {op : Operator}
theorem q_i0 {f : Value → Value → Sem Value} {g : Int → Int → V} {g' : Int → Int → D} (ho : OpR X f (rI0 g)) (hg : ∀ H i j, Rep X.K H (g' i j) (g i j)) : OpR X f (lR X.K (rdI0 g')) := by
  intro pins s σ H v u vv uu Q I rv ru ⟨x, y, M, QD, rx, ry, sm, h, w⟩
  cases x with
  | int i =>
    cases y with
    | int j =>
      simp only [Rep] at rx ry
      exact ho pins s σ H v u vv uu Q I rv ru ⟨i, j, rx, ry, w _ _ _ _ h (hg H i j) sm (Pers.refl H)⟩
    | _ => exact h.elim
  | _ => cases y <;> exact h.elim
theorem q_ii {f : Value → Value → Sem Value} {C C' : Int → Int → Prop} {g : Int → Int → V} {g' : Int → Int → D} (ho : OpR X f (rI C g)) (hC : ∀ i j, C' i j → C i j) (hg : ∀ H i j, Rep X.K H (g' i j) (g i j)) : OpR X f (lR X.K (rdII C' g')) := by
  intro pins s σ H v u vv uu Q I rv ru ⟨x, y, M, QD, rx, ry, sm, h, w⟩
  cases x with
  | int i =>
    cases y with
    | int j =>
      simp only [Rep] at rx ry
      exact ho pins s σ H v u vv uu Q I rv ru ⟨i, j, rx, ry, hC i j h.1, w _ _ _ _ h.2 (hg H i j) sm (Pers.refl H)⟩
    | _ => exact h.elim
  | _ => cases y <;> exact h.elim
theorem o_sub : OpR X (binaryOp .Sub) (lR X.K (rdI0 fun i j => .int (i - j))) := q_i0 op_sub fun H i j => by simp only [Rep]
theorem o_mod : OpR X (binaryOp .Mod) (lR X.K (rdII (fun _ j => 0 < j) fun i j => .int (i % j))) := q_ii op_mod (fun _ _ h => h) fun H i j => by simp only [Rep]
theorem o_fdiv : OpR X (binaryOp .FloorDiv) (lR X.K (rdII (fun _ j => 0 < j ∧ j < 1073741824) fun i j => .int (i / j))) := q_ii op_fdiv (fun _ _ h => h) fun H i j => by simp only [Rep]
theorem o_mulI : OpR X (binaryOp .Mult) (lR X.K (rdII (fun i j => (-18446744073709551616 < i ∧ i < 18446744073709551616) ∨ (-18446744073709551616 < j ∧ j < 18446744073709551616)) fun i j => .int (i * j))) :=
  q_ii op_mul (fun i j h => by unfold CMul; rcases h with h | h <;> first | exact .inl ⟨by omega, by omega⟩ | exact .inr ⟨by omega, by omega⟩) fun H i j => by simp only [Rep]
theorem o_pow : OpR X (binaryOp .Pow) (lR X.K (rdII (fun i j => 0 ≤ j ∧ j ≤ 1000 ∧ -1000 < i ∧ i < 1000) fun i j => .int (i ^ j.toNat))) :=
  q_ii op_pow (fun i j h => ⟨h.1, by omega, by omega⟩) fun H i j => by simp only [Rep]
theorem o_lt : OpR X (compareOp .Lt) (lR X.K (rdI0 fun i j => .bl (decide (i < j)))) := q_i0 op_lt fun H i j => by simp only [Rep]
theorem o_le : OpR X (compareOp .LtE) (lR X.K (rdI0 fun i j => .bl (decide (i ≤ j)))) := q_i0 op_le fun H i j => by simp only [Rep]
theorem o_gt : OpR X (compareOp .Gt) (lR X.K (rdI0 fun i j => .bl (decide (j < i)))) := q_i0 op_gt fun H i j => by simp only [Rep]
theorem o_ge : OpR X (compareOp .GtE) (lR X.K (rdI0 fun i j => .bl (decide (j ≤ i)))) := q_i0 op_ge fun H i j => by simp only [Rep]
theorem o_add : OpR X (binaryOp .Add) (lR X.K rdAdd) := by
  intro pins s σ H v u vv uu Q I rv ru ⟨x, y, M, QD, rx, ry, sm, h, w⟩
  cases x with
  | int i =>
    cases y with
    | int j =>
      simp only [Rep] at rx ry
      exact op_add pins s σ H v u vv uu Q I rv ru ⟨i, j, rx, ry, w _ _ _ _ h (by simp only [Rep]) sm (Pers.refl H)⟩
    | _ => exact h.elim
  | str i =>
    cases y with
    | str j =>
      simp only [Rep] at rx ry
      exact op_add_str pins s σ H v u vv uu Q I rv ru ⟨i, j, rx, ry, line_mil h.1, w _ _ _ _ h.2 (by simp only [Rep]) sm (Pers.refl H)⟩
    | _ => exact h.elim
  | tup i =>
    cases y with
    | tup j =>
      obtain ⟨p, xs, rfl, hs, hr⟩ := rep_tup rx
      obtain ⟨q, ys, rfl, gs, gr⟩ := rep_tup ry
      refine op_catA pins s σ H _ _ vv uu Q I rv ru ⟨p, q, xs, ys, rfl, rfl, hs, gs, line_mil (by rw [hr.len, gr.len]; exact h.1), fun e => ?_, fun _ e => ?_, fun _ _ t ht => ?_⟩
      · subst e
        have e : i = [] := List.eq_nil_of_length_eq_zero hr.len.symm
        subst e
        exact w _ _ _ _ h.2 ry sm (Pers.refl H)
      · subst e
        have e : j = [] := List.eq_nil_of_length_eq_zero gr.len.symm
        subst e
        exact w _ _ _ _ h.2 (by rw [List.append_nil]; exact rx) sm (Pers.refl H)
      · have pn : Pers H (upd H t (.tup (xs ++ ys))) := Pers.new ht
        exact w _ _ _ _ h.2 (rep_tup_mk upd_same (Reps.mono pn _ _ (hr.app gr))) (sm.new ht) pn
    | _ => exact h.elim
  | ref a =>
    cases y with
    | ref b =>
      dsimp only [rdAdd] at h
      split at h
      · rename_i i j e1 e2
        obtain ⟨xs, g1, r1⟩ := sm _ _ (lstOf_some e1)
        obtain ⟨ys, g2, r2⟩ := sm _ _ (lstOf_some e2)
        simp only [Rep] at rx ry
        refine op_cat pins s σ H _ _ vv uu Q I rv ru ⟨a, b, xs, ys, rx, ry, g1, g2, line_mil (by rw [r1.len, r2.len]; exact h.1), fun p hp => ?_⟩
        have pn : Pers H (upd H p (.lst (xs ++ ys))) := Pers.new hp
        exact w _ _ _ _ (h.2 p (sm.free hp)) (by simp only [Rep]) (sm.put pn ⟨_, upd_same, Reps.mono pn _ _ (r1.app r2)⟩) pn
      · exact h.elim
    | _ => exact h.elim
  | _ => exact h.elim
end
def rdNeg : D → Mp → DK → Prop := fun x M Q => match x with
  | .int i => Q (.int (-i)) M
  | _ => False
theorem u_neg {X : Cx} : UnR X (unaryOp .USub) (lU X.K rdNeg) := by
  intro pins s σ H v u Q I rv ⟨x, M, QD, rx, sm, h, w⟩
  cases x with
  | int i => simp only [Rep] at rx; exact un_neg pins s σ H v u Q I rv ⟨i, rx, w _ _ _ _ h (by simp only [Rep]) sm (Pers.refl H)⟩
  | _ => exact h.elim
/-- is None, is not None -/
def isN : D → Bool
  | .non => true
  | _ => false
def dIsN (ta : RE) : RE := fun δ M Q => ta δ M fun x M1 => Q (.bl (isN x)) M1
def dNotN (ta : RE) : RE := fun δ M Q => ta δ M fun x M1 => Q (.bl (!isN x)) M1
theorem rep_isN {K : PySem.W.Frag} {H : Hp} {d : D} {v : V} (h : Rep K H d v) : decide (v = .non) = isN d := by
  cases d with
  | tup ds => obtain ⟨p, xs, rfl, _⟩ := rep_tup h; rfl
  | fzt ds => obtain ⟨p, xs, rfl, _⟩ := rep_fzt h; rfl
  | fzl ds => obtain ⟨p, xs, rfl, _⟩ := rep_fzl h; rfl
  | _ => simp only [Rep] at h; subst h; rfl
section
variable {X : Cx} {a : Expr} {ta : RE} {pos : Pos}
theorem qe_isN {j pos'} (ha : PE X a (lE X.K ta)) : PE X (.Compare a [.Is] [.Constant .none j pos'] pos) (lE X.K (dIsN ta)) := by
  refine PE.wk (pe_cmp (pc_isN ha) rfl) fun σ H Q ⟨δ, M, QD, r, s, h, w⟩ => ?_
  exact ⟨δ, M, _, r, s, h, fun d M1 v H1 q1 r1 s1 p1 => w _ _ _ _ q1 (by rw [rep_isN r1]; simp only [Rep]) s1 p1⟩
theorem qe_notN {j pos'} (ha : PE X a (lE X.K ta)) : PE X (.Compare a [.IsNot] [.Constant .none j pos'] pos) (lE X.K (dNotN ta)) := by
  refine PE.wk (pe_cmp (pc_notN ha) rfl) fun σ H Q ⟨δ, M, QD, r, s, h, w⟩ => ?_
  exact ⟨δ, M, _, r, s, h, fun d M1 v H1 q1 r1 s1 p1 => w _ _ _ _ q1 (by rw [rep_isN r1]; simp only [Rep]) s1 p1⟩
theorem qt_isN {j pos'} (ha : PE X a (lE X.K ta)) : PT X (.Compare a [.Is] [.Constant .none j pos'] pos) (lT X.K (dTest (dIsN ta))) := by
  refine PT.wk (pt_cmp (pc_isN ha) rfl) fun σ H Q ⟨δ, M, QD, r, s, h, w⟩ => ?_
  exact ⟨δ, M, _, r, s, h, fun d M1 v H1 q1 r1 s1 p1 => ⟨_, rfl, by rw [rep_isN r1]; exact w _ _ _ q1 s1 p1⟩⟩
theorem qt_notN {j pos'} (ha : PE X a (lE X.K ta)) : PT X (.Compare a [.IsNot] [.Constant .none j pos'] pos) (lT X.K (dTest (dNotN ta))) := by
  refine PT.wk (pt_cmp (pc_notN ha) rfl) fun σ H Q ⟨δ, M, QD, r, s, h, w⟩ => ?_
  exact ⟨δ, M, _, r, s, h, fun d M1 v H1 q1 r1 s1 p1 => ⟨_, rfl, by rw [rep_isN r1]; exact w _ _ _ q1 s1 p1⟩⟩
end

/-! ### == -/
mutual
/-- data that == looks through -/
def py : D → PyData
  | .non => .none
  | .bl b => .bool b
  | .int i => .int i
  | .str x => .str x
  | .ty _ => .none
  | .ref _ => .none
  | .tup ds => .tuple (pys ds)
  | .fzl ds => .list (pys ds)
  | .fzt ds => .tuple (pys ds)
def pys : List D → List PyData
  | [] => []
  | d :: ds => py d :: pys ds
end
mutual
def plain : D → Bool
  | .ty _ => false
  | .ref _ => false
  | .tup ds => plains ds
  | .fzl ds => plains ds
  | .fzt ds => plains ds
  | _ => true
def plains : List D → Bool
  | [] => true
  | d :: ds => plain d && plains ds
end
/-- what stands for a datum, lists looked up: n deep -/
inductive Dt (M : Mp) : D → PyData → Prop where
  | pl (d : D) (h : plain d = true) : Dt M d (py d)
  | lst {a : Addr} {ds : List D} {ps : List PyData} (h : M a = some (.lst ds)) (r : Paired (Dt M) ds ps) : Dt M (.ref a) (.list ps)
  | tup {ds : List D} {ps : List PyData} (r : Paired (Dt M) ds ps) : Dt M (.tup ds) (.tuple ps)
theorem Dt.lstP {M : Mp} {a : Addr} {ds : List D} (h : M a = some (.lst ds)) (hp : plains ds = true) : Dt M (.ref a) (.list (pys ds)) := by
  refine .lst h ?_
  clear h
  induction ds with
  | nil => exact .nil
  | cons d r ih =>
    simp only [plains, Bool.and_eq_true] at hp
    simp only [pys]
    exact .cons (.pl d hp.1) (ih hp.2)
mutual
theorem dp_pl {K : PySem.W.Frag} {H : Hp} : ∀ (d : D) (v : V), plain d = true → Rep K H d v → Dp K H v (py d)
  | .non, v, _, h => by simp only [Rep] at h; subst h; exact .non
  | .bl b, v, _, h => by simp only [Rep] at h; subst h; exact .bl b
  | .int i, v, _, h => by simp only [Rep] at h; subst h; exact .int i
  | .str x, v, _, h => by simp only [Rep] at h; subst h; exact .str x
  | .ty n, v, p, h => by simp [plain] at p
  | .ref a, v, p, h => by simp [plain] at p
  | .tup ds, v, p, h => by
    obtain ⟨q, xs, rfl, s, r⟩ := rep_tup h
    simp only [plain] at p
    simp only [py]
    exact .tup s (dp_pls ds xs p r)
  | .fzt ds, v, p, h => by
    obtain ⟨q, xs, rfl, s, r⟩ := rep_fzt h
    simp only [plain] at p
    simp only [py]
    exact .tup (s H) (dp_pls ds xs p r)
  | .fzl ds, v, p, h => by
    obtain ⟨q, xs, rfl, s, r⟩ := rep_fzl h
    simp only [plain] at p
    simp only [py]
    exact .lst s (dp_pls ds xs p r)
theorem dp_pls {K : PySem.W.Frag} {H : Hp} : ∀ (ds : List D) (vs : List V), plains ds = true → Reps K H ds vs → DpAll K H vs (pys ds)
  | [], vs, _, h => by rw [reps_nil_inv h]; simp only [pys]; exact .nil
  | d :: ds, vs, p, h => by
    obtain ⟨v, r, rfl, a, b⟩ := reps_cons_inv h
    simp only [plains, Bool.and_eq_true] at p
    simp only [pys]
    exact .cons (dp_pl d v p.1 a) (dp_pls ds r p.2 b)
end
end Dl
/-! ==, sorted, subscripts, lists' methods, len and its like, over data. -/
namespace Dl
open PySem PySem.Spec PyProof.Rows L2

/-! ### plain data, at most n deep -/
def Pln : Nat → D → Prop
  | _, .non => True
  | _, .bl _ => True
  | _, .int _ => True
  | _, .str x => PyData.strOk x = true
  | _, .ty _ => False
  | _, .ref _ => False
  | 0, .tup _ => False
  | 0, .fzl _ => False
  | 0, .fzt _ => False
  | _ + 1, .fzt _ => False
  | n + 1, .tup ds => ∀ d ∈ ds, Pln n d
  | n + 1, .fzl ds => ∀ d ∈ ds, Pln n d
theorem pys_map (ds : List D) : pys ds = ds.map py := by
  induction ds with
  | nil => rfl
  | cons d r ih => simp only [pys, List.map_cons, ih]
theorem plains_of {ds : List D} (h : ∀ d ∈ ds, plain d = true) : plains ds = true := by
  induction ds with
  | nil => rfl
  | cons d r ih =>
    simp only [plains, Bool.and_eq_true]
    exact ⟨h d (by simp), ih fun x m => h x (by simp [m])⟩
theorem canAll_of {ds : List D} (h : ∀ d ∈ ds, (py d).canLay0 = true) : PyData.canLayAll0 (pys ds) = true := by
  induction ds with
  | nil => simp only [pys, PyData.canLayAll0]
  | cons d r ih =>
    simp only [pys, PyData.canLayAll0, Bool.and_eq_true]
    exact ⟨h d (by simp), ih fun x m => h x (by simp [m])⟩
theorem depthAll_of {n : Nat} {ds : List D} (h : ∀ d ∈ ds, (py d).depth ≤ n) : PyData.depthAll (pys ds) ≤ n := by
  induction ds with
  | nil => simp only [pys, PyData.depthAll]; exact Nat.zero_le _
  | cons d r ih =>
    simp only [pys, PyData.depthAll]
    have a := h d (by simp)
    have b := ih fun x m => h x (by simp [m])
    omega
theorem Pln.ok : ∀ {n : Nat} {d : D}, Pln n d → plain d = true ∧ (py d).canLay0 = true ∧ (py d).depth ≤ n
  | n, .non, _ => by simp [plain, py, PyData.canLay0, PyData.depth]
  | n, .bl b, _ => by simp [plain, py, PyData.canLay0, PyData.depth]
  | n, .int i, _ => by simp [plain, py, PyData.canLay0, PyData.depth]
  | n, .str x, h => by
    cases n <;> (simp only [Pln] at h; simp [plain, py, PyData.canLay0, PyData.depth, h])
  | n, .ty s, h => by cases n <;> simp only [Pln] at h
  | n, .ref a, h => by cases n <;> simp only [Pln] at h
  | 0, .tup ds, h => by simp only [Pln] at h
  | 0, .fzl ds, h => by simp only [Pln] at h
  | n, .fzt ds, h => by cases n <;> simp only [Pln] at h
  | n + 1, .tup ds, h => by
    simp only [Pln] at h
    have ih : ∀ d ∈ ds, plain d = true ∧ (py d).canLay0 = true ∧ (py d).depth ≤ n := fun d m => Pln.ok (h d m)
    refine ⟨by simp only [plain]; exact plains_of fun d m => (ih d m).1, by simp only [py, PyData.canLay0]; exact canAll_of fun d m => (ih d m).2.1, ?_⟩
    simp only [py, PyData.depth]
    have := depthAll_of (ds := ds) (n := n) fun d m => (ih d m).2.2
    omega
  | n + 1, .fzl ds, h => by
    simp only [Pln] at h
    have ih : ∀ d ∈ ds, plain d = true ∧ (py d).canLay0 = true ∧ (py d).depth ≤ n := fun d m => Pln.ok (h d m)
    refine ⟨by simp only [plain]; exact plains_of fun d m => (ih d m).1, by simp only [py, PyData.canLay0]; exact canAll_of fun d m => (ih d m).2.1, ?_⟩
    simp only [py, PyData.depth]
    have := depthAll_of (ds := ds) (n := n) fun d m => (ih d m).2.2
    omega
theorem Pln.mono : ∀ {n m : Nat} {d : D}, Pln n d → n ≤ m → Pln m d
  | n, m, .non, _, _ => by simp [Pln]
  | n, m, .bl b, _, _ => by simp [Pln]
  | n, m, .int i, _, _ => by simp [Pln]
  | n, m, .str x, h, _ => by cases n <;> cases m <;> simpa [Pln] using h
  | n, m, .ty s, h, _ => by cases n <;> simp only [Pln] at h
  | n, m, .ref a, h, _ => by cases n <;> simp only [Pln] at h
  | 0, m, .tup ds, h, _ => by simp only [Pln] at h
  | 0, m, .fzl ds, h, _ => by simp only [Pln] at h
  | n, m, .fzt ds, h, _ => by cases n <;> simp only [Pln] at h
  | n + 1, 0, _, _, l => absurd l (by omega)
  | n + 1, m + 1, .tup ds, h, l => by
    simp only [Pln] at h ⊢
    exact fun d k => Pln.mono (h d k) (by omega)
  | n + 1, m + 1, .fzl ds, h, l => by
    simp only [Pln] at h ⊢
    exact fun d k => Pln.mono (h d k) (by omega)

/-- what == compares: plain data, lists of them (looked up), n deep -/
def Dn (M : Mp) : Nat → D → PyData → Prop
  | 0, d, p => Pln 0 d ∧ p = py d
  | n + 1, d, p => (Pln (n + 1) d ∧ p = py d) ∨ (∃ a ds ps, d = .ref a ∧ M a = some (.lst ds) ∧ p = .list ps ∧ Paired (Dn M n) ds ps) ∨ (∃ ds ps, d = .tup ds ∧ p = .tuple ps ∧ Paired (Dn M n) ds ps)
theorem Dn.pl {M : Mp} {n : Nat} {d : D} (h : Pln n d) : Dn M n d (py d) := by
  cases n with
  | zero => exact ⟨h, rfl⟩
  | succ n => exact .inl ⟨h, rfl⟩
theorem Dn.lst {M : Mp} {n : Nat} {a : Addr} {ds : List D} {ps : List PyData} (h : M a = some (.lst ds)) (r : Paired (Dn M n) ds ps) : Dn M (n + 1) (.ref a) (.list ps) := .inr (.inl ⟨a, ds, ps, rfl, h, rfl, r⟩)
theorem Dn.tup {M : Mp} {n : Nat} {ds : List D} {ps : List PyData} (r : Paired (Dn M n) ds ps) : Dn M (n + 1) (.tup ds) (.tuple ps) := .inr (.inr ⟨ds, ps, rfl, rfl, r⟩)
theorem Dn.pls {M : Mp} {n : Nat} {ds : List D} (hp : ∀ d ∈ ds, Pln n d) : Paired (Dn M n) ds (pys ds) := by
  induction ds with
  | nil => simp only [pys]; exact .nil
  | cons d r ih =>
    simp only [pys]
    exact .cons (.pl (hp d (by simp))) (ih fun x m => hp x (by simp [m]))
theorem Dn.ls {M : Mp} {n : Nat} {a : Addr} {ds : List D} (h : M a = some (.lst ds)) (hp : ∀ d ∈ ds, Pln n d) : Dn M (n + 1) (.ref a) (.list (pys ds)) := .lst h (Dn.pls hp)
theorem dn_ok {K : PySem.W.Frag} {H : Hp} {M : Mp} (s : Sm K M H) : ∀ (n : Nat) (d : D) (p : PyData) (v : V), Dn M n d p → Rep K H d v → Dp K H v p ∧ p.canLay0 = true ∧ p.depth ≤ n := by
  intro n
  induction n with
  | zero =>
    intro d p v h r
    obtain ⟨h, rfl⟩ := h
    exact ⟨dp_pl d v h.ok.1 r, h.ok.2⟩
  | succ n ih =>
    have all : ∀ {ds : List D} {ps : List PyData} {vs : List V}, Paired (Dn M n) ds ps → Reps K H ds vs → DpAll K H vs ps ∧ PyData.canLayAll0 ps = true ∧ PyData.depthAll ps ≤ n := by
      intro ds ps vs h
      induction h generalizing vs with
      | nil => intro r; rw [reps_nil_inv r]; exact ⟨.nil, by simp [PyData.canLayAll0], by simp [PyData.depthAll]⟩
      | cons a b ihh =>
        intro r
        obtain ⟨v, w, rfl, r1, r2⟩ := reps_cons_inv r
        obtain ⟨x1, x2, x3⟩ := ih _ _ _ a r1
        obtain ⟨y1, y2, y3⟩ := ihh r2
        exact ⟨.cons x1 y1, by simp [PyData.canLayAll0, x2, y2], by simp only [PyData.depthAll]; omega⟩
    intro d p v h r
    rcases h with ⟨h, rfl⟩ | ⟨a, ds, ps, rfl, h, rfl, q⟩ | ⟨ds, ps, rfl, rfl, q⟩
    · exact ⟨dp_pl d v h.ok.1 r, h.ok.2⟩
    · simp only [Rep] at r
      subst r
      obtain ⟨xs, e, g⟩ := s _ _ h
      obtain ⟨x1, x2, x3⟩ := all q g
      exact ⟨.lst (SqL.of e) x1, by simpa [PyData.canLay0] using x2, by simp only [PyData.depth]; omega⟩
    · obtain ⟨a, xs, rfl, e, g⟩ := rep_tup r
      obtain ⟨x1, x2, x3⟩ := all q g
      exact ⟨.tup e x1, by simpa [PyData.canLay0] using x2, by simp only [PyData.depth]; omega⟩

/-- the scalars' == -/
def sceq : D → D → Option Bool
  | .int i, .int j => some (decide (i = j))
  | .str i, .str j => some (decide (i = j))
  | .bl i, .bl j => some (decide (i = j))
  | .non, .non => some true
  | .non, .int _ => some false
  | .int _, .non => some false
  | .non, .str _ => some false
  | .str _, .non => some false
  | .non, .bl _ => some false
  | .bl _, .non => some false
  | .int _, .str _ => some false
  | .str _, .int _ => some false
  | .bl _, .str _ => some false
  | .str _, .bl _ => some false
  | _, _ => none
def rdEq : D → D → Mp → DK → Prop := fun x y M Q => match sceq x y with
  | some b => Q (.bl b) M
  | none => ∃ p q, Dn M 60 x p ∧ Dn M 60 y q ∧ Q (.bl (PyData.eqv p q)) M
def rdNe : D → D → Mp → DK → Prop := fun x y M Q => match sceq x y with
  | some b => Q (.bl (!b)) M
  | none => ∃ p q, Dn M 60 x p ∧ Dn M 60 y q ∧ Q (.bl (!PyData.eqv p q)) M
theorem sceq_ok {K : PySem.W.Frag} {H : Hp} {x y : D} {v u : V} {b : Bool} (h : sceq x y = some b) (rx : Rep K H x v) (ry : Rep K H y u) : scal v u = true ∧ decide (v = u) = b := by
  cases x <;> cases y <;> simp only [sceq, Option.some.injEq] at h <;> first
    | (simp only [Rep] at rx ry; subst rx; subst ry; subst h; simp [scal])
    | cases h
section
variable {X : Cx}
theorem o_eq (hu : X.A.units + 64 < cLine) : OpR X (compareOp .Eq) (lR X.K rdEq) := by
  intro pins s σ H v u vv uu Q I rv ru ⟨x, y, M, QD, rx, ry, sm, h, w⟩
  unfold rdEq at h
  split at h
  · rename_i b e
    obtain ⟨h1, h2⟩ := sceq_ok e rx ry
    exact op_eq pins s σ H v u vv uu Q I rv ru ⟨h1, by rw [h2]; exact w _ _ _ _ h (by simp only [Rep]) sm (Pers.refl H)⟩
  · obtain ⟨p, q, h1, h2, h3⟩ := h
    obtain ⟨a1, a2, a3⟩ := dn_ok sm _ _ _ _ h1 rx
    obtain ⟨b1, b2, b3⟩ := dn_ok sm _ _ _ _ h2 ry
    exact op_eqD hu pins s σ H v u vv uu Q I rv ru ⟨p, q, a1, b1, by simp only [SeqAt.shaped, Bool.and_eq_true, decide_eq_true_eq]; exact ⟨a2, by omega⟩, by simp only [SeqAt.shaped, Bool.and_eq_true, decide_eq_true_eq]; exact ⟨b2, by omega⟩, w _ _ _ _ h3 (by simp only [Rep]) sm (Pers.refl H)⟩
theorem o_ne (hu : X.A.units + 64 < cLine) : OpR X (compareOp .NotEq) (lR X.K rdNe) := by
  intro pins s σ H v u vv uu Q I rv ru ⟨x, y, M, QD, rx, ry, sm, h, w⟩
  unfold rdNe at h
  split at h
  · rename_i b e
    obtain ⟨h1, h2⟩ := sceq_ok e rx ry
    exact op_ne pins s σ H v u vv uu Q I rv ru ⟨h1, by rw [h2]; exact w _ _ _ _ h (by simp only [Rep]) sm (Pers.refl H)⟩
  · obtain ⟨p, q, h1, h2, h3⟩ := h
    obtain ⟨a1, a2, a3⟩ := dn_ok sm _ _ _ _ h1 rx
    obtain ⟨b1, b2, b3⟩ := dn_ok sm _ _ _ _ h2 ry
    exact op_neD hu pins s σ H v u vv uu Q I rv ru ⟨p, q, a1, b1, by simp only [SeqAt.shaped, Bool.and_eq_true, decide_eq_true_eq]; exact ⟨a2, by omega⟩, by simp only [SeqAt.shaped, Bool.and_eq_true, decide_eq_true_eq]; exact ⟨b2, by omega⟩, w _ _ _ _ h3 (by simp only [Rep]) sm (Pers.refl H)⟩
end

/-! ### subscripts -/
/-- the items of a list or tuple -/
def seqOf (M : Mp) : D → Option (List D)
  | .tup ds => some ds
  | .fzl ds => some ds
  | .fzt ds => some ds
  | .ref a => lstOf M a
  | _ => none
theorem seqOf_ok {K : PySem.W.Frag} {H : Hp} {M : Mp} {x : D} {v : V} {ds : List D} (s : Sm K M H) (h : seqOf M x = some ds) (r : Rep K H x v) : ∃ p xs, v = .ref p ∧ (SqL K H p xs ∨ SqT K H p xs) ∧ Reps K H ds xs := by
  cases x with
  | tup es => simp only [seqOf, Option.some.injEq] at h; subst h; obtain ⟨p, xs, e, a, b⟩ := rep_tup r; exact ⟨p, xs, e, .inr a, b⟩
  | fzl es => simp only [seqOf, Option.some.injEq] at h; subst h; obtain ⟨p, xs, e, a, b⟩ := rep_fzl r; exact ⟨p, xs, e, .inl a, b⟩
  | fzt es => simp only [seqOf, Option.some.injEq] at h; subst h; obtain ⟨p, xs, e, a, b⟩ := rep_fzt r; exact ⟨p, xs, e, .inr (a H), b⟩
  | ref a =>
    simp only [seqOf] at h
    obtain ⟨xs, e, g⟩ := s _ _ (lstOf_some h)
    simp only [Rep] at r
    exact ⟨a, xs, r, .inl (SqL.of e), g⟩
  | _ => simp [seqOf] at h
def rdIx : D → D → Mp → DK → Prop := fun x y M Q => match y with
  | .int i => (match x with
    | .str z => z.length ≤ 1000000 ∧ (match atI z.cps.toList i with
      | some c => Q (.str ⟨#[c]⟩) M
      | none => False)
    | _ => (match seqOf M x with
      | some ds => (match atI ds i with
        | some d => Q d M
        | none => False)
      | none => False))
  | _ => False
theorem reps_atI {K : PySem.W.Frag} {H : Hp} {ds : List D} {xs : List V} {i : Int} {d : D} (r : Reps K H ds xs) (h : atI ds i = some d) : ∃ v, atI xs i = some v ∧ Rep K H d v := by
  unfold atI at h ⊢
  rw [r.len]
  cases e : ixN ds.length i with
  | none => rw [e] at h; cases h
  | some j => rw [e] at h; exact r.get j h
section
variable {X : Cx} {a b : Expr} {ta tb : RE} {pos : Pos}
theorem x_ix : IxR X (lR X.K rdIx) := by
  intro value slice pins s σ H v u vv uu Q I rv ru ⟨x, y, M, QD, rx, ry, sm, h, w⟩ hs
  refine ix_seq value slice pins s σ H v u vv uu Q I rv ru ?_ hs
  cases y with
  | int i =>
    simp only [Rep] at ry
    have seq : ∀ ds, seqOf M x = some ds → (match atI ds i with
        | some d => QD d M
        | none => False) → rIx X.K v u H Q := fun ds e h => by
      obtain ⟨p, xs, rfl, hx, hr⟩ := seqOf_ok sm e rx
      split at h
      · rename_i d e2
        obtain ⟨z, e3, rz⟩ := reps_atI hr e2
        rcases hx with hx | hx
        · exact .inl ⟨p, xs, i, z, rfl, ry, hx, e3, w _ _ _ _ h rz sm (Pers.refl H)⟩
        · exact .inr (.inl ⟨p, xs, i, z, rfl, ry, hx, e3, w _ _ _ _ h rz sm (Pers.refl H)⟩)
      · exact h.elim
    cases x with
    | str z =>
      simp only [Rep] at rx
      obtain ⟨h1, h2⟩ := h
      split at h2
      · rename_i c e
        exact .inr (.inr ⟨z, i, c, rx, ry, line_mil h1, e, w _ _ _ _ h2 (by simp only [Rep]) sm (Pers.refl H)⟩)
      · exact h2.elim
    | tup ds => exact seq ds rfl h
    | fzl ds => exact seq ds rfl h
    | fzt ds => exact seq ds rfl h
    | ref a =>
      simp only [rdIx] at h
      split at h
      · rename_i ds e; exact seq ds e h
      · exact h.elim
    | _ => exact h.elim
  | _ => exact h.elim
theorem qe_ix (ha : PE X a (lE X.K ta)) (hb : PE X b (lE X.K tb)) (hs : PlainIx b := by exact fun _ _ => rfl) : PE X (.Subscript a b pos) (lE X.K (dOp rdIx ta tb)) :=
  PE.wk (pe_ix x_ix ha hb hs) fun σ H Q h => lOp h
end

/-! ### slices -/
def dNoPart : RO := fun _ M Q => Q none M
def dPart (t : RE) : RO := fun δ M Q => t δ M fun d M1 => match d with
  | .int i => Q (some i) M1
  | _ => False
def cutD {α : Type} (xs : List α) (lo hi : Option Int) : List α := (xs.drop (HT.sIx xs.length 0 lo)).take (HT.sIx xs.length xs.length hi - HT.sIx xs.length 0 lo)
theorem reps_cut {K : PySem.W.Frag} {H : Hp} {ds : List D} {xs : List V} {lo hi : Option Int} (r : Reps K H ds xs) : Reps K H (cutD ds lo hi) (cutV xs lo hi) := by
  unfold cutD cutV
  rw [r.len]
  exact (r.drop _).take _
def dSl (rd : D → Option Int → Option Int → Mp → DK → Prop) (te : RE) (tl th : RO) : RE := fun δ M Q => te δ M fun x M1 => tl δ M1 fun l M2 => th δ M2 fun u M3 => rd x l u M3 Q
def rdSl : D → Option Int → Option Int → Mp → DK → Prop := fun x l u M Q => match x with
  | .str z => z.length ≤ 1000000 ∧ Q (.str (cutS z l u)) M
  | .tup ds => Q (.tup (cutD ds l u)) M
  | .fzl ds => ∀ p, M p = none → Q (.ref p) (mup M p (.lst (cutD ds l u)))
  | .ref a => (match lstOf M a with
    | some ds => ∀ p, M p = none → Q (.ref p) (mup M p (.lst (cutD ds l u)))
    | none => False)
  | _ => False
def lSl (K : PySem.W.Frag) (rd : D → Option Int → Option Int → Mp → DK → Prop) : V → Option Int → Option Int → Hp → VK → Prop := fun v l u H Q => ∃ x M QD, Rep K H x v ∧ Sm K M H ∧ rd x l u M QD ∧ Wk K H QD Q
section
variable {X : Cx} {e lo hi : Expr} {ol oh : Option Expr} {te tl : RE} {rl rh : RO} {pos p2 : Pos}
theorem qo_none : PO X none (lO X.K dNoPart) := by
  refine ⟨fun p H Q s σ => ?_⟩
  rintro I ⟨δ, M, QD, r, sm, h, w⟩
  exact po_none.run _ _ _ _ _ I (w _ _ _ h sm (Pers.refl _))
theorem qo_some (h : PE X lo (lE X.K tl)) : PO X (some lo) (lO X.K (dPart tl)) := by
  refine ⟨fun p H Q s σ => ?_⟩
  rintro I ⟨δ, M, QD, r, sm, g, w⟩
  refine (po_some h).run _ _ _ _ _ I ⟨δ, M, _, r, sm, g, fun d M1 v H1 q1 r1 s1 p1 => ?_⟩
  cases d with
  | int i => simp only [Rep] at r1; exact ⟨i, r1, w _ _ _ q1 s1 p1⟩
  | _ => exact q1.elim
theorem SlR.or {r r' : V → Option Int → Option Int → Hp → VK → Prop} (h : SlR X r) (h' : SlR X r') : SlR X (fun x lo hi H Q => r x lo hi H Q ∨ r' x lo hi H Q) := by
  intro pins s σ H x v vl vu lo hi sl Q I rx hs pl pu q
  rcases q with q | q
  · exact h pins s σ H x v vl vu lo hi sl Q I rx hs pl pu q
  · exact h' pins s σ H x v vl vu lo hi sl Q I rx hs pl pu q
theorem x_sl : SlR X (lSl X.K rdSl) := by
  intro pins s σ H v vv vl vu lo hi sl Q I rv hs pl pu ⟨x, M, QD, rx, sm, h, w⟩
  cases x with
  | str z =>
    simp only [Rep] at rx
    exact sl_str pins s σ H v vv vl vu lo hi sl Q I rv hs pl pu ⟨z, rx, line_mil h.1, w _ _ _ _ h.2 (by simp only [Rep]) sm (Pers.refl H)⟩
  | tup ds =>
    obtain ⟨p, xs, rfl, hx, hr⟩ := rep_tupH rx
    refine sl_tupA pins s σ H _ vv vl vu lo hi sl Q I rv hs pl pu ⟨p, xs, rfl, SqT.of hx, fun e => ?_, fun _ q hq => ?_⟩
    · refine w _ _ _ _ h (rep_tup_mk hx ?_) sm (Pers.refl H)
      have e2 : cutV xs lo hi = xs := by
        unfold cutV
        rw [e.1, e.2]
        simp
      have := reps_cut (lo := lo) (hi := hi) hr
      rw [e2] at this
      exact this
    · have pn : Pers H (upd H q (.tup (cutV xs lo hi))) := Pers.new hq
      exact w _ _ _ _ h (rep_tup_mk upd_same (Reps.mono pn _ _ (reps_cut hr))) (sm.new hq) pn
  | fzl ds =>
    obtain ⟨p, xs, rfl, hx, hr⟩ := rep_fzl rx
    refine sl_list pins s σ H _ vv vl vu lo hi sl Q I rv hs pl pu ⟨p, xs, rfl, hx, fun q hq => ?_⟩
    have pn : Pers H (upd H q (.lst (cutV xs lo hi))) := Pers.new hq
    exact w _ _ _ _ (h q (sm.free hq)) (by simp only [Rep]) (sm.put pn ⟨_, upd_same, Reps.mono pn _ _ (reps_cut hr)⟩) pn
  | ref a =>
    simp only [rdSl] at h
    split at h
    · rename_i ds e
      obtain ⟨xs, e1, hr⟩ := sm _ _ (lstOf_some e)
      simp only [Rep] at rx
      refine sl_list pins s σ H _ vv vl vu lo hi sl Q I rv hs pl pu ⟨a, xs, rx, SqL.of e1, fun q hq => ?_⟩
      have pn : Pers H (upd H q (.lst (cutV xs lo hi))) := Pers.new hq
      exact w _ _ _ _ (h q (sm.free hq)) (by simp only [Rep]) (sm.put pn ⟨_, upd_same, Reps.mono pn _ _ (reps_cut hr)⟩) pn
    · exact h.elim
  | _ => exact h.elim
theorem qe_slice (he : PE X e (lE X.K te)) (hl : PO X ol (lO X.K rl)) (hh : PO X oh (lO X.K rh)) : PE X (.Subscript e (.Slice ol oh none p2) pos) (lE X.K (dSl rdSl te rl rh)) := by
  refine PE.wk (pe_slice x_sl he hl hh) fun σ H Q ⟨δ, M, QD, r, s, h, w⟩ => ?_
  refine ⟨δ, M, _, r, s, h, fun x M1 v H1 q1 r1 s1 p1 => ?_⟩
  refine ⟨δ, M1, _, r.mono p1, s1, q1, fun l M2 H2 q2 s2 p2 => ?_⟩
  refine ⟨δ, M2, _, (r.mono p1).mono p2, s2, q2, fun u M3 H3 q3 s3 p3 => ?_⟩
  exact ⟨x, M3, QD, Rep.mono (p2.trans p3) _ _ r1, s3, q3, w.on ((p1.trans p2).trans p3)⟩
end
end Dl
/-! Loops, comprehensions, calls of defs, over data. -/
namespace Dl
open PySem PySem.Spec PyProof.Rows L2 RZ

/-! ### what is walked -/
structure ItD (K : PySem.W.Frag) (J : It) (G : Mp → Prop) (ds : List D) (H0 : Hp) : Prop where
  go : ∀ i M H, Pers H0 H → Sm K M H → G M → i < ds.length → J.go i H
  yld : ∀ i M H x H' d, Pers H0 H → Sm K M H → G M → ds[i]? = some d → J.yld i H x H' → Rep K H' d x ∧ Sm K M H' ∧ Pers H H'
  stop : ∀ i M H, Pers H0 H → Sm K M H → G M → ds.length ≤ i → J.stop i H
def WkI (K : PySem.W.Frag) (H : Hp) (RD : (Mp → Prop) → List D → Mp → Prop) (R : It → Hp → Prop) : Prop := ∀ J G ds M' H', RD G ds M' → ItD K J G ds H' → Sm K M' H' → Pers H H' → R J H'
def lI (K : PySem.W.Frag) (t : RI) : TI := fun σ H R => ∃ δ M RD, RepS K H δ σ ∧ Sm K M H ∧ t δ M RD ∧ WkI K H RD R
def noG : Mp → Prop := fun _ => True
def isL (a : Addr) (ds : List D) : Mp → Prop := fun M => M a = some (.lst ds)
def signs (z : Str) : List D := z.cps.toList.map fun c => D.str ⟨#[c]⟩
def dIter (te : RE) : RI := fun δ M R => te δ M fun x M1 => match x with
  | .tup ds => R noG ds M1
  | .fzl ds => R noG ds M1
  | .ref a => (match lstOf M1 a with
    | some ds => R (isL a ds) ds M1
    | none => False)
  | .str z => R noG (signs z) M1
  | _ => False
/-- the list at a is read as xs alone: what J tells of it -/
theorem itd_l {K : PySem.W.Frag} {a : Addr} {ds : List D} {H0 : Hp} {G : Mp → Prop} (h : ∀ M H, Pers H0 H → Sm K M H → G M → ∃ xs, SqL K H a xs ∧ Reps K H ds xs) : ItD K (Itl K a) G ds H0 := by
  refine ⟨fun i M H p s g hi => ?_, fun i M H x H' d p s g hd y => ?_, fun i M H p s g hi => ?_⟩
  · obtain ⟨xs, e, r⟩ := h M H p s g
    have hl : i < xs.length := by rw [r.len]; exact hi
    exact ⟨xs, xs[i], e, List.getElem?_eq_getElem hl⟩
  · obtain ⟨xs, e, r⟩ := h M H p s g
    obtain ⟨rfl, y⟩ := y
    obtain ⟨v, e1, r1⟩ := r.get i hd
    have := y xs e
    rw [e1] at this
    cases this
    exact ⟨r1, s, Pers.refl _⟩
  · obtain ⟨xs, e, r⟩ := h M H p s g
    exact ⟨xs, e, by rw [r.len]; exact hi⟩
theorem itd_t {K : PySem.W.Frag} {a : Addr} {ds : List D} {H0 : Hp} {G : Mp → Prop} (h : ∀ M H, Pers H0 H → Sm K M H → G M → ∃ xs, SqT K H a xs ∧ Reps K H ds xs) : ItD K (Itt K a) G ds H0 := by
  refine ⟨fun i M H p s g hi => ?_, fun i M H x H' d p s g hd y => ?_, fun i M H p s g hi => ?_⟩
  · obtain ⟨xs, e, r⟩ := h M H p s g
    have hl : i < xs.length := by rw [r.len]; exact hi
    exact ⟨xs, xs[i], e, List.getElem?_eq_getElem hl⟩
  · obtain ⟨xs, e, r⟩ := h M H p s g
    obtain ⟨rfl, y⟩ := y
    obtain ⟨v, e1, r1⟩ := r.get i hd
    have := y xs e
    rw [e1] at this
    cases this
    exact ⟨r1, s, Pers.refl _⟩
  · obtain ⟨xs, e, r⟩ := h M H p s g
    exact ⟨xs, e, by rw [r.len]; exact hi⟩
theorem fzl_keeps {K : PySem.W.Frag} {H0 : Hp} {ds : List D} {v : V} (r : Rep K H0 (.fzl ds) v) : ∃ p, v = .ref p ∧ (∃ xs, SqL K H0 p xs) ∧ ∀ H, Pers H0 H → ∃ xs, SqL K H p xs ∧ Reps K H ds xs := by
  simp only [Rep] at r
  obtain ⟨p, xs, e, s, q⟩ := r
  refine ⟨p, e, ?_, fun H pr => ?_⟩
  · rcases s with ⟨o, s⟩ | (s | ⟨o, s⟩) | s
    · exact ⟨xs, .inl (.inr ⟨o, s⟩)⟩
    · cases s
    · cases s
    · exact ⟨xs, .inr s⟩
  · refine ⟨xs, ?_, Reps.mono pr _ _ q⟩
    rcases s with ⟨o, s⟩ | (s | ⟨o, s⟩) | s
    · exact .inl (.inr ⟨o, pr.fl _ _ _ s⟩)
    · cases s
    · cases s
    · exact .inr s
section
variable {X : Cx} {tg l : Expr}
/-- an iterator over what a value is: list, tuple, text -/
theorem qi_any {te : RE} (hl : PE X l (lE X.K te)) : PI X tg l (lI X.K (dIter te)) := by
  refine ⟨fun pins s σ H R I ⟨δ, M, RD, r, sm, h, w⟩ => ?_⟩
  -- the value, then its own walk: each by the layer's own rule at a reading that says which value comes
  refine thn (hl.run pins s σ H (fun v H1 => Pers H H1 ∧ ∃ x M1, Rep X.K H1 x v ∧ Sm X.K M1 H1 ∧ (match x with
      | .tup ds => RD noG ds M1
      | .fzl ds => RD noG ds M1
      | .ref a => (match lstOf M1 a with
        | some ds => RD (isL a ds) ds M1
        | none => False)
      | .str z => RD noG (signs z) M1
      | _ => False)) I ⟨δ, M, _, r, sm, h, fun x M1 v H1 q1 r1 s1 p1 => ⟨p1, x, M1, r1, s1, q1⟩⟩) fun v s1 ⟨y, H1, I1, ry, p1, x, M1, rx, sm1, q⟩ => ?_
  have goL : ∀ (a : Addr) (ys : List V), y = .ref a → SqL X.K H1 a ys → R (Itl X.K a) H1 → wpAny (model X.prog X.w) X.A (pyIter v) (PIE X pins σ tg R) X.xe s1 := by
    intro a ys ea hq q
    subst ea
    cases ry
    obtain ⟨its, rv, p, hz⟩ := I1.list hq
    refine wpAny_pyIter_list p.isList ?_
    refine ⟨s1.heap.objs.size, [s1.heap.objs.size], _, _, H1, rfl, I1.kept (t' := s1.toks) fun b o e => Heap.get?_push_of_some _ e, turn_list a _, ⟨_, Heap.get?_push_size _ rfl, rfl, rfl⟩, fun b hb => ?_, q⟩
    have e : b = s1.heap.objs.size := by simpa using hb
    subst e
    exact I1.fpOk (Nat.le_refl _) (I1.hok.fresh (Nat.le_refl _))
  cases x with
  | tup ds =>
    obtain ⟨a, xs, rfl, hq, hr⟩ := rep_tup rx
    cases ry
    obtain ⟨its, rv, p, hz⟩ := I1.tuple hq
    refine wpAny_pyIter_tuple (show s1.heap.IsTuple a its.toArray from p) ?_
    refine ⟨s1.heap.objs.size, [s1.heap.objs.size], _, _, H1, rfl, I1.kept (t' := s1.toks) fun b o e => Heap.get?_push_of_some _ e, turn_tuple a _, ⟨_, Heap.get?_push_size _ rfl, rfl, rfl⟩, fun b hb => ?_, ?_⟩
    · have e : b = s1.heap.objs.size := by simpa using hb
      subst e
      exact I1.fpOk (Nat.le_refl _) (I1.hok.fresh (Nat.le_refl _))
    · exact w _ _ _ _ _ q (itd_t fun M' H' p' s' _ => ⟨xs, p'.sqt hq, Reps.mono p' _ _ hr⟩) sm1 p1
  | fzl ds =>
    obtain ⟨a, e, ⟨ys, hq⟩, k⟩ := fzl_keeps rx
    exact goL a ys e hq (w _ _ _ _ _ q (itd_l fun M' H' p' s' _ => k H' p') sm1 p1)
  | ref a =>
    simp only [Rep] at rx
    dsimp only at q
    split at q
    · rename_i ds e
      obtain ⟨xs, e1, hr⟩ := sm1 _ _ (lstOf_some e)
      refine goL a xs rx (SqL.of e1) (w _ _ _ _ _ q (itd_l fun M' H' p' s' g => ?_) sm1 p1)
      obtain ⟨zs, e2, hr2⟩ := s' _ _ g
      exact ⟨zs, SqL.of e2, hr2⟩
    · exact q.elim
  | str z =>
    simp only [Rep] at rx
    subst rx
    obtain ⟨t, rfl⟩ := ry
    have hD : ItD X.K (Its z) noG (signs z) H1 := by
      have hl : (signs z).length = z.cps.size := by unfold signs; rw [List.length_map, Array.length_toList]
      refine ⟨fun i M' H' p' s' _ hi => ?_, fun i M' H' x H2 d p' s' _ hd y => ?_, fun i M' H' p' s' _ hi => ?_⟩
      · show i < z.cps.size; omega
      · obtain ⟨rfl, c, e, rfl⟩ := y
        unfold signs at hd
        rw [List.getElem?_map, Array.getElem?_toList, e] at hd
        cases hd
        exact ⟨by simp only [Rep], s', Pers.refl _⟩
      · show z.cps.size ≤ i; omega
    have q' := w _ _ _ _ _ q hD sm1 p1
    cases ha : z.cps.all (· < 128)
    · exact wpAny_pyIter_wide ha (pi_one (tk := s1.toks) I1 _ (turn_str _ z t "str_iterator" (.inr rfl)) ⟨_, Heap.get?_push_size _ rfl, rfl, rfl⟩ q')
    · exact wpAny_pyIter_ascii ha (pi_one (tk := s1.toks) I1 _ (turn_str _ z t "str_ascii_iterator" (.inl rfl)) ⟨_, Heap.get?_push_size _ rfl, rfl, rfl⟩ q')
  | _ => exact q.elim
end
/-- a list of one, of two, of three -/
def one (ds : List D) (k : D → Prop) : Prop := match ds with
  | [d] => k d
  | _ => False
def two (ds : List D) (k : D → D → Prop) : Prop := match ds with
  | [d, e] => k d e
  | _ => False
def three (ds : List D) (k : D → D → D → Prop) : Prop := match ds with
  | [d, e, f] => k d e f
  | _ => False
theorem one_inv {K : PySem.W.Frag} {H : Hp} {ds : List D} {k : D → Prop} {vs : List V} (h : one ds k) (r : Reps K H ds vs) : ∃ d v, ds = [d] ∧ vs = [v] ∧ Rep K H d v ∧ k d := by
  unfold one at h
  split at h
  · obtain ⟨v, r, rfl, a1, b1⟩ := reps_cons_inv r
    have e1 := reps_nil_inv b1
    subst e1
    exact ⟨_, v, rfl, rfl, a1, h⟩
  · exact h.elim
theorem two_inv {K : PySem.W.Frag} {H : Hp} {ds : List D} {k : D → D → Prop} {vs : List V} (h : two ds k) (r : Reps K H ds vs) : ∃ d e v w, ds = [d, e] ∧ vs = [v, w] ∧ Rep K H d v ∧ Rep K H e w ∧ k d e := by
  unfold two at h
  split at h
  · obtain ⟨v, r, rfl, a1, b1⟩ := reps_cons_inv r
    obtain ⟨v2, r2, rfl, a2, b2⟩ := reps_cons_inv b1
    have e1 := reps_nil_inv b2
    subst e1
    exact ⟨_, _, v, v2, rfl, rfl, a1, a2, h⟩
  · exact h.elim
theorem three_inv {K : PySem.W.Frag} {H : Hp} {ds : List D} {k : D → D → D → Prop} {vs : List V} (h : three ds k) (r : Reps K H ds vs) : ∃ d e f v w z, ds = [d, e, f] ∧ vs = [v, w, z] ∧ Rep K H d v ∧ Rep K H e w ∧ Rep K H f z ∧ k d e f := by
  unfold three at h
  split at h
  · obtain ⟨v, r, rfl, a1, b1⟩ := reps_cons_inv r
    obtain ⟨v2, r2, rfl, a2, b2⟩ := reps_cons_inv b1
    obtain ⟨v3, r3, rfl, a3, b3⟩ := reps_cons_inv b2
    have e1 := reps_nil_inv b3
    subst e1
    exact ⟨_, _, _, v, v2, v3, rfl, rfl, a1, a2, a3, h⟩
  · exact h.elim
/-- an int -/
def anInt (d : D) (k : Int → Prop) : Prop := match d with
  | .int i => k i
  | _ => False
theorem anInt_inv {K : PySem.W.Frag} {H : Hp} {d : D} {k : Int → Prop} {v : V} (h : anInt d k) (r : Rep K H d v) : ∃ i, d = .int i ∧ v = .int i ∧ k i := by
  cases d with
  | int i => simp only [Rep] at r; exact ⟨i, rfl, r, h⟩
  | _ => exact h.elim
/-- range(n), range(a, b) -/
def intsD (lo : Int) (n : Nat) : List D := (List.range n).map fun (i : Nat) => D.int (lo + (i : Int))
def dRng1 (ta : RA) : RI := fun δ M R => ta δ M fun ds M1 => one ds fun d => anInt d fun j => (-1000000000 ≤ j ∧ j ≤ 1000000000000000) ∧ R noG (intsD 0 j.toNat) M1
def dRng2 (ta : RA) : RI := fun δ M R => ta δ M fun ds M1 => two ds fun d e => anInt d fun i => anInt e fun j => (-1000000000000000 ≤ i ∧ i ≤ 1000000000000000 ∧ -1000000000000000 ≤ j ∧ j ≤ 1000000000000000) ∧ R noG (intsD i (j - i).toNat) M1
theorem itd_r {K : PySem.W.Frag} {lo : Int} {n : Nat} {H0 : Hp} {G : Mp → Prop} : ItD K (Itr lo n) G (intsD lo n) H0 := by
  have hl : (intsD lo n).length = n := by unfold intsD; rw [List.length_map, List.length_range]
  refine ⟨fun i M' H' p' s' _ hi => ?_, fun i M' H' x H2 d p' s' _ hd y => ?_, fun i M' H' p' s' _ hi => ?_⟩
  · show i < n; omega
  · obtain ⟨rfl, rfl⟩ := y
    unfold intsD at hd
    rw [List.getElem?_map] at hd
    cases e : (List.range n)[i]? with
    | none => rw [e] at hd; cases hd
    | some k =>
      rw [e] at hd
      have e2 : k = i := by
        obtain ⟨h1, h2⟩ := List.getElem?_eq_some_iff.mp e
        rw [← h2, List.getElem_range]
      subst e2
      cases hd
      exact ⟨by simp only [Rep], s', Pers.refl _⟩
  · show n ≤ i; omega
section
variable {X : Cx} {tg a b : Expr} {ta : RA} {p pos : Pos}
theorem qi_range1 (hg : Gl X "range") (hm : X.mg "range" = none) (ha : PA X [a] (lA X.K ta)) (hs : starEach [a] X.env = [(false, eval a X.env)] := by rfl) : PI X tg (.Call (.Name "range" p) [a] [] pos) (lI X.K (dRng1 ta)) := by
  refine PI.wk (pi_range1 hg hm ha hs) fun σ H R ⟨δ, M, RD, r, s, h, w⟩ => ?_
  refine ⟨δ, M, _, r, s, h, fun ds M1 vs H1 q1 r1 s1 p1 => ?_⟩
  obtain ⟨d, v, rfl, rfl, a1, q1⟩ := one_inv q1 r1
  obtain ⟨j, rfl, rfl, q1⟩ := anInt_inv q1 a1
  exact ⟨j, rfl, by omega, by omega, w _ _ _ _ _ q1.2 itd_r s1 p1⟩
theorem qi_range2 (hg : Gl X "range") (hm : X.mg "range" = none) (ha : PA X [a, b] (lA X.K ta)) (hs : starEach [a, b] X.env = [(false, eval a X.env), (false, eval b X.env)] := by rfl) (hs2 : starEach [b] X.env = [(false, eval b X.env)] := by rfl) : PI X tg (.Call (.Name "range" p) [a, b] [] pos) (lI X.K (dRng2 ta)) := by
  refine PI.wk (pi_range2 hg hm ha hs hs2) fun σ H R ⟨δ, M, RD, r, s, h, w⟩ => ?_
  refine ⟨δ, M, _, r, s, h, fun ds M1 vs H1 q1 r1 s1 p1 => ?_⟩
  obtain ⟨d, e, v, v', rfl, rfl, a1, a2, q1⟩ := two_inv q1 r1
  obtain ⟨i, rfl, rfl, q1⟩ := anInt_inv q1 a1
  obtain ⟨j, rfl, rfl, q1⟩ := anInt_inv q1 a2
  exact ⟨i, j, rfl, ⟨by omega, by omega, by omega, by omega⟩, w _ _ _ _ _ q1.2 itd_r s1 p1⟩
end
/-- zip(x, y): two lists, two tuples -/
def zipD (xs ys : List D) : List D := (xs.zip ys).map fun p => D.tup [p.1, p.2]
def isL2 (x y : D) (xs ys : List D) : Mp → Prop := fun M => seqOf M x = some xs ∧ seqOf M y = some ys
def kindT : D → Bool
  | .tup _ => true
  | .fzt _ => true
  | _ => false
def dZip (ta : RA) : RI := fun δ M R => ta δ M fun ds M1 => two ds fun x y => kindT x = kindT y ∧ (match seqOf M1 x, seqOf M1 y with
    | some xs, some ys => R (isL2 x y xs ys) (zipD xs ys) M1
    | _, _ => False)
section
variable {X : Cx} {e e2 : Expr} {ta : RA} {p pos tpos : Pos} {elts : List Expr} {kk : Nat}
theorem zip_get {xs ys : List D} {i : Nat} {d : D} (h : (zipD xs ys)[i]? = some d) : ∃ x y, xs[i]? = some x ∧ ys[i]? = some y ∧ d = .tup [x, y] := by
  unfold zipD at h
  rw [List.getElem?_map] at h
  cases e : (xs.zip ys)[i]? with
  | none => rw [e] at h; cases h
  | some q =>
    rw [e] at h
    obtain ⟨h1, h2⟩ := List.getElem?_zip_eq_some.mp e
    exact ⟨q.1, q.2, h1, h2, (Option.some.inj h).symm⟩
theorem zip_len {xs ys : List D} : (zipD xs ys).length = min xs.length ys.length := by unfold zipD; rw [List.length_map, List.length_zip]
theorem pair_rep {K : PySem.W.Frag} {H : Hp} {T : Addr} {x y : D} {v w : V} (n : H T = none) (a : Rep K H x v) (b : Rep K H y w) : Rep K (upd H T (.tup [v, w])) (.tup [x, y]) (.ref T) := by
  have pn : Pers H (upd H T (.tup [v, w])) := Pers.new n
  exact rep_tup_mk upd_same (reps_cons (Rep.mono pn _ _ a) (reps_cons (Rep.mono pn _ _ b) reps_nil))
theorem qi_zip (hg : Gl X "zip") (hm : X.mg "zip" = none) (ha : PA X [e, e2] (lA X.K ta)) (hs : starEach [e, e2] X.env = (false, eval e X.env) :: starEach [e2] X.env := by rfl) (hpl : (backTo pos (starEach [e2] X.env)).any (·.1) = false := by rfl) :
    PI X (.Tuple elts kk tpos) (.Call (.Name "zip" p) [e, e2] [] pos) (lI X.K (dZip ta)) := by
  refine PI.wk (pi_zipA hg hm ha hs hpl) fun σ H R ⟨δ, M, RD, r, s, h, w⟩ => ?_
  refine ⟨δ, M, _, r, s, h, fun ds M1 vs H1 q1 r1 s1 p1 => ?_⟩
  obtain ⟨x, y, v, v2, rfl, rfl, a1, a2, q1⟩ := two_inv q1 r1
  obtain ⟨hk, q⟩ := q1
  split at q
  · rename_i xs ys ex ey
    -- what stands at both for ever
    have look : ∀ {x : D} {v : V} {xs : List D}, seqOf M1 x = some xs → Rep X.K H1 x v → ∃ p, v = .ref p ∧ ((kindT x = true ∧ (∃ zs, SqT X.K H1 p zs) ∧ ∀ M' H', Pers H1 H' → Sm X.K M' H' → seqOf M' x = some xs → ∃ zs, SqT X.K H' p zs ∧ Reps X.K H' xs zs) ∨
        (kindT x = false ∧ (∃ zs, SqL X.K H1 p zs) ∧ ∀ M' H', Pers H1 H' → Sm X.K M' H' → seqOf M' x = some xs → ∃ zs, SqL X.K H' p zs ∧ Reps X.K H' xs zs)) := by
      intro x v xs ex rx
      cases x with
      | tup es =>
        simp only [seqOf, Option.some.injEq] at ex
        subst ex
        obtain ⟨p, zs, rfl, a, b⟩ := rep_tup rx
        exact ⟨p, rfl, .inl ⟨rfl, ⟨zs, a⟩, fun M' H' p' _ _ => ⟨zs, p'.sqt a, Reps.mono p' _ _ b⟩⟩⟩
      | fzl es =>
        simp only [seqOf, Option.some.injEq] at ex
        subst ex
        obtain ⟨p, rfl, ⟨zs, a⟩, k⟩ := fzl_keeps rx
        exact ⟨p, rfl, .inr ⟨rfl, ⟨zs, a⟩, fun M' H' p' _ _ => k H' p'⟩⟩
      | ref a =>
        simp only [Rep] at rx
        simp only [seqOf] at ex
        obtain ⟨zs, e1, r1⟩ := s1 _ _ (lstOf_some ex)
        refine ⟨a, rx, .inr ⟨rfl, ⟨zs, SqL.of e1⟩, fun M' H' p' s' g => ?_⟩⟩
        simp only [seqOf] at g
        obtain ⟨zs, e1, r1⟩ := s' _ _ (lstOf_some g)
        exact ⟨zs, SqL.of e1, r1⟩
      | fzt es =>
        simp only [seqOf, Option.some.injEq] at ex
        subst ex
        obtain ⟨p, zs, rfl, a, b⟩ := rep_fzt rx
        exact ⟨p, rfl, .inl ⟨rfl, ⟨zs, a _⟩, fun M' H' p' _ _ => ⟨zs, a _, Reps.mono p' _ _ b⟩⟩⟩
      | _ => simp [seqOf] at ex
    obtain ⟨p, rfl, kx⟩ := look ex a1
    obtain ⟨p2, rfl, ky⟩ := look ey a2
    rcases kx with ⟨tx, ⟨zs, hx⟩, kx⟩ | ⟨tx, ⟨zs, hx⟩, kx⟩
    · rcases ky with ⟨ty, ⟨ws, hy⟩, ky⟩ | ⟨ty, _⟩
      · refine ⟨p, p2, zs, ws, rfl, .inr ⟨hx, hy, w _ _ _ _ _ q ?_ s1 p1⟩⟩
        refine ⟨fun i M' H' p' s' g hi => ?_, fun i M' H' v H2 d p' s' g hd yl => ?_, fun i M' H' p' s' g hi => ?_⟩
        · obtain ⟨as, ha, ra⟩ := kx M' H' p' s' g.1
          obtain ⟨bs, hb, rb⟩ := ky M' H' p' s' g.2
          rw [zip_len] at hi
          have h1 : i < as.length := by rw [ra.len]; omega
          have h2 : i < bs.length := by rw [rb.len]; omega
          exact ⟨as, bs, as[i], bs[i], ha, hb, List.getElem?_eq_getElem h1, List.getElem?_eq_getElem h2⟩
        · obtain ⟨as, ha, ra⟩ := kx M' H' p' s' g.1
          obtain ⟨bs, hb, rb⟩ := ky M' H' p' s' g.2
          obtain ⟨x', y', e1, e2, rfl⟩ := zip_get hd
          obtain ⟨T, v1, v2, rfl, nT, rfl, f1, f2⟩ := yl
          obtain ⟨u1, g1, r1⟩ := ra.get i e1
          obtain ⟨u2, g2, r2⟩ := rb.get i e2
          have z1 := f1 as ha
          have z2 := f2 bs hb
          rw [g1] at z1; rw [g2] at z2
          cases z1; cases z2
          exact ⟨pair_rep nT r1 r2, s'.new nT, Pers.new nT⟩
        · obtain ⟨as, ha, ra⟩ := kx M' H' p' s' g.1
          obtain ⟨bs, hb, rb⟩ := ky M' H' p' s' g.2
          rw [zip_len] at hi
          exact ⟨as, bs, ha, hb, by rw [ra.len, rb.len]; omega⟩
      · rw [tx, ty] at hk; cases hk
    · rcases ky with ⟨ty, _⟩ | ⟨ty, ⟨ws, hy⟩, ky⟩
      · rw [tx, ty] at hk; cases hk
      · refine ⟨p, p2, zs, ws, rfl, .inl ⟨hx, hy, w _ _ _ _ _ q ?_ s1 p1⟩⟩
        refine ⟨fun i M' H' p' s' g hi => ?_, fun i M' H' v H2 d p' s' g hd yl => ?_, fun i M' H' p' s' g hi => ?_⟩
        · obtain ⟨as, ha, ra⟩ := kx M' H' p' s' g.1
          obtain ⟨bs, hb, rb⟩ := ky M' H' p' s' g.2
          rw [zip_len] at hi
          have h1 : i < as.length := by rw [ra.len]; omega
          have h2 : i < bs.length := by rw [rb.len]; omega
          exact ⟨as, bs, as[i], bs[i], ha, hb, List.getElem?_eq_getElem h1, List.getElem?_eq_getElem h2⟩
        · obtain ⟨as, ha, ra⟩ := kx M' H' p' s' g.1
          obtain ⟨bs, hb, rb⟩ := ky M' H' p' s' g.2
          obtain ⟨x', y', e1, e2, rfl⟩ := zip_get hd
          obtain ⟨T, v1, v2, rfl, nT, rfl, f1, f2⟩ := yl
          obtain ⟨u1, g1, r1⟩ := ra.get i e1
          obtain ⟨u2, g2, r2⟩ := rb.get i e2
          have z1 := f1 as ha
          have z2 := f2 bs hb
          rw [g1] at z1; rw [g2] at z2
          cases z1; cases z2
          exact ⟨pair_rep nT r1 r2, s'.new nT, Pers.new nT⟩
        · obtain ⟨as, ha, ra⟩ := kx M' H' p' s' g.1
          obtain ⟨bs, hb, rb⟩ := ky M' H' p' s' g.2
          rw [zip_len] at hi
          exact ⟨as, bs, ha, hb, by rw [ra.len, rb.len]; omega⟩
  · exact q.elim
end

/-! ### for -/
def dLoop (G : Mp → Prop) (g : RG) (tb : RS) (E : DEnds) : List D → DSt → Mp → Prop
  | [], δ, M => G M ∧ E.nx δ M
  | d :: r, δ, M => G M ∧ g d δ M fun δ1 M1 => tb { E with nx := dLoop G g tb E r, ct := dLoop G g tb E r, bk := E.nx } δ1 M1
def dFor (it : RI) (g : RG) (tb : RS) : RS := fun E δ M => it δ M fun G ds M1 => dLoop G g tb E ds δ M1
section
variable {X : Cx} {tg iter : Expr} {body : List Stmt} {ti : RI} {g : RG} {tb : RS} {pos : Pos}
theorem loop_G {G : Mp → Prop} {E : DEnds} : ∀ {ds : List D} {δ : DSt} {M : Mp}, dLoop G g tb E ds δ M → G M
  | [], _, _, h => h.1
  | _ :: _, _, _, h => h.1
theorem qs_for (hp : PassesOwn (model X.prog X.w) X.A X.env X.xe) (hc : X.calm = true) (hi : PI X tg iter (lI X.K ti)) (hg : PG X tg (lG X.K g)) (hb : PSs X body (lS X.K tb))
    (hs : ∀ x, foldedSetIterable iter X.env x = pure x := by intro _; rfl) : PS X (.For tg iter body [] pos) (lS X.K (dFor ti g tb)) := by
  refine PS.wk (ps_for hp hc hi hg hb hs) fun D σ H ⟨δ, M, E, r, s, h, w⟩ => ?_
  refine ⟨δ, M, _, r, s, h, fun J G ds M1 H1 q1 it s1 p1 => ?_⟩
  refine ⟨fun i m σ' H' => ∃ δ' M', RepS X.K H' δ' σ' ∧ Sm X.K M' H' ∧ Pers H1 H' ∧ dLoop G g tb E (ds.drop i) δ' M' ∧ m = ds.length - i ∧ i ≤ ds.length, ⟨ds.length, δ, M1, r.mono p1, s1, Pers.refl _, q1, by simp, Nat.zero_le _⟩, ?_⟩
  rintro i m σ' H' ⟨δ', M', r', s', p', hl, rfl, hi⟩
  by_cases hlt : i < ds.length
  · rw [List.drop_eq_getElem_cons hlt] at hl
    obtain ⟨hG, hl⟩ := hl
    refine .inr ⟨it.go i M' H' p' s' hG hlt, fun σ2 H2 => ∃ δ2 M2, RepS X.K H2 δ2 σ2 ∧ Sm X.K M2 H2 ∧ Pers H1 H2 ∧ dLoop G g tb E (ds.drop (i + 1)) δ2 M2, fun σ2 H2 ⟨δ2, M2, a, b, c, d⟩ => ⟨ds.length - (i + 1), by omega, δ2, M2, a, b, c, d, rfl, by omega⟩, fun x H2 y => ?_⟩
    obtain ⟨rx, s2, p2⟩ := it.yld i M' H' x H2 _ p' s' hG (List.getElem?_eq_getElem hlt) y
    refine ⟨_, δ', M', _, rx, r'.mono p2, s2, hl, fun δ3 M3 σ3 H3 q3 r3 s3 p3 => ?_⟩
    refine ⟨δ3, M3, _, r3, s3, q3, ⟨fun δ4 M4 σ4 H4 q4 r4 s4 p4 => ⟨δ4, M4, r4, s4, ((p'.trans p2).trans p3).trans p4, q4⟩, ?_, ?_, fun δ4 M4 σ4 H4 q4 r4 s4 p4 => ⟨δ4, M4, r4, s4, ((p'.trans p2).trans p3).trans p4, q4⟩⟩⟩
    · exact w.rt.on (((p1.trans p').trans p2).trans p3)
    · exact w.nx.on (((p1.trans p').trans p2).trans p3)
  · have e : ds.drop i = [] := List.drop_eq_nil_of_le (by omega)
    rw [e] at hl
    exact .inl ⟨it.stop i M' H' p' s' hl.1 (by omega), w.nx _ _ _ _ hl.2 r' s' (p1.trans p')⟩
end
/-- while: by an invariant and a measure -/
def dWhile (c : RT) (tb : RS) : RS := fun E δ M => ∃ W : Nat → DSt → Mp → Prop, (∃ m, W m δ M) ∧ ∀ m δ M, W m δ M →
  c δ M fun b M1 => if b = true then ∃ N : DSt → Mp → Prop, (∀ δ' M', N δ' M' → ∃ m', m' < m ∧ W m' δ' M') ∧ tb { E with nx := N, ct := N, bk := E.nx } δ M1 else E.nx δ M1
section
variable {X : Cx} {c : Expr} {body : List Stmt} {tc : RT} {tb : RS} {pos : Pos}
theorem qs_while (hp : PassesOwn (model X.prog X.w) X.A X.env X.xe) (hc : PT X c (lT X.K tc)) (hb : PSs X body (lS X.K tb)) : PS X (.While c body [] pos) (lS X.K (dWhile tc tb)) := by
  refine PS.wk (ps_while hp hc hb) fun D σ H ⟨δ, M, E, r, s, ⟨W, ⟨m, w0⟩, turn⟩, w⟩ => ?_
  refine ⟨fun m σ' H' => ∃ δ' M', RepS X.K H' δ' σ' ∧ Sm X.K M' H' ∧ Pers H H' ∧ W m δ' M', ⟨m, δ, M, r, s, Pers.refl _, w0⟩, ?_⟩
  rintro m σ' H' ⟨δ', M', r', s', p', w'⟩
  refine ⟨δ', M', _, r', s', turn m δ' M' w', fun b M1 H1 q1 s1 p1 => ?_⟩
  cases b with
  | true =>
    rw [if_pos rfl] at q1 ⊢
    obtain ⟨N, hN, q⟩ := q1
    refine ⟨fun σ2 H2 => ∃ δ2 M2, RepS X.K H2 δ2 σ2 ∧ Sm X.K M2 H2 ∧ Pers H H2 ∧ N δ2 M2, fun σ2 H2 ⟨δ2, M2, a, b, c, d⟩ => ?_, δ', M1, _, r'.mono p1, s1, q, ⟨fun δ4 M4 σ4 H4 q4 r4 s4 p4 => ⟨δ4, M4, r4, s4, (p'.trans p1).trans p4, q4⟩, w.rt.on (p'.trans p1), w.nx.on (p'.trans p1), fun δ4 M4 σ4 H4 q4 r4 s4 p4 => ⟨δ4, M4, r4, s4, (p'.trans p1).trans p4, q4⟩⟩⟩
    obtain ⟨m', h1, h2⟩ := hN _ _ d
    exact ⟨m', h1, δ2, M2, a, b, c, h2⟩
  | false =>
    rw [if_neg Bool.false_ne_true] at q1 ⊢
    exact w.nx _ _ _ _ q1 (r'.mono p1) s1 (p'.trans p1)
end
end Dl
/-! Comprehensions, defs and their calls, over data. -/
namespace Dl
open PySem PySem.Spec PyProof.Rows L2

/-! ### comprehensions -/
def wipeD (δ : DSt) : List Nat → DSt
  | [] => δ
  | v :: vs => (wipeD δ vs).set v none
theorem RepS.wipe {K : PySem.W.Frag} {H : Hp} {δ : DSt} {σ : L2.St} (r : RepS K H δ σ) : ∀ vs : List Nat, RepS K H (wipeD δ vs) (L2.wipe σ vs)
  | [] => r
  | v :: vs => (RepS.wipe r vs).unset v
theorem wipe_set {i : Nat} {x : Option V} : ∀ {vs : List Nat} {σ : L2.St}, i ∈ vs → L2.wipe (σ.set i x) vs = L2.wipe σ vs
  | [], σ, h => by cases h
  | v :: vs, σ, h => by
    show (L2.wipe (σ.set i x) vs).set v none = (L2.wipe σ vs).set v none
    by_cases e : i ∈ vs
    · rw [wipe_set e]
    · rcases List.mem_cons.mp h with rfl | h
      · have com : ∀ (ws : List Nat) (σ : L2.St), i ∉ ws → L2.wipe (σ.set i x) ws = (L2.wipe σ ws).set i x := by
          intro ws
          induction ws with
          | nil => intro σ _; rfl
          | cons w ws ih =>
            intro σ hn
            show (L2.wipe (σ.set i x) ws).set w none = ((L2.wipe σ ws).set w none).set i x
            rw [ih σ (fun z => hn (List.mem_cons_of_mem _ z)), List.set_comm]
            intro z
            exact hn (by simp [z])
        rw [com vs σ e, List.set_set]
      · exact absurd h e
def WkV (K : PySem.W.Frag) (H : Hp) (σ : L2.St) (vs : List Nat) (QD : DSt → Mp → Prop) (Q : L2.St → Hp → Prop) : Prop := ∀ δ M' σ' H', QD δ M' → RepS K H' δ σ' → Sm K M' H' → Pers H H' → L2.wipe σ' vs = L2.wipe σ vs → Q σ' H'
def lGv (K : PySem.W.Frag) (vs : List Nat) (g : RG) : TG := fun v σ H Q => ∃ d δ M QD, Rep K H d v ∧ RepS K H δ σ ∧ Sm K M H ∧ g d δ M QD ∧ WkV K H σ vs QD Q
def lGvs (K : PySem.W.Frag) (vs : List Nat) (g : RGs) : TGs := fun us σ H Q => ∃ ds δ M QD, Reps K H ds us ∧ RepS K H δ σ ∧ Sm K M H ∧ g ds δ M QD ∧ WkV K H σ vs QD Q
section
variable {X : Cx} {vs : List Nat} {pos : Pos}
theorem qv_name (i : Nat) {x : Str} (hN : X.N.Nodup) (hv : i ∈ vs := by decide) (hi : X.N[i]? = some x := by rfl) (hx : Loc X.env.scope x := by first | exact Or.inl rfl | exact Or.inr rfl) (hf : X.fn x = true ∨ X.env.scope.names.lookup x = some .local := by first | exact .inl rfl | exact .inr rfl | assumption) : PG X (.Name x pos) (lGv X.K vs (dgName i)) := by
  refine PG.wk (pg_name hN hi hx hf) fun v σ H Q ⟨d, δ, M, QD, rd, r, s, h, w⟩ => ?_
  exact w _ _ _ _ h (r.set i rd) s (Pers.refl H) (wipe_set hv)
theorem qvs_nil : PGs X [] (lGvs X.K vs dgNil) := PGs.wk pgs_nil fun us σ H Q ⟨ds, δ, M, QD, rd, r, s, h, w⟩ => by
  obtain ⟨rfl, h⟩ := h
  exact ⟨reps_nil_inv rd, w _ _ _ _ h r s (Pers.refl H) rfl⟩
theorem qvs_cons {e : Expr} {es : List Expr} {t : RG} {u : RGs} (h1 : PG X e (lGv X.K vs t)) (h2 : PGs X es (lGvs X.K vs u))
    (hs : (assignEach (e :: es) X.env).map (·.2) = assign e X.env :: (assignEach es X.env).map (·.2) := by rfl) : PGs X (e :: es) (lGvs X.K vs (dgCons t u)) := by
  refine PGs.wk (pgs_cons h1 h2 hs) fun us σ H Q ⟨ds, δ, M, QD, rd, r, s, h, w⟩ => ?_
  cases ds with
  | nil => exact h.elim
  | cons d ds =>
    obtain ⟨v, vr, rfl, a, b⟩ := reps_cons_inv rd
    refine ⟨v, vr, rfl, d, δ, M, _, a, r, s, h, fun δ1 M1 σ1 H1 q1 r1 s1 p1 e1 => ?_⟩
    exact ⟨ds, δ1, M1, QD, Reps.mono p1 _ _ b, r1, s1, q1, fun δ2 M2 σ2 H2 q2 r2 s2 p2 e2 => w _ _ _ _ q2 r2 s2 (p1.trans p2) (e2.trans e1)⟩
theorem qv_tup {es : List Expr} {k : Nat} {t : RGs} {n : Nat} (hc : X.calm = true) (h : PGs X es (lGvs X.K vs t))
    (hn : (assignEach es X.env).length = n := by rfl) (hst : (assignEach es X.env).findIdx? (·.1) = none := by rfl) : PG X (.Tuple es k pos) (lGv X.K vs (dgTup n t)) := by
  refine PG.wk (pg_tup hc h hn hst) fun v σ H Q ⟨d, δ, M, QD, rd, r, s, h, w⟩ => ?_
  cases d with
  | tup ds =>
    obtain ⟨p, xs, rfl, hs, hr⟩ := rep_tup rd
    exact ⟨p, xs, rfl, hs, by rw [hr.len]; exact h.1, ds, δ, M, QD, hr, r, s, h.2, w⟩
  | _ => exact h.elim
end
def dYes : RT := fun _ M Q => Q true M
def dLcLoop (G : Mp → Prop) (g : RG) (tt : RT) (te : RE) (δ0 : DSt) (p : Addr) (Q : Mp → Prop) : List D → List D → Mp → Prop
  | [], _, M => G M ∧ Q M
  | d :: r, acc, M => G M ∧ g d δ0 M fun δ1 M1 => tt δ1 M1 fun b M2 => if b = true then te δ1 M2 fun e M3 => M3 p = some (.lst acc) ∧ acc.length < 1000000 ∧ dLcLoop G g tt te δ0 p Q r (acc ++ [e]) (mup M3 p (.lst (acc ++ [e]))) else dLcLoop G g tt te δ0 p Q r acc M2
def dLc (it : RI) (g : RG) (tt : RT) (te : RE) (vs : List Nat) : RE := fun δ M Q => it δ M fun G ds M1 => ∀ p, M1 p = none → dLcLoop G g tt te (wipeD δ vs) p (Q (.ref p)) ds [] (mup M1 p (.lst []))
section
variable {X : Cx}
theorem qts_nil : PTs X [] (lT X.K dYes) := ⟨fun pins s σ H Q I ⟨δ, M, QD, r, sm, h, w⟩ => pts_nil.run pins s σ H Q I (w _ _ _ h sm (Pers.refl H))⟩
theorem qts_one {c : Expr} {t : RT} (h : PT X c (lT X.K t)) : PTs X [c] (lT X.K t) := pts_one h
theorem lLc {wi : RI} {g : RG} {tt : RT} {te : RE} {vs : List Nat} {σ : L2.St} {H : Hp} {Q : VK} (h : lE X.K (dLc wi g tt te vs) σ H Q) : tLc (lI X.K wi) (lGv X.K vs g) (lT X.K tt) (lE X.K te) vs σ H Q := by
  obtain ⟨δ, M, QD, r, s, h, w⟩ := h
  refine ⟨δ, M, _, r, s, h, fun J G ds M1 H1 q1 it s1 p1 => ?_⟩
  intro Dl hD
  have q1 := q1 Dl (s1.free hD)
  have pn : Pers H1 (upd H1 Dl (.lst [])) := Pers.new hD
  refine ⟨fun i m H' => ∃ acc M', Sm X.K M' H' ∧ Pers H1 H' ∧ dLcLoop G g tt te (wipeD δ vs) Dl (QD (.ref Dl)) (ds.drop i) acc M' ∧ m = ds.length - i ∧ i ≤ ds.length, ⟨ds.length, [], _, s1.put (u := .lst []) pn ⟨[], upd_same, reps_nil⟩, pn, q1, by simp, Nat.zero_le _⟩, ?_⟩
  rintro i m H' ⟨acc, M', s', p', hl, rfl, hi⟩
  by_cases hlt : i < ds.length
  · rw [List.drop_eq_getElem_cons hlt] at hl
    obtain ⟨hG, hl⟩ := hl
    refine .inr ⟨it.go i M' H' p' s' hG hlt, fun H2 => ∃ acc M2, Sm X.K M2 H2 ∧ Pers H1 H2 ∧ dLcLoop G g tt te (wipeD δ vs) Dl (QD (.ref Dl)) (ds.drop (i + 1)) acc M2, fun H2 ⟨acc, M2, a, b, d⟩ => ⟨ds.length - (i + 1), by omega, acc, M2, a, b, d, rfl, by omega⟩, fun x H2 y => ?_⟩
    obtain ⟨rx, s2, p2⟩ := it.yld i M' H' x H2 _ p' s' hG (List.getElem?_eq_getElem hlt) y
    have rw0 : RepS X.K H2 (wipeD δ vs) (L2.wipe σ vs) := (r.mono ((p1.trans p').trans p2)).wipe vs
    have aux : ∀ (ws : List Nat) (v : Nat), (∀ y ∈ ws, y ∈ vs) → v ∈ vs → L2.wipe ((L2.wipe σ ws).set v none) vs = L2.wipe (L2.wipe σ ws) vs := fun ws v _ hv => wipe_set hv
    have idem : ∀ ws : List Nat, (∀ y ∈ ws, y ∈ vs) → L2.wipe (L2.wipe σ ws) vs = L2.wipe σ vs := by
      intro ws
      induction ws with
      | nil => intro _; rfl
      | cons v ws ih =>
        intro hs
        show L2.wipe ((L2.wipe σ ws).set v none) vs = _
        rw [wipe_set (hs v (by simp))]
        exact ih fun y hy => hs y (by simp [hy])
    have ww : L2.wipe (L2.wipe σ vs) vs = L2.wipe σ vs := idem vs fun _ h => h
    refine ⟨_, _, M', _, rx, rw0, s2, hl, fun δ3 M3 σ3 H3 q3 r3 s3 p3 e3 => ⟨e3.trans ww, ?_⟩⟩
    refine ⟨δ3, M3, _, r3, s3, q3, fun b M4 H4 q4 s4 p4 => ?_⟩
    cases b with
    | true =>
      rw [if_pos rfl] at q4 ⊢
      refine ⟨δ3, M4, _, r3.mono p4, s4, q4, fun e M5 v H5 q5 r5 s5 p5 => ?_⟩
      obtain ⟨g1, g2, g3⟩ := q5
      obtain ⟨xs, h1, h2⟩ := s5 _ _ g1
      have pc : Pers H5 (upd H5 Dl (.lst (xs ++ [v]))) := Pers.chg h1 (by intro _ z; cases z) (by intro _ _ z; cases z)
      refine ⟨xs, h1, by rw [h2.len]; exact Nat.lt_of_lt_of_le g2 (by decide), acc ++ [e], _, s5.put (u := .lst (acc ++ [e])) pc ⟨_, upd_same, (Reps.mono pc _ _ h2).app (reps_cons (Rep.mono pc _ _ r5) reps_nil)⟩, (((((p'.trans p2).trans p3).trans p4).trans p5)).trans pc, g3⟩
    | false =>
      rw [if_neg Bool.false_ne_true] at q4 ⊢
      exact ⟨acc, M4, s4, ((p'.trans p2).trans p3).trans p4, q4⟩
  · have e : ds.drop i = [] := List.drop_eq_nil_of_le (by omega)
    rw [e] at hl
    exact .inl ⟨it.stop i M' H' p' s' hl.1 (by omega), w _ _ _ _ hl.2 (by simp only [Rep]) s' (p1.trans p')⟩
theorem qe_lc {elt tg iter : Expr} {ifs : List Expr} {scope : Scope} {own : List (Str × Nat)} {pos : Pos} {wi : RI} {g : RG} {tt : RT} {te : RE} (hc : X.calm = true) (hN : X.N.Nodup) (hi : PI X tg iter (lI X.K wi)) (ok : BlkOk X.N X.env.scope scope own)
    (hg : ∀ (s : Shared) (H : Hp) (C : Addr) (cl : List (Str × Addr)) (fp : List Addr), PG (X.blk s H scope (compEnvC scope cl C X.env) fp) tg (lGv X.K (own.map (·.2)) g)) (ht : ∀ (s : Shared) (H : Hp) (C : Addr) (cl : List (Str × Addr)) (fp : List Addr), PTs (X.blk s H scope (compEnvC scope cl C X.env) fp) ifs (lT X.K tt))
    (he : ∀ (s : Shared) (H : Hp) (C : Addr) (cl : List (Str × Addr)) (fp : List Addr), PE (X.blk s H scope (compEnvC scope cl C X.env) fp) elt (lE X.K te)) (hs : ∀ x, foldedSetIterable iter X.env x = pure x := by intro _; rfl) :
    PE X (.ListComp elt [⟨tg, iter, ifs, 0⟩] scope pos) (lE X.K (dLc wi g tt te (own.map (·.2)))) :=
  PE.wk (pe_lc hc hN hi ok hg ht he hs) fun σ H Q h => lLc h
theorem qs_setLc (i : Nat) {y : Str} {py : Pos} {elt tg iter : Expr} {ifs : List Expr} {scope : Scope} {own : List (Str × Nat)} {pos spos : Pos} {wi : RI} {g : RG} {tt : RT} {te : RE} (hc : X.calm = true) (hN : X.N.Nodup) (hy : X.N[i]? = some y) (hyl : X.env.scope.names.lookup y = some .local)
    (hsw : swapsWith (.ListComp elt [⟨tg, iter, ifs, 0⟩] scope pos) (some (.Name y py)) spos.line X.env = pure true) (hi : PI X tg iter (lI X.K wi)) (ok : BlkOk X.N X.env.scope scope own)
    (hg : ∀ (s : Shared) (H : Hp) (C : Addr) (cl : List (Str × Addr)) (fp : List Addr), PG (X.blk s H scope (compEnvC scope cl C X.env) fp) tg (lGv X.K (own.map (·.2)) g)) (ht : ∀ (s : Shared) (H : Hp) (C : Addr) (cl : List (Str × Addr)) (fp : List Addr), PTs (X.blk s H scope (compEnvC scope cl C X.env) fp) ifs (lT X.K tt))
    (he : ∀ (s : Shared) (H : Hp) (C : Addr) (cl : List (Str × Addr)) (fp : List Addr), PE (X.blk s H scope (compEnvC scope cl C X.env) fp) elt (lE X.K te)) (hs : ∀ x, foldedSetIterable iter X.env x = pure x := by intro _; rfl) :
    PS X (.Assign [.Name y py] (.ListComp elt [⟨tg, iter, ifs, 0⟩] scope pos) spos) (lS X.K (dAsg (dLc wi g tt te (own.map (·.2))) (dgName i))) := by
  refine PS.wk (ps_setLc hc hN hy hyl hsw hi ok hg ht he hs) fun D σ H ⟨δ, M, E, r, s, h, w⟩ => ?_
  refine lLc (X := X) ⟨δ, M, _, r, s, h, fun d M1 v H1 q1 r1 s1 p1 => w.nx _ _ _ _ q1 ((r.mono p1).set i r1) s1 p1⟩
end

/-! ### what a def promises, over data -/
abbrev DSp := List D → Mp → DK → DX → Prop
def lSp (K : PySem.W.Frag) (p : DSp) : Sp := fun vs H Q E => ∃ ds M QD ED, Reps K H ds vs ∧ Sm K M H ∧ p ds M QD ED ∧ Wk K H QD Q ∧ WkX K H ED E
abbrev FnD (P : Program) (w : World) (K : PySem.W.Frag) (mg : Str → Option Value) (base : Heap) (k : Nat) (f : Addr) (fd : FuncData) (ps : List Str) (p : DSp) : Prop := FnOk P w K mg base (L2.CX P w) k f fd ps (lSp K p)
/-- what a smaller store gives a greater one gives -/
def up (Q : DK) : DK := fun d M => ∃ M0, Sub M0 M ∧ Q d M0
def upX (E : DX) : DX := fun c fs M => ∃ M0, Sub M0 M ∧ E c fs M0
theorem up.of {Q : DK} {d : D} {M : Mp} (h : Q d M) : up Q d M := ⟨M, Sub.refl M, h⟩
theorem up.by {Q : DK} {d : D} {M M0 : Mp} (s : Sub M0 M) (h : Q d M0) : up Q d M := ⟨M0, s, h⟩
/-- nothing is raised -/
def eX0 : DX := fun _ _ _ => False
/-- a wish about exceptions, over the layer -/
def xk (K : PySem.W.Frag) (ED : DX) : XK := fun cls d H' => ∃ fs M', ED cls fs M' ∧ Xd K H' fs d ∧ Sm K M' H'
theorem Inv.pers {X : Cx} {pins : List (Addr × Obj)} {σ : L2.St} {H : Hp} {s : Shared} (I : Inv X pins σ H s) : Pers X.H_0 H :=
  ⟨I.base.tups, fun b o xs e => I.base.frzs b o _ e, fun b o xs e => I.base.frzs b o _ e⟩
theorem takes_xk {X : Cx} {ED : DX} {E : XK} (hE : WkX X.K X.H_0 ED E) (tk : Takes X (fun cls d _ H => E cls d H)) : Takes X (fun cls d _ H => xk X.K ED cls d H) := fun u s' h => by
  refine tk u s' ?_
  obtain ⟨a, B, sI, pins, σ, H, cls, d, e, I, nb, up, sky, na, os, ag, w⟩ := h
  refine ⟨a, B, sI, pins, σ, H, cls, d, e, I, nb, up, sky, na, os, ag, ?_⟩
  obtain ⟨fs, M', h1, h2, h3⟩ := w
  exact hE _ _ _ _ _ h1 h2 h3 (Inv.pers I)
section
variable {P : Program} {w : World} {K : PySem.W.Frag} {mg : Str → Option Value} {base : Heap}
theorem okD {x qual : Str} {st : Stmt} {f : Addr} {fd : FuncData} {N ps : List Str} {k : Nat} {p : DSp} (F : Fun K x qual st f fd) (S : FnScope N ps (defScope st)) (len : ∀ ds M Q E, p ds M Q E → ds.length = ps.length)
    (hbody : ∀ (cdv : Value) (A : Around) (outer : List Env) (s : Shared) (H : Hp) (E : XK) (ds : List D) (M : Mp) (Q : DK) (ED : DX), Room k (A.deeper (envOfC qual (defScope st) s.heap.objs.size f cdv)) → p ds M Q ED →
      Takes (cxOf (L2.CX P w) P w K mg base N qual (defScope st) f cdv A outer s H E) (fun cls d _ H => xk K ED cls d H) → PassesOwn (model P w) (A.deeper (envOfC qual (defScope st) s.heap.objs.size f cdv)) (envOfC qual (defScope st) s.heap.objs.size f cdv) (cxOf (L2.CX P w) P w K mg base N qual (defScope st) f cdv A outer s H E).xe →
      ∃ t, PSs (cxOf (L2.CX P w) P w K mg base N qual (defScope st) f cdv A outer s H E) (defBody st) (lS K t) ∧ t { nx := fun _ M' => up Q .non M', rt := up Q } (startD N ds) M) : FnD P w K mg base (k + 1) f fd ps p := by
  refine F.okX S (fun vs H Q E ⟨ds, M, QD, ED, r, s, h, _, _⟩ => by rw [r.len]; exact len _ _ _ _ h) fun cdv A outer s H vs Q E hr ⟨ds, M, QD, ED, r, sm, h, wq, we⟩ => ?_
  have tk : Takes (cxOf (L2.CX P w) P w K mg base N qual (defScope st) f cdv A outer s H E) (fun cls d _ H => E cls d H) := takes_of rfl rfl rfl rfl
  obtain ⟨t, h1, h2⟩ := hbody cdv A outer s H E ds M QD ED hr h (takes_xk we tk) (passes_of (K := fun e s' => L2.CX P w outer H s E e s') rfl)
  refine ⟨_, h1, startD N ds, M, _, ?_, sm, h2, ⟨?_, ?_, fun _ _ _ _ z => z.elim, fun _ _ _ _ z => z.elim⟩⟩
  · have hl : ds.length ≤ N.length := by
      rw [len _ _ _ _ h]
      have := congrArg List.length S.pre
      rw [List.length_take] at this
      omega
    rw [startD_eq hl]
    unfold L2.start
    rw [show vs.length = ds.length from r.len]
    exact (RepS.of r).app (RepS.nones _ _ (by rw [List.length_replicate]))
  · rintro δ M' σ' H' ⟨M0, sb, q⟩ r' s' p'
    exact wq _ _ _ _ q (by simp only [Rep]) (s'.sub sb) p'
  · rintro d M' v H' ⟨M0, sb, q⟩ r' s' p'
    exact wq _ _ _ _ q r' (s'.sub sb) p'
end
/-- f(..), nothing raised; f(..) that may raise -/
def dCall (p : DSp) (dd : List D) (t : RA) : RE := fun δ M Q => t δ M fun ds M1 => p (ds ++ dd) M1 Q eX0
def dCallX (p : DSp) (dd : List D) (ED : DX) (t : RA) : RE := fun δ M Q => t δ M fun ds M1 => p (ds ++ dd) M1 Q ED
section
variable {X : Cx} {k : Nat} {f C : Addr} {fd : FuncData} {ps : List Str} {sp : DSp} {dvs : List V} {dd : List D} {dv : List Value} {x m : Str} {p pos apos : Pos} {e o : Expr} {es : List Expr} {ta : RE} {t : RA} {ED : DX}
theorem lCall {E : XK} {σ : L2.St} {H : Hp} {Q : VK} (hd : ∀ H, Reps X.K H dd dvs) (hE : ∀ H, WkX X.K H ED E) (h : lE X.K (dCallX sp dd ED t) σ H Q) : tCall (lSp X.K sp) dvs E (lA X.K t) σ H Q := by
  obtain ⟨δ, M, QD, r, s, h, w⟩ := h
  exact ⟨δ, M, _, r, s, h, fun ds M1 vs H1 q1 r1 s1 p1 => ⟨_, M1, QD, ED, r1.app (hd H1), s1, q1, w.on p1, hE H1⟩⟩
theorem x0 {K : PySem.W.Frag} {H : Hp} : WkX K H eX0 E0 := fun _ _ _ _ _ z => z.elim
theorem xkk {K : PySem.W.Frag} {H : Hp} : WkX K H ED (xk K ED) := fun cls fs M' d H' h1 h2 h3 _ => ⟨fs, M', h1, h2, h3⟩
theorem dd0 {K : PySem.W.Frag} : ∀ H, Reps K H [] [] := fun _ => reps_nil
theorem qe_call (F : FnD X.prog X.w X.K X.mg X.base k f fd ps sp) (hr : Room k X.A) (hg : Gl X x) (hm : X.mg x = some (.ref f)) (hk : PySem.W.keepIn X.K (.ref f) = true) (hb : Binds X.K fd ps dv) (hd : Vals dvs dv) (hdd : ∀ H, Reps X.K H dd dvs)
    (ha : PA X (e :: es) (lA X.K t)) (hdb : (x == ("__debug__" : Str)) = false := by decide) (he : starEach (e :: es) X.env = (false, eval e X.env) :: starEach es X.env := by rfl) (hpl : (backTo pos (starEach es X.env)).any (·.1) = false := by rfl) :
    PE X (.Call (.Name x p) (e :: es) [] pos) (lE X.K (dCall sp dd t)) :=
  PE.wk (pe_call F hr hg hm hk hb hd passL ha hdb he hpl) fun σ H Q h => lCall hdd (fun _ => x0) h
theorem qe_callX (F : FnD X.prog X.w X.K X.mg X.base k f fd ps sp) (hr : Room k X.A) (hg : Gl X x) (hm : X.mg x = some (.ref f)) (hk : PySem.W.keepIn X.K (.ref f) = true) (hb : Binds X.K fd ps dv) (hd : Vals dvs dv) (hdd : ∀ H, Reps X.K H dd dvs)
    (tk : Takes X (fun cls d _ H => xk X.K ED cls d H))
    (ha : PA X (e :: es) (lA X.K t)) (hdb : (x == ("__debug__" : Str)) = false := by decide) (he : starEach (e :: es) X.env = (false, eval e X.env) :: starEach es X.env := by rfl) (hpl : (backTo pos (starEach es X.env)).any (·.1) = false := by rfl) :
    PE X (.Call (.Name x p) (e :: es) [] pos) (lE X.K (dCallX sp dd ED t)) :=
  PE.wk (pe_call F hr hg hm hk hb hd (passes_call tk fun _ _ _ _ z => z) ha hdb he hpl) fun σ H Q h => lCall hdd (fun _ => xkk) h
theorem qe_call0 (F : FnD X.prog X.w X.K X.mg X.base k f fd ps sp) (hr : Room k X.A) (hg : Gl X x) (hm : X.mg x = some (.ref f)) (hk : PySem.W.keepIn X.K (.ref f) = true) (hb : Binds X.K fd ps dv) (hd : Vals dvs dv) (hdd : ∀ H, Reps X.K H dd dvs)
    (hdb : (x == ("__debug__" : Str)) = false := by decide) : PE X (.Call (.Name x p) [] [] pos) (lE X.K (dCall sp dd dNil)) :=
  PE.wk (pe_call0 F hr hg hm hk hb hd passL hdb) fun σ H Q ⟨δ, M, QD, r, s, h, w⟩ => ⟨_, M, QD, eX0, (hdd H), s, h, w, x0⟩
end
end Dl
/-! Built-ins, methods of lists, dicts, over data. -/
namespace Dl
open PySem PySem.Spec PyProof.Rows L2

/-! ### an expression whose new objects are dropped -/
def dPure (t : RE) : RE := fun δ M Q => t δ M fun d M1 => Sub M M1 ∧ Q d M
theorem qe_pure {X : Cx} {e : Expr} {t : RE} (h : PE X e (lE X.K t)) : PE X e (lE X.K (dPure t)) :=
  PE.wk h fun σ H Q ⟨δ, M, QD, r, s, h, w⟩ => ⟨δ, M, _, r, s, h, fun d M1 v H1 q1 r1 s1 p1 => w _ _ _ _ q1.2 r1 (s1.sub q1.1) p1⟩
/-- .. but the list that it gives -/
def dPureL (t : RE) : RE := fun δ M Q => t δ M fun d M1 => match d with
  | .ref p => (match lstOf M1 p with
    | some ds => M p = none ∧ Sub M M1 ∧ Q (.ref p) (mup M p (.lst ds))
    | none => False)
  | _ => False
theorem qe_pureL {X : Cx} {e : Expr} {t : RE} (h : PE X e (lE X.K t)) : PE X e (lE X.K (dPureL t)) :=
  PE.wk h fun σ H Q ⟨δ, M, QD, r, s, h, w⟩ => ⟨δ, M, _, r, s, h, fun d M1 v H1 q1 r1 s1 p1 => by
    cases d with
    | ref p =>
      dsimp only at q1
      split at q1
      · rename_i ds e
        obtain ⟨h1, h2, h3⟩ := q1
        refine w _ _ _ _ h3 r1 (s1.sub fun a o g => ?_) p1
        by_cases ea : a = p
        · subst ea; rw [mup_same] at g; cases g; exact lstOf_some e
        · rw [mup_ne ea] at g; exact h2 a o g
      · exact q1.elim
    | _ => exact q1.elim⟩
def dPureT (t : RT) : RT := fun δ M Q => t δ M fun d M1 => Sub M M1 ∧ Q d M
theorem qt_pure {X : Cx} {e : Expr} {t : RT} (h : PT X e (lT X.K t)) : PT X e (lT X.K (dPureT t)) :=
  PT.wk h fun σ H Q ⟨δ, M, QD, r, s, h, w⟩ => ⟨δ, M, _, r, s, h, fun d M1 H1 q1 s1 p1 => w _ _ _ q1.2 (s1.sub q1.1) p1⟩

/-! ### built-ins -/
def rdLen : List D → Mp → DK → Prop := fun ds M Q => one ds fun d => match d with
  | .str z => z.length ≤ 1000000 ∧ Q (.int z.length) M
  | .ref a => (match M a with
    | some (.lst xs) => Q (.int xs.length) M
    | some (.dK xs) => Q (.int xs.length) M
    | _ => False)
  | _ => (match seqOf M d with
    | some xs => Q (.int xs.length) M
    | none => False)
def rdTuple : List D → Mp → DK → Prop := fun ds M Q => one ds fun d => match d with
  | .tup xs => Q (.tup xs) M
  | .fzl xs => Q (.tup xs) M
  | .ref a => (match lstOf M a with
    | some xs => Q (.tup xs) M
    | none => False)
  | _ => False
def rdListOf : List D → Mp → DK → Prop := fun ds M Q => one ds fun d => match seqOf M d with
  | some xs => ∀ p, M p = none → Q (.ref p) (mup M p (.lst xs))
  | none => False
/-- the truth values, the ints of a list -/
def blsOf : List D → Option (List Bool)
  | [] => some []
  | .bl b :: r => (blsOf r).map (b :: ·)
  | _ => none
def intsOf : List D → Option (List Int)
  | [] => some []
  | .int b :: r => (intsOf r).map (b :: ·)
  | _ => none
theorem blsOf_eq : ∀ {ds : List D} {bs : List Bool}, blsOf ds = some bs → ds = bs.map D.bl
  | [], bs, h => by simp only [blsOf, Option.some.injEq] at h; subst h; rfl
  | d :: r, bs, h => by
    cases d with
    | bl b =>
      simp only [blsOf, Option.map_eq_some_iff] at h
      obtain ⟨cs, e, rfl⟩ := h
      rw [blsOf_eq e]; rfl
    | _ => simp [blsOf] at h
theorem intsOf_eq : ∀ {ds : List D} {bs : List Int}, intsOf ds = some bs → ds = bs.map D.int
  | [], bs, h => by simp only [intsOf, Option.some.injEq] at h; subst h; rfl
  | d :: r, bs, h => by
    cases d with
    | int b =>
      simp only [intsOf, Option.map_eq_some_iff] at h
      obtain ⟨cs, e, rfl⟩ := h
      rw [intsOf_eq e]; rfl
    | _ => simp [intsOf] at h
theorem blsOf_map : ∀ (bs : List Bool), blsOf (bs.map D.bl) = some bs
  | [] => rfl
  | b :: r => by simp only [List.map_cons, blsOf, blsOf_map r, Option.map_some]
theorem intsOf_map : ∀ (bs : List Int), intsOf (bs.map D.int) = some bs
  | [] => rfl
  | b :: r => by simp only [List.map_cons, intsOf, intsOf_map r, Option.map_some]
def lstD (M : Mp) : D → Option (List D)
  | .ref a => lstOf M a
  | .fzl ds => some ds
  | _ => none
theorem lstD_ok {K : PySem.W.Frag} {H : Hp} {M : Mp} {x : D} {v : V} {ds : List D} (s : Sm K M H) (h : lstD M x = some ds) (r : Rep K H x v) : ∃ p xs, v = .ref p ∧ SqL K H p xs ∧ Reps K H ds xs := by
  cases x with
  | fzl es => simp only [lstD, Option.some.injEq] at h; subst h; obtain ⟨p, xs, e, a, b⟩ := rep_fzl r; exact ⟨p, xs, e, a, b⟩
  | ref a =>
    simp only [lstD] at h
    obtain ⟨xs, e, g⟩ := s _ _ (lstOf_some h)
    simp only [Rep] at r
    exact ⟨a, xs, r, SqL.of e, g⟩
  | _ => simp [lstD] at h
def rdAll : List D → Mp → DK → Prop := fun ds M Q => one ds fun d => match (lstD M d).bind blsOf with
  | some bs => Q (.bl (bs.all id)) M
  | none => False
def rdAny : List D → Mp → DK → Prop := fun ds M Q => one ds fun d => match (lstD M d).bind blsOf with
  | some bs => Q (.bl (bs.any id)) M
  | none => False
def rdSum : List D → Mp → DK → Prop := fun ds M Q => one ds fun d => match (lstD M d).bind intsOf with
  | some bs => Q (.int bs.sum) M
  | none => False
def rdMaxL : List D → Mp → DK → Prop := fun ds M Q => one ds fun d => match (lstD M d).bind intsOf with
  | some bs => 0 < bs.length ∧ ∀ m, m ∈ bs → (∀ y, y ∈ bs → y ≤ m) → Q (.int m) M
  | none => False
def rdMinL : List D → Mp → DK → Prop := fun ds M Q => one ds fun d => match (lstD M d).bind intsOf with
  | some bs => 0 < bs.length ∧ ∀ m, m ∈ bs → (∀ y, y ∈ bs → m ≤ y) → Q (.int m) M
  | none => False
def rdMax2 : List D → Mp → DK → Prop := fun ds M Q => two ds fun d e => anInt d fun i => anInt e fun j => Q (.int (max i j)) M
def rdMin2 : List D → Mp → DK → Prop := fun ds M Q => two ds fun d e => anInt d fun i => anInt e fun j => Q (.int (min i j)) M
def rdAbs : List D → Mp → DK → Prop := fun ds M Q => one ds fun d => anInt d fun i => Q (.int (if i < 0 then -i else i)) M
def rdInt : List D → Mp → DK → Prop := fun ds M Q => one ds fun d => match d with
  | .int i => Q (.int i) M
  | .bl b => Q (.int (if b then 1 else 0)) M
  | _ => False
/-- a value's type -/
def tyD (M : Mp) : D → Option String
  | .non => some "NoneType"
  | .bl _ => some "bool"
  | .int _ => some "int"
  | .str _ => some "str"
  | .tup _ => some "tuple"
  | .fzt _ => none
  | .fzl _ => none
  | .ty _ => none
  | .ref a => match M a with
    | some (.lst _) => some "list"
    | some (.dK _) => some "dict"
    | some (.dT _) => some "dict"
    | _ => none
def isB (t n : String) : Bool := t == n || (t == "bool" && n == "int")
def rdIsi : List D → Mp → DK → Prop := fun ds M Q => two ds fun d e => match e with
  | .ty n => (n = "int" ∨ n = "bool" ∨ n = "str" ∨ n = "tuple" ∨ n = "list") ∧ (match tyD M d with
    | some t => Q (.bl (isB t n)) M
    | none => False)
  | _ => False
theorem isB_kit {t n : String} (ht : t = "NoneType" ∨ t = "bool" ∨ t = "int" ∨ t = "str" ∨ t = "tuple" ∨ t = "list" ∨ t = "dict") (hn : n = "int" ∨ n = "bool" ∨ n = "str" ∨ n = "tuple" ∨ n = "list") : kitB t n = some (isB t n) := by
  rcases ht with rfl | rfl | rfl | rfl | rfl | rfl | rfl <;> rcases hn with rfl | rfl | rfl | rfl | rfl <;> decide +kernel
theorem tyD_ok {K : PySem.W.Frag} {H : Hp} {M : Mp} {x : D} {v : V} {t : String} (s : Sm K M H) (h : tyD M x = some t) (r : Rep K H x v) : TyX K H v (.type t) ∧ (t = "NoneType" ∨ t = "bool" ∨ t = "int" ∨ t = "str" ∨ t = "tuple" ∨ t = "list" ∨ t = "dict") := by
  cases x with
  | non => simp only [tyD, Option.some.injEq] at h; subst h; simp only [Rep] at r; subst r; exact ⟨.base .non, by simp⟩
  | bl b => simp only [tyD, Option.some.injEq] at h; subst h; simp only [Rep] at r; subst r; exact ⟨.base (.bl b), by simp⟩
  | int b => simp only [tyD, Option.some.injEq] at h; subst h; simp only [Rep] at r; subst r; exact ⟨.base (.int b), by simp⟩
  | str b => simp only [tyD, Option.some.injEq] at h; subst h; simp only [Rep] at r; subst r; exact ⟨.base (.str b), by simp⟩
  | tup b => simp only [tyD, Option.some.injEq] at h; subst h; obtain ⟨p, xs, rfl, e, _⟩ := rep_tupH r; exact ⟨.base (.tup e), by simp⟩
  | ref a =>
    simp only [Rep] at r
    subst r
    simp only [tyD] at h
    split at h
    · rename_i e; cases h; obtain ⟨xs, g, _⟩ := s _ _ e; exact ⟨.base (.lst g), by simp⟩
    · rename_i e; cases h; obtain ⟨xs, g, _⟩ := s _ _ e; exact ⟨.base (.dK g), by simp⟩
    · rename_i e; cases h; obtain ⟨xs, g, _⟩ := s _ _ e; exact ⟨.base (.dT g), by simp⟩
    · cases h
  | _ => simp [tyD] at h
section
variable {X : Cx}
theorem c_len : CallR X (.builtin "len") (lC X.K rdLen) := by
  intro pins s σ H vs us Q I rv ⟨ds, M, QD, rd, sm, h, w⟩
  obtain ⟨d, v, rfl, rfl, r1, h⟩ := one_inv h rd
  have sq : ∀ {xs : List D}, seqOf M d = some xs → QD (.int xs.length) M → wpAny (model X.prog X.w) X.A (call (.builtin "len") us) (EP X pins σ Q) X.xe s := fun {xs} e h => by
    obtain ⟨p, ys, rfl, hx, hr⟩ := seqOf_ok sm e r1
    exact call_len_seq pins s σ H _ us Q I rv ⟨p, ys, rfl, hx, by rw [hr.len]; exact w _ _ _ _ h (by simp only [Rep]) sm (Pers.refl H)⟩
  cases d with
  | str z =>
    simp only [Rep] at r1
    exact call_len_str pins s σ H _ us Q I rv ⟨z, by rw [r1], line_mil h.1, w _ _ _ _ h.2 (by simp only [Rep]) sm (Pers.refl H)⟩
  | ref a =>
    simp only [Rep] at r1
    dsimp only at h
    split at h
    · rename_i e
      exact sq (by simp only [seqOf, lstOf, e]) h
    · rename_i e
      obtain ⟨xs, g, r⟩ := sm _ _ e
      exact call_lenD pins s σ H _ us Q I rv ⟨a, xs, by rw [r1], g, by rw [r.len]; exact w _ _ _ _ h (by simp only [Rep]) sm (Pers.refl H)⟩
    · exact h.elim
  | tup ds => exact sq rfl h
  | fzl ds => exact sq rfl h
  | fzt ds => exact sq rfl h
  | _ => exact h.elim
theorem c_tuple : CallR X (.type "tuple") (lC X.K rdTuple) := by
  intro pins s σ H vs us Q I rv ⟨ds, M, QD, rd, sm, h, w⟩
  obtain ⟨d, v, rfl, rfl, r1, h⟩ := one_inv h rd
  cases d with
  | tup es =>
    obtain ⟨p, ys, rfl, a, b⟩ := rep_tup r1
    exact call_tupleT pins s σ H _ us Q I rv ⟨p, ys, rfl, a, w _ _ _ _ h r1 sm (Pers.refl H)⟩
  | fzl es =>
    obtain ⟨p', ys', rfl, a', b'⟩ := rep_fzl r1
    refine call_tuple_of pins s σ H _ us Q I rv ⟨p', ys', rfl, .inl ⟨a', fun l hl => ?_⟩⟩
    have pn : Pers H (upd H l (.tup ys')) := Pers.new hl
    exact w _ _ _ _ h (rep_tup_mk upd_same (Reps.mono pn _ _ b')) (sm.new hl) pn
  | ref a =>
    simp only [Rep] at r1
    subst r1
    dsimp only at h
    split at h
    · rename_i xs e
      obtain ⟨ys, g, b⟩ := sm _ _ (lstOf_some e)
      refine call_tuple_of pins s σ H _ us Q I rv ⟨a, ys, rfl, .inl ⟨SqL.of g, fun l hl => ?_⟩⟩
      have pn : Pers H (upd H l (.tup ys)) := Pers.new hl
      exact w _ _ _ _ h (rep_tup_mk upd_same (Reps.mono pn _ _ b)) (sm.new hl) pn
    · exact h.elim
  | _ => exact h.elim
theorem c_list : CallR X (.type "list") (lC X.K rdListOf) := by
  intro pins s σ H vs us Q I rv ⟨ds, M, QD, rd, sm, h, w⟩
  obtain ⟨d, v, rfl, rfl, r1, h⟩ := one_inv h rd
  split at h
  · rename_i xs e
    obtain ⟨p, ys, rfl, a, b⟩ := seqOf_ok sm e r1
    refine call_list_of pins s σ H _ us Q I rv ⟨p, ys, rfl, a, fun l hl => ?_⟩
    have pn : Pers H (upd H l (.lst ys)) := Pers.new hl
    exact w _ _ _ _ (h l (sm.free hl)) (by simp only [Rep]) (sm.put pn ⟨_, upd_same, Reps.mono pn _ _ b⟩) pn
  · exact h.elim
theorem bind_bl {M : Mp} {d : D} {bs : List Bool} (h : (lstD M d).bind blsOf = some bs) : ∃ ds, lstD M d = some ds ∧ ds = bs.map D.bl := by
  cases e : lstD M d with
  | none => rw [e] at h; cases h
  | some ds => rw [e] at h; exact ⟨ds, rfl, blsOf_eq h⟩
theorem bind_int {M : Mp} {d : D} {bs : List Int} (h : (lstD M d).bind intsOf = some bs) : ∃ ds, lstD M d = some ds ∧ ds = bs.map D.int := by
  cases e : lstD M d with
  | none => rw [e] at h; cases h
  | some ds => rw [e] at h; exact ⟨ds, rfl, intsOf_eq h⟩
theorem c_all (hc : X.calm = true) : CallR X (.builtin "all") (lC X.K rdAll) := by
  intro pins s σ H vs us Q I rv ⟨ds, M, QD, rd, sm, h, w⟩
  obtain ⟨d, v, rfl, rfl, r1, h⟩ := one_inv h rd
  split at h
  · rename_i bs e
    obtain ⟨es, e1, rfl⟩ := bind_bl e
    obtain ⟨p, xs, rfl, a, b⟩ := lstD_ok sm e1 r1
    rw [reps_bls_inv b] at a
    exact cr_all hc pins s σ H _ us Q I rv ⟨p, bs, rfl, a, w _ _ _ _ h (by simp only [Rep]) sm (Pers.refl H)⟩
  · exact h.elim
theorem c_any (hc : X.calm = true) : CallR X (.builtin "any") (lC X.K rdAny) := by
  intro pins s σ H vs us Q I rv ⟨ds, M, QD, rd, sm, h, w⟩
  obtain ⟨d, v, rfl, rfl, r1, h⟩ := one_inv h rd
  split at h
  · rename_i bs e
    obtain ⟨es, e1, rfl⟩ := bind_bl e
    obtain ⟨p, xs, rfl, a, b⟩ := lstD_ok sm e1 r1
    rw [reps_bls_inv b] at a
    exact cr_any hc pins s σ H _ us Q I rv ⟨p, bs, rfl, a, w _ _ _ _ h (by simp only [Rep]) sm (Pers.refl H)⟩
  · exact h.elim
theorem c_sum (hc : X.calm = true) : CallR X (.builtin "sum") (lC X.K rdSum) := by
  intro pins s σ H vs us Q I rv ⟨ds, M, QD, rd, sm, h, w⟩
  obtain ⟨d, v, rfl, rfl, r1, h⟩ := one_inv h rd
  split at h
  · rename_i bs e
    obtain ⟨es, e1, rfl⟩ := bind_int e
    obtain ⟨p, xs, rfl, a, b⟩ := lstD_ok sm e1 r1
    rw [reps_ints_inv b] at a
    exact cr_sum hc pins s σ H _ us Q I rv ⟨p, bs, rfl, a, w _ _ _ _ h (by simp only [Rep]) sm (Pers.refl H)⟩
  · exact h.elim
theorem c_maxL (hc : X.calm = true) : CallR X (.builtin "max") (lC X.K rdMaxL) := by
  intro pins s σ H vs us Q I rv ⟨ds, M, QD, rd, sm, h, w⟩
  obtain ⟨d, v, rfl, rfl, r1, h⟩ := one_inv h rd
  split at h
  · rename_i bs e
    obtain ⟨es, e1, rfl⟩ := bind_int e
    obtain ⟨p, xs, rfl, a, b⟩ := lstD_ok sm e1 r1
    rw [reps_ints_inv b] at a
    exact cr_max hc pins s σ H _ us Q I rv ⟨p, bs, rfl, a, h.1, fun m h1 h2 => w _ _ _ _ (h.2 m h1 h2) (by simp only [Rep]) sm (Pers.refl H)⟩
  · exact h.elim
theorem c_minL (hc : X.calm = true) : CallR X (.builtin "min") (lC X.K rdMinL) := by
  intro pins s σ H vs us Q I rv ⟨ds, M, QD, rd, sm, h, w⟩
  obtain ⟨d, v, rfl, rfl, r1, h⟩ := one_inv h rd
  split at h
  · rename_i bs e
    obtain ⟨es, e1, rfl⟩ := bind_int e
    obtain ⟨p, xs, rfl, a, b⟩ := lstD_ok sm e1 r1
    rw [reps_ints_inv b] at a
    exact cr_min hc pins s σ H _ us Q I rv ⟨p, bs, rfl, a, h.1, fun m h1 h2 => w _ _ _ _ (h.2 m h1 h2) (by simp only [Rep]) sm (Pers.refl H)⟩
  · exact h.elim
theorem c_max2 (hc : X.calm = true) : CallR X (.builtin "max") (lC X.K rdMax2) := by
  intro pins s σ H vs us Q I rv ⟨ds, M, QD, rd, sm, h, w⟩
  obtain ⟨d, e, v, v', rfl, rfl, r1, r2, h⟩ := two_inv h rd
  obtain ⟨i, rfl, rfl, h⟩ := anInt_inv h r1
  obtain ⟨j, rfl, rfl, h⟩ := anInt_inv h r2
  refine call_max2 hc pins s σ H _ us Q I rv ⟨i, j, rfl, ?_⟩
  have e : (if j > i then j else i) = max i j := by split <;> omega
  rw [e]
  exact w _ _ _ _ h (by simp only [Rep]) sm (Pers.refl H)
theorem c_min2 (hc : X.calm = true) : CallR X (.builtin "min") (lC X.K rdMin2) := by
  intro pins s σ H vs us Q I rv ⟨ds, M, QD, rd, sm, h, w⟩
  obtain ⟨d, e, v, v', rfl, rfl, r1, r2, h⟩ := two_inv h rd
  obtain ⟨i, rfl, rfl, h⟩ := anInt_inv h r1
  obtain ⟨j, rfl, rfl, h⟩ := anInt_inv h r2
  refine call_min2 hc pins s σ H _ us Q I rv ⟨i, j, rfl, ?_⟩
  have e : (if j < i then j else i) = min i j := by split <;> omega
  rw [e]
  exact w _ _ _ _ h (by simp only [Rep]) sm (Pers.refl H)
theorem c_abs : CallR X (.builtin "abs") (lC X.K rdAbs) := by
  intro pins s σ H vs us Q I rv ⟨ds, M, QD, rd, sm, h, w⟩
  obtain ⟨d, v, rfl, rfl, r1, h⟩ := one_inv h rd
  obtain ⟨i, rfl, rfl, h⟩ := anInt_inv h r1
  exact call_abs pins s σ H _ us Q I rv ⟨i, rfl, w _ _ _ _ h (by simp only [Rep]) sm (Pers.refl H)⟩
theorem c_int : CallR X (.type "int") (lC X.K rdInt) := by
  intro pins s σ H vs us Q I rv ⟨ds, M, QD, rd, sm, h, w⟩
  obtain ⟨d, v, rfl, rfl, r1, h⟩ := one_inv h rd
  cases d with
  | int i => simp only [Rep] at r1; subst r1; exact call_int1 pins s σ H _ us Q I rv (.inl ⟨i, rfl, w _ _ _ _ h (by simp only [Rep]) sm (Pers.refl H)⟩)
  | bl b => simp only [Rep] at r1; subst r1; exact call_int1 pins s σ H _ us Q I rv (.inr ⟨b, rfl, w _ _ _ _ h (by simp only [Rep]) sm (Pers.refl H)⟩)
  | _ => exact h.elim
theorem c_isi : CallR X (.builtin "isinstance") (lC X.K rdIsi) := by
  intro pins s σ H vs us Q I rv ⟨ds, M, QD, rd, sm, h, w⟩
  obtain ⟨d, e, v, v', rfl, rfl, r1, r2, h⟩ := two_inv h rd
  cases e with
  | ty n =>
    simp only [Rep] at r2
    subst r2
    obtain ⟨hn, h⟩ := h
    split at h
    · rename_i t e
      obtain ⟨h1, h2⟩ := tyD_ok sm e r1
      exact call_isi pins s σ H _ us Q I rv ⟨v, .ty n, .type t, .type n, isB t n, rfl, .ty n, h1, kit_ty (isB_kit h2 hn), w _ _ _ _ h (by simp only [Rep]) sm (Pers.refl H)⟩
    · exact h.elim
  | _ => exact h.elim
/-- a built-in type as a value -/
theorem qe_ty {x : Str} {n : String} {pos : Pos} (hg : Gl X x) (hm : X.mg x = none) (hv : bootBuiltins x = some (.type n)) (hn : x ≠ "__name__" := by decide) (hd : (x == ("__debug__" : Str)) = false := by decide) : PE X (.Name x pos) (lE X.K (dC (.ty n))) :=
  qe_c (pe_bltn (v := .ty n) hg hm hv rfl hn hd) fun H => by simp only [Rep]
end

/-! ### lists' methods -/
def isLst (x : D) (M : Mp) : Prop := match x with
  | .ref a => (match lstOf M a with
    | some _ => True
    | none => False)
  | _ => False
def dMt (rd : D → List D → Mp → DK → Prop) (to : RE) (t : RA) : RE := fun δ M Q => to δ M fun x M1 => isLst x M1 ∧ t δ M1 fun ds M2 => rd x ds M2 Q
def lM (K : PySem.W.Frag) (rd : D → List D → Mp → DK → Prop) : V → List V → Hp → VK → Prop := fun v vs H Q => ∃ x ds M QD, Rep K H x v ∧ Reps K H ds vs ∧ Sm K M H ∧ rd x ds M QD ∧ Wk K H QD Q
theorem isLst_ty {K : PySem.W.Frag} {H : Hp} {M : Mp} {x : D} {v : V} (s : Sm K M H) (h : isLst x M) (r : Rep K H x v) : tyV K "list" v H := by
  cases x with
  | ref a =>
    simp only [Rep] at r
    subst r
    simp only [isLst] at h
    split at h
    · rename_i e
      obtain ⟨xs, g, _⟩ := s _ _ (lstOf_some e)
      exact Or.inl ⟨rfl, _, SqL.of g⟩
    · exact h.elim
  | _ => exact h.elim
def aList (x : D) (M : Mp) (k : Addr → List D → Prop) : Prop := match x with
  | .ref a => (match lstOf M a with
    | some xs => k a xs
    | none => False)
  | _ => False
theorem aList_inv {K : PySem.W.Frag} {H : Hp} {M : Mp} {x : D} {v : V} {k : Addr → List D → Prop} (s : Sm K M H) (h : aList x M k) (r : Rep K H x v) : ∃ a xs ys, x = .ref a ∧ v = .ref a ∧ H a = some (.lst ys) ∧ Reps K H xs ys ∧ M a = some (.lst xs) ∧ k a xs := by
  cases x with
  | ref a =>
    simp only [Rep] at r
    simp only [aList] at h
    split at h
    · rename_i xs e
      obtain ⟨ys, g, q⟩ := s _ _ (lstOf_some e)
      exact ⟨a, xs, ys, rfl, r, g, q, lstOf_some e, h⟩
    · exact h.elim
  | _ => exact h.elim
def rdAppend : D → List D → Mp → DK → Prop := fun x ds M Q => one ds fun d => aList x M fun a xs => xs.length < 1000000 ∧ Q .non (mup M a (.lst (xs ++ [d])))
def rdExtend : D → List D → Mp → DK → Prop := fun x ds M Q => one ds fun d => aList x M fun a xs => aList d M fun _ ys => xs.length + ys.length ≤ 1000000 ∧ Q .non (mup M a (.lst (xs ++ ys)))
def rdPop : D → List D → Mp → DK → Prop := fun x ds M Q => ds = [] ∧ aList x M fun a xs => match xs.getLast? with
  | some d => Q d (mup M a (.lst xs.dropLast))
  | none => False
section
variable {X : Cx} {name : Str} {id : String} {o e : Expr} {es : List Expr} {to : RE} {t : RA} {apos cpos : Pos} {rd : D → List D → Mp → DK → Prop}
theorem m_append : MtM X "list.append" (lM X.K rdAppend) := by
  intro pins s σ H v vs vv us Q I rv rs ⟨x, ds, M, QD, rx, rds, sm, h, w⟩
  obtain ⟨d, u, rfl, rfl, r1, h⟩ := one_inv h rds
  obtain ⟨a, xs, ys, rfl, rfl, g, q, _, h1, h2⟩ := aList_inv sm h rx
  have pc : Pers H (upd H a (.lst (ys ++ [u]))) := Pers.chg g (by intro _ z; cases z) (by intro _ _ z; cases z)
  exact mt_append pins s σ H _ _ vv us Q I rv rs ⟨a, ys, u, rfl, rfl, g, by rw [q.len]; exact Nat.lt_of_lt_of_le h1 (by decide), w _ _ _ _ h2 (by simp only [Rep]) (sm.put (u := .lst (xs ++ [d])) pc ⟨_, upd_same, (Reps.mono pc _ _ q).app (reps_cons (Rep.mono pc _ _ r1) reps_nil)⟩) pc⟩
theorem m_extend : MtM X "list.extend" (lM X.K rdExtend) := by
  intro pins s σ H v vs vv us Q I rv rs ⟨x, ds, M, QD, rx, rds, sm, h, w⟩
  obtain ⟨d, u, rfl, rfl, r1, h⟩ := one_inv h rds
  obtain ⟨a, xs, ys, rfl, rfl, g, q, _, h⟩ := aList_inv sm h rx
  obtain ⟨b, zs, ws, rfl, rfl, g2, q2, _, h1, h2⟩ := aList_inv sm h r1
  have pc : Pers H (upd H a (.lst (ys ++ ws))) := Pers.chg g (by intro _ z; cases z) (by intro _ _ z; cases z)
  exact mt_extend pins s σ H _ _ vv us Q I rv rs ⟨a, b, ys, ws, rfl, rfl, g, g2, by rw [q.len, q2.len]; exact line_mil h1, w _ _ _ _ h2 (by simp only [Rep]) (sm.put (u := .lst (xs ++ zs)) pc ⟨_, upd_same, (Reps.mono pc _ _ q).app (Reps.mono pc _ _ q2)⟩) pc⟩
theorem qe_lm (pa : PlainAttrs "list") (slot : Slot "list" name id) (hty : typeOf (.builtin id) = pure (.type "method_descriptor")) (hm : MtR X id (lM X.K rd)) (ho : PE X o (lE X.K to)) (ha : PA X (e :: es) (lA X.K t))
    (hbase : attributeBase o name X.env (eval o X.env) = eval o X.env := by rfl)
    (hfew : ((backTo cpos (starEach (e :: es) X.env)).all (fun x => !x.1) && (backToKw cpos (keywordEach [] X.env)).all (fun x => x.1.isSome)
      && decide ((e :: es).length + ([] : List Keyword).length + (if ([] : List Keyword).isEmpty then 0 else 1) < 30)) = true := by rfl)
    (hline : (apos.endLine == cpos.line) = true := by rfl) (hs : starEach (e :: es) X.env = (false, eval e X.env) :: starEach es X.env := by rfl) (hplain : (backTo cpos (starEach es X.env)).any (·.1) = false := by rfl) : PE X (.Call (.Attribute o name apos) (e :: es) [] cpos) (lE X.K (dMt rd to t)) := by
  refine PE.wk (pe_bm pa slot hty hm ho ha hbase hfew hline hs hplain) fun σ H Q ⟨δ, M, QD, r, s, h, w⟩ => ?_
  refine ⟨δ, M, _, r, s, h, fun x M1 v H1 q1 r1 s1 p1 => ⟨isLst_ty s1 q1.1 r1, δ, M1, _, r.mono p1, s1, q1.2, fun ds M2 vs H2 q2 r2 s2 p2 => ?_⟩⟩
  exact ⟨x, ds, M2, QD, Rep.mono p2 _ _ r1, r2, s2, q2, w.on (p1.trans p2)⟩
end
end Dl
/-! Dicts, sorted, over data. -/
namespace Dl
open PySem PySem.Spec PyProof.Rows L2

section
variable {κ : Type} [DecidableEq κ]
def dlook (kvs : List (κ × D)) (k : κ) : Option D := (kvs.find? fun kv => decide (kv.1 = k)).map (·.2)
def dput (kvs : List (κ × D)) (k : κ) (v : D) : List (κ × D) :=
  if (kvs.any fun kv => decide (kv.1 = k)) = true then kvs.map (fun kv => if kv.1 = k then (kv.1, v) else kv) else kvs ++ [(k, v)]
def ddrop (kvs : List (κ × D)) (k : κ) : List (κ × D) := kvs.filter fun kv => decide (kv.1 ≠ k)
variable {K : PySem.W.Frag} {H : Hp}
theorem look_rep {k : κ} : ∀ {kvs : List (κ × D)} {xs : List (κ × V)}, RepKV K H kvs xs → (∀ d, dlook kvs k = some d → ∃ v, valV xs k = some v ∧ Rep K H d v) ∧ (dlook kvs k = none → valV xs k = none)
  | [], xs, h => by
    rw [show xs = [] from h]
    exact ⟨fun d e => by simp [dlook] at e, fun _ => rfl⟩
  | (j, d) :: r, xs, h => by
    obtain ⟨v, vs, rfl, a, b⟩ := h
    by_cases e : j = k
    · subst e
      refine ⟨fun d' e => ?_, fun e => ?_⟩
      · simp [dlook] at e; subst e; exact ⟨v, valV_pos rfl, a⟩
      · simp [dlook] at e
    · have e1 : dlook ((j, d) :: r) k = dlook r k := by simp [dlook, List.find?_cons, e]
      rw [e1, valV_neg (show ¬ (j, v).1 = k from e)]
      exact look_rep b
theorem any_rep {k : κ} : ∀ {kvs : List (κ × D)} {xs : List (κ × V)}, RepKV K H kvs xs → (xs.any fun kv => decide (kv.1 = k)) = (kvs.any fun kv => decide (kv.1 = k))
  | [], xs, h => by rw [show xs = [] from h]; rfl
  | (j, d) :: r, xs, h => by
    obtain ⟨v, vs, rfl, a, b⟩ := h
    rw [List.any_cons, List.any_cons, any_rep b]
theorem repKV_app : ∀ {kvs kvs' : List (κ × D)} {xs xs' : List (κ × V)}, RepKV K H kvs xs → RepKV K H kvs' xs' → RepKV K H (kvs ++ kvs') (xs ++ xs')
  | [], _, xs, _, h, g => by rw [show xs = [] from h]; exact g
  | (j, d) :: r, _, xs, _, h, g => by
    obtain ⟨v, vs, rfl, a, b⟩ := h
    exact ⟨v, vs ++ _, rfl, a, repKV_app b g⟩
theorem map_rep {k : κ} {d : D} {v : V} (q : Rep K H d v) : ∀ {kvs : List (κ × D)} {xs : List (κ × V)}, RepKV K H kvs xs → RepKV K H (kvs.map fun kv => if kv.1 = k then (kv.1, d) else kv) (xs.map fun kv => if kv.1 = k then (kv.1, v) else kv)
  | [], xs, h => by rw [show xs = [] from h]; exact rfl
  | (j, e) :: r, xs, h => by
    obtain ⟨u, vs, rfl, a, b⟩ := h
    rw [List.map_cons, List.map_cons]
    by_cases ej : j = k
    · rw [if_pos (show (j, e).1 = k from ej), if_pos (show (j, u).1 = k from ej)]
      exact ⟨v, _, rfl, q, map_rep q b⟩
    · rw [if_neg (show ¬ (j, e).1 = k from ej), if_neg (show ¬ (j, u).1 = k from ej)]
      exact ⟨u, _, rfl, a, map_rep q b⟩
theorem put_rep {k : κ} {d : D} {v : V} {kvs : List (κ × D)} {xs : List (κ × V)} (h : RepKV K H kvs xs) (q : Rep K H d v) : RepKV K H (dput kvs k d) (putK xs k v) := by
  unfold dput putK
  rw [any_rep h]
  split
  · exact map_rep q h
  · exact repKV_app h ⟨v, [], rfl, q, rfl⟩
theorem drop_rep {k : κ} : ∀ {kvs : List (κ × D)} {xs : List (κ × V)}, RepKV K H kvs xs → RepKV K H (ddrop kvs k) (dropK xs k)
  | [], xs, h => by rw [show xs = [] from h]; exact rfl
  | (j, e) :: r, xs, h => by
    obtain ⟨u, vs, rfl, a, b⟩ := h
    have ih := drop_rep (k := k) b
    unfold ddrop dropK at ih ⊢
    rw [List.filter_cons, List.filter_cons]
    by_cases ej : j = k
    · rw [if_neg (by simp [ej]), if_neg (by simp [ej])]; exact ih
    · rw [if_pos (by simp [ej]), if_pos (by simp [ej])]; exact ⟨u, _, rfl, a, ih⟩
end
/-- a key, of a dict with int and text keys; of one with tuple keys -/
def keyD : D → Option Key
  | .int i => some (.inl i)
  | .str x => some (.inr x)
  | _ => none
def keysD : List D → Option (List Key)
  | [] => some []
  | d :: r => match keyD d, keysD r with
    | some k, some ks => some (k :: ks)
    | _, _ => none
def tkeyD : D → Option (List Key)
  | .tup ds => keysD ds
  | _ => none
theorem keyD_ok {K : PySem.W.Frag} {H : Hp} {d : D} {v : V} {k : Key} (h : keyD d = some k) (r : Rep K H d v) : v = kV k := by
  cases d with
  | int i => simp only [keyD, Option.some.injEq] at h; subst h; simp only [Rep] at r; exact r
  | str i => simp only [keyD, Option.some.injEq] at h; subst h; simp only [Rep] at r; exact r
  | _ => simp [keyD] at h
theorem keysD_ok {K : PySem.W.Frag} {H : Hp} : ∀ {ds : List D} {vs : List V} {ks : List Key}, keysD ds = some ks → Reps K H ds vs → vs = ks.map kV
  | [], vs, ks, h, r => by simp only [keysD, Option.some.injEq] at h; subst h; exact reps_nil_inv r
  | d :: ds, vs, ks, h, r => by
    obtain ⟨v, w, rfl, a, b⟩ := reps_cons_inv r
    simp only [keysD] at h
    split at h
    · rename_i k l e1 e2
      cases h
      rw [keyD_ok e1 a, keysD_ok e2 b]; rfl
    · cases h
theorem tkeyD_ok {K : PySem.W.Frag} {H : Hp} {d : D} {v : V} {k : List Key} (h : tkeyD d = some k) (r : Rep K H d v) : ∃ b, v = .ref b ∧ H b = some (.tup (k.map kV)) := by
  cases d with
  | tup ds =>
    obtain ⟨p, xs, rfl, e, q⟩ := rep_tupH r
    rw [keysD_ok (show keysD ds = some k from h) q] at e
    exact ⟨p, rfl, e⟩
  | _ => simp [tkeyD] at h
/-- what a dict has at a key: none where it has no such key -/
def dGetAt (M : Mp) (x y : D) (k : Option D → Prop) : Prop := match x with
  | .ref a => (match M a with
    | some (.dK kvs) => (match keyD y with
      | some j => k (dlook kvs j)
      | none => False)
    | some (.lk (.dK kvs)) => (match keyD y with
      | some j => k (dlook kvs j)
      | none => False)
    | some (.dT kvs) => (match tkeyD y with
      | some j => k (dlook kvs j)
      | none => False)
    | _ => False)
  | _ => False
theorem dGetAt_ok {K : PySem.W.Frag} {H : Hp} {M : Mp} {x y : D} {v u : V} {k : Option D → Prop} (s : Sm K M H) (h : dGetAt M x y k) (rx : Rep K H x v) (ry : Rep K H y u) :
    ∃ a o d, v = .ref a ∧ DGet H a u o ∧ k d ∧ ((d = none ∧ o = none) ∨ ∃ e w, d = some e ∧ o = some w ∧ Rep K H e w) := by
  cases x with
  | ref a =>
    simp only [Rep] at rx
    subst rx
    have fin : ∀ {κ : Type} [DecidableEq κ] {kvs : List (κ × D)} {xs : List (κ × V)} {j : κ}, RepKV K H kvs xs → (∃ o, o = valV xs j ∧ ((dlook kvs j = none ∧ o = none) ∨ ∃ e w, dlook kvs j = some e ∧ o = some w ∧ Rep K H e w)) := fun {κ} _ {kvs xs j} r => by
      refine ⟨_, rfl, ?_⟩
      cases e : dlook kvs j with
      | none => exact .inl ⟨rfl, (look_rep r).2 e⟩
      | some d => obtain ⟨w, h1, h2⟩ := (look_rep r).1 d e; exact .inr ⟨d, w, rfl, h1, h2⟩
    simp only [dGetAt] at h
    split at h
    · rename_i kvs e
      split at h
      · rename_i j ej
        obtain ⟨xs, g, r⟩ := s _ _ e
        obtain ⟨o, ho, q⟩ := fin (j := j) r
        rw [keyD_ok ej ry]
        exact ⟨a, o, _, rfl, ho ▸ DGet.k g, h, q⟩
      · exact h.elim
    · rename_i kvs e
      split at h
      · rename_i j ej
        obtain ⟨od, xs, g, r⟩ := s _ _ e
        obtain ⟨o, ho, q⟩ := fin (j := j) r
        rw [keyD_ok ej ry]
        exact ⟨a, o, _, rfl, .inl ⟨xs, j, .inr ⟨od, g⟩, rfl, ho⟩, h, q⟩
      · exact h.elim
    · rename_i kvs e
      split at h
      · rename_i j ej
        obtain ⟨xs, g, r⟩ := s _ _ e
        obtain ⟨o, ho, q⟩ := fin (j := j) r
        obtain ⟨b, rfl, hb⟩ := tkeyD_ok ej ry
        exact ⟨a, o, _, rfl, ho ▸ DGet.t g hb, h, q⟩
      · exact h.elim
    · exact h.elim
  | _ => exact h.elim
def dDGet (td ty : RE) : RE := fun δ M Q => td δ M fun x M1 => ty δ M1 fun y M2 => dGetAt M2 x y fun o => match o with
  | some d => Q d M2
  | none => False
def dDIn (ty td : RE) : RE := fun δ M Q => ty δ M fun y M1 => td δ M1 fun x M2 => dGetAt M2 x y fun o => Q (.bl o.isSome) M2
def dDNotIn (ty td : RE) : RE := fun δ M Q => ty δ M fun y M1 => td δ M1 fun x M2 => dGetAt M2 x y fun o => Q (.bl (!o.isSome)) M2
def dDNewK : RE := fun δ M Q => ∀ p, M p = none → Q (.ref p) (mup M p (.dK []))
def dDNewT : RE := fun δ M Q => ∀ p, M p = none → Q (.ref p) (mup M p (.dT []))
/-- x[y] = v -/
def dPutAt (M : Mp) (x y v : D) (k : Mp → Prop) : Prop := match x with
  | .ref a => (match M a with
    | some (.dK kvs) => (match keyD y with
      | some j => kvs.length < 1000000 ∧ k (mup M a (.dK (dput kvs j v)))
      | none => False)
    | some (.dT kvs) => (match tkeyD y with
      | some j => kvs.length < 1000000 ∧ k (mup M a (.dT (dput kvs j v)))
      | none => False)
    | _ => False)
  | _ => False
def dDPut (td ty tv : RE) : RS := fun E δ M => tv δ M fun v M1 => td δ M1 fun x M2 => ty δ M2 fun y M3 => dPutAt M3 x y v fun M4 => E.nx δ M4
def isDk (x : D) (M : Mp) : Prop := match x with
  | .ref a => (match M a with
    | some (.dK _) => True
    | _ => False)
  | _ => False
def dPopAt (M : Mp) (x y : D) (Q : DK) : Prop := match x with
  | .ref a => (match M a with
    | some (.dK kvs) => (match keyD y with
      | some j => (match dlook kvs j with
        | some d => Q d (mup M a (.dK (ddrop kvs j)))
        | none => False)
      | none => False)
    | _ => False)
  | _ => False
def dDPop (td ty : RE) : RE := fun δ M Q => td δ M fun x M1 => isDk x M1 ∧ ty δ M1 fun y M2 => dPopAt M2 x y Q
section
variable {X : Cx} {o i value e : Expr} {td ty tv : RE} {pos pos' apos cpos : Pos}
theorem qe_dnewK : PE X (.Dict [] [] pos) (lE X.K dDNewK) := PE.wk pe_dnewK fun σ H Q ⟨δ, M, QD, r, s, h, w⟩ p hp =>
  have pn : Pers H (upd H p (.dK [])) := Pers.new hp
  w _ _ _ _ (h p (s.free hp)) (by simp only [Rep]) (s.put (u := .dK []) pn ⟨[], upd_same, rfl⟩) pn
theorem qe_dnewT : PE X (.Dict [] [] pos) (lE X.K dDNewT) := PE.wk pe_dnewT fun σ H Q ⟨δ, M, QD, r, s, h, w⟩ p hp =>
  have pn : Pers H (upd H p (.dT [])) := Pers.new hp
  w _ _ _ _ (h p (s.free hp)) (by simp only [Rep]) (s.put (u := .dT []) pn ⟨[], upd_same, rfl⟩) pn
theorem qe_dget (hu : X.A.units + 1 < cLine) (ho : PE X o (lE X.K td)) (hi : PE X i (lE X.K ty)) (hs : NoSl i := by exact fun _ _ => rfl) : PE X (.Subscript o i pos) (lE X.K (dDGet td ty)) := by
  refine PE.wk (pe_dget hu ho hi hs) fun σ H Q ⟨δ, M, QD, r, s, h, w⟩ => ?_
  refine ⟨δ, M, _, r, s, h, fun x M1 v H1 q1 r1 s1 p1 => ⟨δ, M1, _, r.mono p1, s1, q1, fun y M2 u H2 q2 r2 s2 p2 => ?_⟩⟩
  obtain ⟨a, ov, d, rfl, g, hk, q⟩ := dGetAt_ok s2 q2 (Rep.mono p2 _ _ r1) r2
  rcases q with ⟨rfl, rfl⟩ | ⟨e, z, rfl, rfl, rz⟩
  · exact hk.elim
  · exact ⟨a, z, rfl, g, w _ _ _ _ hk rz s2 (p1.trans p2)⟩
theorem lDIn {σ : L2.St} {H : Hp} {Q : VK} (h : lE X.K (dDIn ty td) σ H Q) : tDIn (lE X.K ty) (lE X.K td) σ H Q := by
  obtain ⟨δ, M, QD, r, s, h, w⟩ := h
  refine ⟨δ, M, _, r, s, h, fun y M1 v H1 q1 r1 s1 p1 => ⟨δ, M1, _, r.mono p1, s1, q1, fun x M2 u H2 q2 r2 s2 p2 => ?_⟩⟩
  obtain ⟨a, ov, d, rfl, g, hk, q⟩ := dGetAt_ok s2 q2 r2 (Rep.mono p2 _ _ r1)
  refine ⟨a, ov, rfl, g, w _ _ _ _ hk ?_ s2 (p1.trans p2)⟩
  rcases q with ⟨rfl, rfl⟩ | ⟨e, z, rfl, rfl, rz⟩ <;> simp only [Rep] <;> rfl
theorem lDNotIn {σ : L2.St} {H : Hp} {Q : VK} (h : lE X.K (dDNotIn ty td) σ H Q) : tDNotIn (lE X.K ty) (lE X.K td) σ H Q := by
  obtain ⟨δ, M, QD, r, s, h, w⟩ := h
  refine ⟨δ, M, _, r, s, h, fun y M1 v H1 q1 r1 s1 p1 => ⟨δ, M1, _, r.mono p1, s1, q1, fun x M2 u H2 q2 r2 s2 p2 => ?_⟩⟩
  obtain ⟨a, ov, d, rfl, g, hk, q⟩ := dGetAt_ok s2 q2 r2 (Rep.mono p2 _ _ r1)
  refine ⟨a, ov, rfl, g, w _ _ _ _ hk ?_ s2 (p1.trans p2)⟩
  rcases q with ⟨rfl, rfl⟩ | ⟨e, z, rfl, rfl, rz⟩ <;> simp only [Rep] <;> rfl
theorem lTest {t : RE} {t' : TE} {σ : L2.St} {H : Hp} {Q : Bool → Hp → Prop} (k : ∀ Q, lE X.K t σ H Q → t' σ H Q) (h : lT X.K (dTest t) σ H Q) : tB t' σ H Q := by
  obtain ⟨δ, M, QD, r, s, h, w⟩ := h
  refine k _ ⟨δ, M, _, r, s, h, fun d M1 v H1 q1 r1 s1 p1 => ?_⟩
  cases d with
  | bl b => simp only [Rep] at r1; exact ⟨b, r1, w b M1 H1 q1 s1 p1⟩
  | _ => exact q1.elim
theorem qe_din (hu : X.A.units + 1 < cLine) (hi : PE X i (lE X.K ty)) (ho : PE X o (lE X.K td)) (h1 : behindInMarks .In o = false := by rfl) : PE X (.Compare i [.In] [o] pos) (lE X.K (dDIn ty td)) := PE.wk (pe_cmp (pc_din hu hi ho) h1) fun σ H Q h => lDIn h
theorem qe_dnotin (hu : X.A.units + 1 < cLine) (hi : PE X i (lE X.K ty)) (ho : PE X o (lE X.K td)) (h1 : behindInMarks .NotIn o = false := by rfl) : PE X (.Compare i [.NotIn] [o] pos) (lE X.K (dDNotIn ty td)) := PE.wk (pe_cmp (pc_dnotin hu hi ho) h1) fun σ H Q h => lDNotIn h
theorem qt_din (hu : X.A.units + 1 < cLine) (hi : PE X i (lE X.K ty)) (ho : PE X o (lE X.K td)) (h1 : behindInMarks .In o = false := by rfl) : PT X (.Compare i [.In] [o] pos) (lT X.K (dTest (dDIn ty td))) := PT.wk (pt_cmp (pc_din hu hi ho) h1) fun σ H Q h => lTest (fun _ => lDIn) h
theorem qt_dnotin (hu : X.A.units + 1 < cLine) (hi : PE X i (lE X.K ty)) (ho : PE X o (lE X.K td)) (h1 : behindInMarks .NotIn o = false := by rfl) : PT X (.Compare i [.NotIn] [o] pos) (lT X.K (dTest (dDNotIn ty td))) := PT.wk (pt_cmp (pc_dnotin hu hi ho) h1) fun σ H Q h => lTest (fun _ => lDNotIn) h
theorem qs_dput (hu : X.A.units + 1 < cLine) (ho : PE X o (lE X.K td)) (hi : PE X i (lE X.K ty)) (hv : PE X value (lE X.K tv)) (hs : swapsWith value (some (.Subscript o i pos')) pos.line X.env = pure false := by rfl) :
    PS X (.Assign [.Subscript o i pos'] value pos) (lS X.K (dDPut td ty tv)) := by
  refine PS.wk (ps_dput hu ho hi hv hs) fun D σ H ⟨δ, M, E, r, s, h, w⟩ => ?_
  refine ⟨δ, M, _, r, s, h, fun d M1 v H1 q1 r1 s1 p1 => ⟨δ, M1, _, r.mono p1, s1, q1, fun x M2 u H2 q2 r2 s2 p2 => ⟨δ, M2, _, (r.mono p1).mono p2, s2, q2, fun y M3 z H3 q3 r3 s3 p3 => ?_⟩⟩⟩
  have ru := Rep.mono p3 _ _ r2
  have rv := Rep.mono (p2.trans p3) _ _ r1
  have pp := (p1.trans p2).trans p3
  cases x with
  | ref a =>
    simp only [Rep] at ru
    subst ru
    simp only [dPutAt] at q3
    split at q3
    · rename_i kvs e
      split at q3
      · rename_i j ej
        obtain ⟨xs, g, rr⟩ := s3 _ _ e
        rw [keyD_ok ej r3]
        have pc : Pers H3 (upd H3 a (.dK (putK xs j v))) := Pers.chg g (by intro _ z; cases z) (by intro _ _ z; cases z)
        refine ⟨a, _, rfl, DPut.k g (by rw [rr.len]; exact Nat.lt_of_lt_of_le q3.1 (by decide)), ?_⟩
        exact w.nx _ _ _ _ q3.2 (r.mono (pp.trans pc)) (s3.put (u := .dK (dput kvs j d)) pc ⟨_, upd_same, (put_rep rr rv).mono pc⟩) (pp.trans pc)
      · exact q3.elim
    · rename_i kvs e
      split at q3
      · rename_i j ej
        obtain ⟨xs, g, rr⟩ := s3 _ _ e
        obtain ⟨b, rfl, hb⟩ := tkeyD_ok ej r3
        have pc : Pers H3 (upd H3 a (.dT (putK xs j v))) := Pers.chg g (by intro _ z; cases z) (by intro _ _ z; cases z)
        refine ⟨a, _, rfl, DPut.t g hb (by rw [rr.len]; exact Nat.lt_of_lt_of_le q3.1 (by decide)), ?_⟩
        exact w.nx _ _ _ _ q3.2 (r.mono (pp.trans pc)) (s3.put (u := .dT (dput kvs j d)) pc ⟨_, upd_same, (put_rep rr rv).mono pc⟩) (pp.trans pc)
      · exact q3.elim
    · exact q3.elim
  | _ => exact q3.elim
theorem qe_dpop (ho : PE X o (lE X.K td)) (he : PE X e (lE X.K ty)) (m : M1 X o "pop" apos e cpos) : PE X (.Call (.Attribute o "pop" apos) [e] [] cpos) (lE X.K (dDPop td ty)) := by
  refine PE.wk (pe_dpop1 ho he m) fun σ H Q ⟨δ, M, QD, r, s, h, w⟩ => ?_
  refine ⟨δ, M, _, r, s, h, fun x M1 v H1 q1 r1 s1 p1 => ?_⟩
  obtain ⟨q0, q1⟩ := q1
  cases x with
  | ref a =>
    simp only [isDk] at q0
    split at q0
    · rename_i kvs e2
      simp only [Rep] at r1
      obtain ⟨xs, g, rr⟩ := s1 _ _ e2
      refine ⟨a, r1, .inl ⟨xs, .inl g⟩, δ, M1, _, r.mono p1, s1, q1, fun y M2 u H2 q2 r2 s2 p2 => ?_⟩
      simp only [dPopAt] at q2
      split at q2
      · rename_i kvs2 f
        split at q2
        · rename_i j ej
          split at q2
          · rename_i d ed
            obtain ⟨ys, g2, rr2⟩ := s2 _ _ f
            obtain ⟨z, h1, h2⟩ := (look_rep rr2).1 d ed
            have pc : Pers H2 (upd H2 a (.dK (dropK ys j))) := Pers.chg g2 (by intro _ z; cases z) (by intro _ _ z; cases z)
            exact ⟨ys, j, z, g2, keyD_ok ej r2, h1, w _ _ _ _ q2 (Rep.mono pc _ _ h2) (s2.put (u := .dK (ddrop kvs2 j)) pc ⟨_, upd_same, (drop_rep rr2).mono pc⟩) ((p1.trans p2).trans pc)⟩
          · exact q2.elim
        · exact q2.elim
      · exact q2.elim
    · exact q0.elim
  | _ => exact q0.elim
end

/-! ### sorted -/
def sortD (ds : List D) : List D := ds.mergeSort (PySem.W.dataLe false py)
def rdSorted : List D → Mp → DK → Prop := fun ds M Q => one ds fun d => match lstD M d with
  | some xs => (∀ x ∈ xs, Pln 60 x) ∧ PySem.W.AllAlike (xs.map py) ∧ PySem.W.Sortable (xs.map py) ∧ xs.length ≤ 1000000 ∧ ∀ p, M p = none → Q (.ref p) (mup M p (.lst (sortD xs)))
  | none => False
theorem each_reads {X : Cx} {pins : List (Addr × Obj)} {σ : L2.St} {H : Hp} {s : Shared} (I : Inv X pins σ H s) : ∀ {ds : List D} {xs : List V} {us : List Value}, (∀ x ∈ ds, Pln 60 x) → Reps X.K H ds xs → Vals xs us →
    PySem.W.EachIs (fun u d => ∃ x, RelV x u ∧ Rep X.K H d x) us ds ∧ PySem.W.EachIs (fun u d => ∃ as, Reads s.heap u (py d) as) us ds
  | [], xs, us, _, r, rv => by
    rw [reps_nil_inv r] at rv
    cases rv
    exact ⟨.nil, .nil⟩
  | d :: ds, xs, us, hp, r, rv => by
    obtain ⟨v, w, rfl, a, b⟩ := reps_cons_inv r
    cases rv with
    | cons r1 r2 =>
      obtain ⟨e1, e2⟩ := each_reads I (fun x m => hp x (List.mem_cons_of_mem _ m)) b r2
      obtain ⟨as, g⟩ := Dp.reads I (py d) v _ (dp_pl d v (hp d (by simp)).ok.1 a) r1
      exact ⟨.cons ⟨v, r1, a⟩ e1, .cons ⟨as, g⟩ e2⟩
theorem each_vals {K : PySem.W.Frag} {H : Hp} : ∀ {us : List Value} {ds : List D}, PySem.W.EachIs (fun u d => ∃ x, RelV x u ∧ Rep K H d x) us ds → ∃ xs, Vals xs us ∧ Reps K H ds xs
  | _, _, .nil => ⟨[], .nil, reps_nil⟩
  | _, _, .cons ⟨x, r, q⟩ t => by
    obtain ⟨xs, a, b⟩ := each_vals t
    exact ⟨x :: xs, .cons r a, reps_cons q b⟩
theorem c_sorted {X : Cx} (hu : X.A.units + 64 < cLine) : CallR X (.builtin "sorted") (lC X.K rdSorted) := by
  intro pins s σ H vs us Q I rv ⟨ds, M, QD, rd, sm, h, w⟩
  obtain ⟨d, v, rfl, rfl, r1, h⟩ := one_inv h rd
  split at h
  · rename_i xs e
    obtain ⟨h1, h2, h3, h4, h5⟩ := h
    obtain ⟨p, ys, rfl, a, b⟩ := lstD_ok sm e r1
    obtain ⟨its, rs, hl, hz⟩ := I.list a
    rw [Vals.ref1 rv]
    obtain ⟨e1, e2⟩ := each_reads I h1 b rs
    refine PySem.W.sorted_data (enc := py) hl.isList e1 e2 h2 h3 (line_mil h4) (fun b m => ?_) fun out ho e3 => ?_
    · have := (h1 b m).ok.2.2
      omega
    · obtain ⟨zs, g1, g2⟩ := each_vals e3
      obtain ⟨ep, he⟩ := PyProof.Rows.sortedAll_at s.heap its (List.toArray out)
      have hf : H (s.heap.objs.size + 1) = none := I.hok.fresh (Nat.le_succ _)
      have hlz : zs.length ≤ sizeLine := by rw [g1.length, ho]; exact line_mil h4
      have pn : Pers H (upd H (s.heap.objs.size + 1) (.lst zs)) := Pers.new hf
      exact ⟨.ref _, upd H (s.heap.objs.size + 1) (.lst zs), I.laid (t' := s.toks) (fun _ _ => PyProof.Rows.sortedAll_old) (Nat.le_succ _) ⟨hlz, out, ep, g1, he⟩, rfl, w _ _ _ _ (h5 _ (sm.free hf)) (by simp only [Rep]) (sm.put (u := .lst (sortD xs)) pn ⟨_, upd_same, Reps.mono pn _ _ g2⟩) pn⟩
  · exact h.elim
end Dl
/-! Small things: built-ins' names, a pair stored, facts about the top. -/
namespace Dl
open PySem PySem.Spec PyProof.Rows L2

/-- a, b = x, y: no tuple is made -/
def dPar (i j : Nat) (ta : RA) : RS := fun E δ M => ta δ M fun ds M1 => two ds fun d e => E.nx ((δ.set i (some d)).set j (some e)) M1
section
variable {X : Cx} {a b : Expr} {ta : RA}
theorem qs_par (i j : Nat) {x y : Str} {px py pt pos : Pos} {kt k2 pt2} (hc : X.calm = true) (hN : X.N.Nodup) (hi : X.N[i]? = some x) (hj : X.N[j]? = some y) (hij : i ≠ j)
    (hx : X.env.scope.names.lookup x = some .local) (hy : X.env.scope.names.lookup y = some .local) (ha : PA X [a, b] (lA X.K ta))
    (hw : swappedStores [.Tuple [.Name x px, .Name y py] kt pt] (.Tuple [a, b] k2 pt2) X.env = pure (some [x, y]))
    (hs : swapsWithSole [.Tuple [.Name x px, .Name y py] kt pt] (.Tuple [a, b] k2 pt2) pos.line X.env = pure false := by rfl) :
    PS X (.Assign [.Tuple [.Name x px, .Name y py] kt pt] (.Tuple [a, b] k2 pt2) pos) (lS X.K (dPar i j ta)) := by
  refine PS.wk (ps_par hc hN hi hj hij hx hy ha hw hs) fun D σ H ⟨δ, M, E, r, s, h, w⟩ => ?_
  refine ⟨δ, M, _, r, s, h, fun ds M1 vs H1 q1 r1 s1 p1 => ?_⟩
  obtain ⟨d, e, v, v', rfl, rfl, a1, a2, q⟩ := two_inv q1 r1
  exact ⟨v, v', rfl, w.nx _ _ _ _ q (((r.mono p1).set i a1).set j a2) s1 p1⟩
end

/-- xs * k, xs a list -/
def rdMulL : D → D → Mp → DK → Prop := fun x y M Q => aList x M fun _ xs => anInt y fun k => (-1000 ≤ k ∧ k ≤ 1000) ∧ xs.length ≤ 1000 ∧ ∀ p, M p = none → Q (.ref p) (mup M p (.lst (List.replicate k.toNat xs).flatten))
theorem reps_flat {K : PySem.W.Frag} {H : Hp} {ds : List D} {xs : List V} (r : Reps K H ds xs) : ∀ n : Nat, Reps K H (List.replicate n ds).flatten (List.replicate n xs).flatten
  | 0 => reps_nil
  | n + 1 => by
    rw [List.replicate_succ, List.replicate_succ, List.flatten_cons, List.flatten_cons]
    exact r.app (reps_flat r n)
theorem o_mulL {X : Cx} : OpR X (binaryOp .Mult) (lR X.K rdMulL) := by
  intro pins s σ H v u vv uu Q I rv ru ⟨x, y, M, QD, rx, ry, sm, h, w⟩
  obtain ⟨a, xs, ys, rfl, rfl, g, q, _, h⟩ := aList_inv sm h rx
  obtain ⟨k, rfl, rfl, h1, h2, h3⟩ := anInt_inv h ry
  have hk : k.toNat ≤ 1000 := by omega
  have hz : ys.length * k.toNat ≤ sizeLine := by
    rw [q.len]
    exact Nat.le_trans (Nat.mul_le_mul h2 hk) (by decide)
  refine op_rep pins s σ H _ _ vv uu Q I rv ru ⟨a, k, ys, rfl, rfl, g, by omega, by omega, hz, fun p hp => ?_⟩
  have pn : Pers H (upd H p (.lst (List.replicate k.toNat ys).flatten)) := Pers.new hp
  exact w _ _ _ _ (h3 p (sm.free hp)) (by simp only [Rep]) (sm.put (u := .lst _) pn ⟨_, upd_same, Reps.mono pn _ _ (reps_flat q _)⟩) pn

/-- a def of the text as it stands behind the top -/
structure Dfn (K : PySem.W.Frag) (mg : Str → Option Value) (x : Str) (qual : Str) (st : Stmt) (ps : List Str) (f : Addr) (fd : FuncData) : Prop where
  F : Fun K x qual st f fd
  g : mg x = some (.ref f)
  b : Binds K fd ps []
end Dl
/-! Small equations for the readings. -/
namespace Dl
open PySem PySem.Spec PyProof.Rows L2
theorem pow10 : (10 : Int) ^ Int.toNat 10 = 10000000000 := by decide
theorem pow11 : (10 : Int) ^ Int.toNat 11 = 100000000000 := by decide
theorem pow12 : (10 : Int) ^ Int.toNat 12 = 1000000000000 := by decide
theorem pow18 : (10 : Int) ^ Int.toNat 18 = 1000000000000000000 := by decide
theorem pow9 : (10 : Int) ^ Int.toNat 9 = 1000000000 := by decide
theorem atI_nat' {α : Type} (xs : List α) (j : Nat) : atI xs (j : Int) = xs[j]? := by
  unfold atI ixN
  rw [if_pos (Int.natCast_nonneg j)]
  by_cases h : j < xs.length
  · rw [if_pos (by omega)]
    show xs[((j : Nat) : Int).toNat]? = xs[j]?
    rw [Int.toNat_natCast]
  · rw [if_neg (by omega), List.getElem?_eq_none (by omega)]; rfl
theorem atI_int {α : Type} (xs : List α) (i : Int) (h : 0 ≤ i) : atI xs i = xs[i.toNat]? := by
  have e : i = ((i.toNat : Nat) : Int) := by omega
  rw [e, atI_nat', Int.toNat_natCast]
theorem atI0 {α : Type} {a : α} {l : List α} : atI (a :: l) 0 = some a := atI_nat' _ 0
theorem atI1 {α : Type} {a b : α} {l : List α} : atI (a :: b :: l) 1 = some b := atI_nat' _ 1
theorem atI2 {α : Type} {a b c : α} {l : List α} : atI (a :: b :: c :: l) 2 = some c := atI_nat' _ 2
theorem atI3 {α : Type} {a b c d : α} {l : List α} : atI (a :: b :: c :: d :: l) 3 = some d := atI_nat' _ 3
theorem atI4 {α : Type} {a b c d e : α} {l : List α} : atI (a :: b :: c :: d :: e :: l) 4 = some e := atI_nat' _ 4
theorem atI5 {α : Type} {a b c d e f : α} {l : List α} : atI (a :: b :: c :: d :: e :: f :: l) 5 = some f := atI_nat' _ 5
theorem atI_last' {α : Type} {l : List α} {a : α} : atI (l ++ [a]) (-1) = some a := by
  unfold atI ixN
  rw [if_neg (by decide), List.length_append, List.length_singleton, if_pos (by omega)]
  show (l ++ [a])[((-1 : Int) + ((l.length + 1 : Nat) : Int)).toNat]? = some a
  have e : ((-1 : Int) + ((l.length + 1 : Nat) : Int)).toNat = l.length := by omega
  rw [e, List.getElem?_append_right (Nat.le_refl _)]
  simp
theorem cut_from {α : Type} (xs : List α) (k : Nat) : cutD xs (some (k : Int)) none = xs.drop k := by
  unfold cutD
  rw [HT.sIx_none, HT.sIx_nat]
  by_cases h : k ≤ xs.length
  · rw [Nat.min_eq_left h, List.take_of_length_le (by rw [List.length_drop]; omega)]
  · rw [Nat.min_eq_right (by omega), List.drop_eq_nil_of_le (Nat.le_refl _), List.drop_eq_nil_of_le (by omega)]; simp
theorem cut_to {α : Type} (xs : List α) (k : Nat) : cutD xs none (some (k : Int)) = xs.take k := by
  unfold cutD
  rw [HT.sIx_none, HT.sIx_nat, List.drop_zero, Nat.sub_zero]
  by_cases h : k ≤ xs.length
  · rw [Nat.min_eq_left h]
  · rw [Nat.min_eq_right (by omega), List.take_of_length_le (Nat.le_refl _), List.take_of_length_le (by omega)]
theorem cut_both {α : Type} (xs : List α) (i j : Nat) : cutD xs (some (i : Int)) (some (j : Int)) = (xs.drop i).take (j - i) := by
  unfold cutD
  rw [HT.sIx_nat, HT.sIx_nat]
  by_cases hi : i ≤ xs.length
  · by_cases hj : j ≤ xs.length
    · rw [Nat.min_eq_left hi, Nat.min_eq_left hj]
    · rw [Nat.min_eq_left hi, Nat.min_eq_right (by omega : xs.length ≤ j)]
      rw [List.take_of_length_le (by rw [List.length_drop]; omega), List.take_of_length_le (by rw [List.length_drop]; omega)]
  · have e : min i xs.length = xs.length := Nat.min_eq_right (by omega)
    rw [e, List.drop_eq_nil_of_le (Nat.le_refl _), List.drop_eq_nil_of_le (by omega : xs.length ≤ i)]; simp
theorem cut_map {α β : Type} (f : α → β) (xs : List α) (lo hi : Option Int) : cutD (xs.map f) lo hi = (cutD xs lo hi).map f := by
  unfold cutD
  rw [List.length_map, List.map_take, List.map_drop]
theorem lstOf_mup {M : Mp} {p : Addr} {ds : List D} : lstOf (mup M p (.lst ds)) p = some ds := by unfold lstOf; rw [mup_same]
theorem lstOf_of {M : Mp} {p : Addr} {ds : List D} (h : M p = some (.lst ds)) : lstOf M p = some ds := by unfold lstOf; rw [h]
theorem mup_id {M : Mp} {p : Addr} {o : MO} (h : M p = some o) : mup M p o = M := by
  funext b; unfold mup
  by_cases e : b = p
  · subst e; rw [if_pos rfl, h]
  · rw [if_neg e]
theorem mup_old {M : Mp} {a p : Addr} {o u : MO} (h : M a = some u) (hp : M p = none) : mup M p o a = some u := by rw [mup_ne (mne h hp)]; exact h
/-- a comprehension whose elements leave the store as it is, no test -/
theorem lc_pure {α : Type} {G : Mp → Prop} {g : RG} {te : RE} {δ0 : DSt} {p : Addr} {Q : Mp → Prop} (src f : α → D) {M : Mp} : ∀ (xs : List α) (acc : List D), (∀ acc, G (mup M p (.lst acc))) → acc.length + xs.length ≤ 1000000 →
    (∀ x ∈ xs, ∀ acc (R : D → Mp → Prop), R (f x) (mup M p (.lst acc)) → g (src x) δ0 (mup M p (.lst acc)) fun δ1 M1 => te δ1 M1 R) → Q (mup M p (.lst (acc ++ xs.map f))) → dLcLoop G g dYes te δ0 p Q (xs.map src) acc (mup M p (.lst acc))
  | [], acc, hG, hl, he, hQ => by
    refine ⟨hG _, ?_⟩
    simpa using hQ
  | d :: ds, acc, hG, hl, he, hQ => by
    refine ⟨hG _, ?_⟩
    have ih := lc_pure (G := G) (g := g) (te := te) (δ0 := δ0) (Q := Q) src f ds (acc ++ [f d]) hG (by simp at hl ⊢; omega) (fun d' m => he d' (List.mem_cons_of_mem _ m)) (by simpa using hQ)
    show g (src d) δ0 (mup M p (.lst acc)) fun δ1 M1 => dYes δ1 M1 fun b M2 => if b = true then _ else _
    simp only [dYes, if_true]
    refine he d (List.mem_cons_self ..) acc _ ⟨mup_same, by simp at hl; omega, ?_⟩
    rw [mup_mup]
    exact ih
/-- a comprehension by an invariant -/
theorem lc_inv {α : Type} {G : Mp → Prop} {g : RG} {te : RE} {δ0 : DSt} {p : Addr} {Q : Mp → Prop} (src : α → D) : ∀ (xs : List α) (Pv : Nat → List D → Mp → Prop) {acc : List D} {M : Mp} (hG : ∀ i acc M, i ≤ xs.length → Pv i acc M → G M)
    (hs : ∀ (i : Nat) (x : α) (acc : List D) (M : Mp) (R : D → Mp → Prop), xs[i]? = some x → Pv i acc M → (∀ e M', M' p = some (.lst acc) → acc.length < 1000000 → Pv (i + 1) (acc ++ [e]) (mup M' p (.lst (acc ++ [e]))) → R e M') → g (src x) δ0 M fun δ1 M1 => te δ1 M1 R)
    (hd : ∀ acc M, Pv xs.length acc M → Q M) (h0 : Pv 0 acc M), dLcLoop G g dYes te δ0 p Q (xs.map src) acc M
  | [], Pv, acc, M, hG, hs, hd, h0 => ⟨hG 0 _ _ (Nat.le_refl _) h0, hd _ _ h0⟩
  | x :: xs, Pv, acc, M, hG, hs, hd, h0 => by
    refine ⟨hG 0 _ _ (Nat.zero_le _) h0, ?_⟩
    show g (src x) δ0 M fun δ1 M1 => dYes δ1 M1 fun b M2 => if b = true then _ else _
    simp only [dYes, if_true]
    refine hs 0 x acc M _ rfl h0 fun e M' h1 h2 h3 => ⟨h1, h2, ?_⟩
    exact lc_inv src xs (fun i => Pv (i + 1)) (fun i acc M h p => hG (i + 1) acc M (by simp; omega) p) (fun i y acc M R h k p => hs (i + 1) y acc M R (by simpa using h) k p) (fun acc M p => hd acc M (by simpa using p)) h3
/-- .. with a test -/
theorem lc_test {α : Type} {G : Mp → Prop} {g : RG} {tt : RT} {te : RE} {δ0 : DSt} {p : Addr} {Q : Mp → Prop} (src f : α → D) (t : α → Bool) {M : Mp} : ∀ (xs : List α) (acc : List D), (∀ acc, G (mup M p (.lst acc))) → acc.length + xs.length ≤ 1000000 →
    (∀ x ∈ xs, ∀ acc (R : Bool → DSt → Mp → Prop), (∀ δ1, (∀ R', R' (f x) (mup M p (.lst acc)) → te δ1 (mup M p (.lst acc)) R') → R (t x) δ1 (mup M p (.lst acc))) → g (src x) δ0 (mup M p (.lst acc)) fun δ1 M1 => tt δ1 M1 fun b M2 => R b δ1 M2) →
    Q (mup M p (.lst (acc ++ (xs.filter t).map f))) → dLcLoop G g tt te δ0 p Q (xs.map src) acc (mup M p (.lst acc))
  | [], acc, hG, hl, he, hQ => by
    refine ⟨hG _, ?_⟩
    simpa using hQ
  | d :: ds, acc, hG, hl, he, hQ => by
    refine ⟨hG _, ?_⟩
    have hq := hQ
    rw [List.filter_cons] at hq
    refine he d (List.mem_cons_self ..) acc (fun b δ1 M2 => if b = true then te δ1 M2 fun e M3 => M3 p = some (.lst acc) ∧ acc.length < 1000000 ∧ dLcLoop G g tt te δ0 p Q (ds.map src) (acc ++ [e]) (mup M3 p (.lst (acc ++ [e]))) else dLcLoop G g tt te δ0 p Q (ds.map src) acc M2) fun δ1 h => ?_
    cases e : t d with
    | true =>
      rw [e, if_pos rfl] at hq
      rw [if_pos rfl]
      refine h _ ⟨mup_same, by simp at hl; omega, ?_⟩
      rw [mup_mup]
      exact lc_test (G := G) (g := g) (te := te) (δ0 := δ0) (Q := Q) src f t ds (acc ++ [f d]) hG (by simp at hl ⊢; omega) (fun d' m => he d' (List.mem_cons_of_mem _ m)) (by simpa using hq)
    | false =>
      rw [e, if_neg Bool.false_ne_true] at hq
      rw [if_neg Bool.false_ne_true]
      exact lc_test (G := G) (g := g) (te := te) (δ0 := δ0) (Q := Q) src f t ds acc hG (by simp at hl ⊢; omega) (fun d' m => he d' (List.mem_cons_of_mem _ m)) hq
/-- a loop by its invariant: what the body is to reach is any R that the invariant gives -/
theorem loop_inv {α : Type} {G : Mp → Prop} {g : RG} {tb : RS} {E : DEnds} (src : α → D) : ∀ (xs : List α) (Pv : Nat → DSt → Mp → Prop) {δ : DSt} {M : Mp} (hG : ∀ i δ M, i ≤ xs.length → Pv i δ M → G M)
    (hs : ∀ (i : Nat) (x : α) (δ : DSt) (M : Mp) (R : DSt → Mp → Prop), xs[i]? = some x → (∀ δ' M', Pv (i + 1) δ' M' → R δ' M') → Pv i δ M → g (src x) δ M fun δ1 M1 => tb { E with nx := R, ct := R, bk := E.nx } δ1 M1)
    (hd : ∀ δ M, Pv xs.length δ M → E.nx δ M) (h0 : Pv 0 δ M), dLoop G g tb E (xs.map src) δ M
  | [], Pv, δ, M, hG, hs, hd, h0 => ⟨hG 0 _ _ (Nat.le_refl _) h0, hd _ _ h0⟩
  | x :: xs, Pv, δ, M, hG, hs, hd, h0 => by
    refine ⟨hG 0 _ _ (Nat.zero_le _) h0, ?_⟩
    refine hs 0 x δ M _ rfl (fun δ' M' p => ?_) h0
    exact loop_inv src xs (fun i => Pv (i + 1)) (fun i δ M h p => hG (i + 1) δ M (by simp; omega) p) (fun i y δ M R h k p => hs (i + 1) y δ M R (by simpa using h) k p) (fun δ M p => hd δ M (by simpa using p)) p
/-- a block cut behind its first statements: what follows is any R that it gives -/
theorem seq_gen {t u : RS} {E : DEnds} {δ : DSt} {M : Mp} (h : ∀ R : DSt → Mp → Prop, (∀ δ' M', u E δ' M' → R δ' M') → t { E with nx := R } δ M) : dSeq t u E δ M := h _ fun _ _ h => h
theorem seq_gen2 {t u v : RS} {E : DEnds} {δ : DSt} {M : Mp} (h : ∀ R : DSt → Mp → Prop, (∀ δ' M', v E δ' M' → R δ' M') → dSeq t u { E with nx := R } δ M) : dSeq t (dSeq u v) E δ M := h _ fun _ _ h => h
theorem seq_gen3 {t u v w : RS} {E : DEnds} {δ : DSt} {M : Mp} (h : ∀ R : DSt → Mp → Prop, (∀ δ' M', w E δ' M' → R δ' M') → dSeq t (dSeq u v) { E with nx := R } δ M) : dSeq t (dSeq u (dSeq v w)) E δ M := h _ fun _ _ h => h
theorem seq_gen4 {t u v w x : RS} {E : DEnds} {δ : DSt} {M : Mp} (h : ∀ R : DSt → Mp → Prop, (∀ δ' M', x E δ' M' → R δ' M') → dSeq t (dSeq u (dSeq v w)) { E with nx := R } δ M) : dSeq t (dSeq u (dSeq v (dSeq w x))) E δ M := h _ fun _ _ h => h
theorem seq_cut {t u : RS} {E : DEnds} {δ : DSt} {M : Mp} (Pv : DSt → Mp → Prop) (h1 : ∀ R : DSt → Mp → Prop, (∀ δ' M', Pv δ' M' → R δ' M') → t { E with nx := R } δ M) (h2 : ∀ δ' M', Pv δ' M' → u E δ' M') : dSeq t u E δ M := h1 _ h2
theorem range_get {n i k : Nat} (h : (List.range n)[i]? = some k) : k = i ∧ i < n := by
  obtain ⟨h1, h2⟩ := List.getElem?_eq_some_iff.mp h
  rw [List.getElem_range] at h2
  rw [List.length_range] at h1
  exact ⟨h2.symm, h1⟩
theorem zip_maps {α β : Type} (f : α → D) (h : β → D) (xs : List α) (ys : List β) : zipD (xs.map f) (ys.map h) = (xs.zip ys).map fun p => D.tup [f p.1, h p.2] := by
  unfold zipD
  rw [List.zip_map, List.map_map]
  rfl
theorem allM {α : Type} (xs : List α) (f : α → Bool) : (xs.map f).all id = xs.all f := by
  induction xs with
  | nil => rfl
  | cons x r ih => simp [List.all_cons, ih]
theorem maps_bl {α : Type} (xs : List α) (f : α → Bool) : blsOf (xs.map fun x => D.bl (f x)) = some (xs.map f) := by
  have := blsOf_map (xs.map f)
  rwa [List.map_map] at this
theorem maps_int {α : Type} (xs : List α) (f : α → Int) : intsOf (xs.map fun x => D.int (f x)) = some (xs.map f) := by
  have := intsOf_map (xs.map f)
  rwa [List.map_map] at this
theorem bind_some {α β : Type} (a : α) (f : α → Option β) : (some a).bind f = f a := rfl
theorem eqv_ls {n : Nat} {ds : List D} (h : ∀ d ∈ ds, Pln n d) : (PyData.list (pys ds)).eqv (PyData.list (pys ds)) = true :=
  PySem.SeqAt.eqv_refl _ (by simp only [PyData.canLay0]; exact canAll_of fun d m => (h d m).ok.2.1)
end Dl
/-! The law's end over data. -/
namespace Dl
open PySem PySem.Spec PyProof.Rows L2
theorem fun_ofD {K : PySem.W.Frag} {x qual : Str} {st : Stmt} {f : Addr} {fd : FuncData} (F : FunD K x qual (defArgs st) (defBody st) (defScope st) [] [] f fd) : Fun K x qual st f fd := by
  obtain ⟨oc, od, dV, kV, doc, pm, an, cdv, ct, osl, e, l, c, hd, _⟩ := F.ex
  rcases hd with ⟨_, e2⟩ | ⟨e2, _⟩
  · subst e2
    exact ⟨⟨oc, od, kV, doc, pm, an, cdv, ct, osl, e, l, c⟩, F.kp⟩
  · exact absurd rfl e2
theorem reps_intsV {K : PySem.W.Frag} {H : Hp} : ∀ ns : List Int, Reps K H (ns.map D.int) (ns.map V.int)
  | [] => reps_nil
  | n :: r => reps_cons (by simp only [Rep]) (reps_intsV r)
theorem lsp_law {K : PySem.W.Frag} {p : DSp} (hp : ∀ (ns : List Int) (M : Mp) (Q : DK) (E : DX), ns.length ≤ 63 → (∀ M', Q (.bl true) M') → p [.fzl (ns.map .int)] M Q E) {H : Hp} {a : Addr} {ns : List Int} (hl : ns.length ≤ 63) (hO : Only H) (hS : SqL K H a (ns.map V.int)) :
    lSp K p [.ref a] H (fun v _ => v = .bl true) (fun _ _ _ => False) := by
  have h1 : Rep K H (.fzl (ns.map .int)) (.ref a) := by
    simp only [Rep]
    refine ⟨a, ns.map V.int, rfl, ?_, reps_intsV ns⟩
    rcases hS with h | h
    · rcases h with h | h
      · rcases hO a with e | ⟨o, xs, e⟩
        · rw [e] at h; cases h
        · rw [e] at h; cases h
      · exact .inl h
    · exact .inr (.inr h)
  have h2 : Sm K (fun _ => none) H := fun a o h => by cases h
  have h3 : Wk K H (fun d _ => d = .bl true) (fun v _ => v = .bl true) := fun d M' v H' h1 h2 _ _ => by
    subst h1
    simp only [Rep] at h2
    exact h2
  exact ⟨[.fzl (ns.map .int)], fun _ => none, fun d _ => d = .bl true, eX0, reps_cons h1 reps_nil, h2, hp ns _ _ _ hl (fun _ => rfl), h3, fun cls fs M' d H' h1 _ _ _ => h1⟩
theorem noCX {P : Program} {w : World} (H : Hp) (s : Shared) (e : Value) (s' : Shared) (h : L2.CX P w [] H s (fun _ _ _ => False) e s') : False := by
  obtain ⟨_, _, _, _, _, _, _, _, _, _, _, _, z⟩ := h
  exact z
theorem dfn_of {K : PySem.W.Frag} {mg : Str → Option Value} {h : Heap} {x qual : Str} {st : Stmt} {ps : List Str} {fd : FuncData} (X : K.In h) (G : h.Ns mainGlobals mg) (F : FunD K x qual (defArgs st) (defBody st) (defScope st) [] [] (He.fAd K (x, none)) fd) (g : (He.Fa.glo x).ok K = true)
    (b : ∀ (kV doc pm : Value) (an : Option Addr) (cdv ct : Value) (us : List Value), us.length = ps.length → bindArgs (PySem.W.fnOf x qual (defArgs st) (defBody st) (defScope st) .none kV doc pm an cdv ct) ⟨us, []⟩ = pure (ps.zip us)) : Dfn K mg x qual st ps (He.fAd K (x, none)) fd :=
  ⟨fun_ofD F, He.glo_ok X G g, F.bindsN b⟩
/-- the law's call over a head by facts; what is let out may hang on the world -/
theorem walk_w {l : PySem.W.OpenLaw} {n k : Nat} {q : Program} {loose : List Str} {XP : (Str → Option Value) → Heap → Prop} {YP : World → Heap → Prop} {d : DefRec} {x : Str} {p : DSp}
    (hn : l.most = some n) (hn2 : n ≤ 63) (hdf : d.params.defaults = []) (hr : Room k callerA)
    (hp : ∀ (ns : List Int) (M : Mp) (Q : DK) (E : DX), ns.length ≤ 63 → (∀ M', Q (.bl true) M') → p [.fzl (ns.map .int)] M Q E)
    (F : ∀ (w : World) (mg : Str → Option Value) (fa : Addr) (h : Heap), YP w h → h.Ns mainGlobals mg → mg d.name = some (.ref fa) →
      ∃ (K : PySem.W.Frag) (fd : FuncData), K.In h ∧ (∀ (s : Shared) (u : Value), BindsTo s fd ⟨[u], []⟩ [(x, u)]) ∧ ∀ base : Heap, K.In base → base.Ns mainGlobals mg → FnD l.prog w K mg base k fa fd [x] p) :
    PySem.W.WalkO q loose XP YP l.row.toRowW d [] (fun f vs => PySem.call f vs) := by
  refine Att.attach_call hn hdf fun w s₀ s₁ mg mb fa o pm cd doc a vs ns G Y ho hd hcd hmg hobj hints hlen hg => ?_
  obtain ⟨K, fd, KX, hb, hF⟩ := F w mg fa _ Y G.T.g hmg
  exact law_call KX G.T.g G.T.b G.T.builtins G.T.nolimit hg hobj hints (Nat.le_trans hlen (Nat.le_trans hn2 (by decide))) hr hF hb (fun H hO hS => lsp_law hp (Nat.le_trans hlen hn2) hO hS) fun H e s' h => noCX H s₁ e s' h
end Dl
namespace K05
open PySem PySem.Spec PyProof.Rows L2 Dl
def top (i : Nat) : Stmt := PySem.Challenge.pw_twigstore_k05_whole_boxes_less_boxes.main.body.getD i (.Pass ⟨0, 0, 0, 0⟩)
abbrev s_spans_meet : Stmt := top 1
abbrev s_span_shared : Stmt := top 2
abbrev s_span_less : Stmt := top 3
abbrev s_boxes_meet : Stmt := top 5
abbrev s_box_less : Stmt := top 6
abbrev s_Lcell : Stmt := top 8
abbrev s_Lnumbers : Stmt := top 9
abbrev s_Lone_span : Stmt := top 10
abbrev s_Ltwo_spans : Stmt := top 11
abbrev s_Ltwo_boxes : Stmt := top 12
abbrev s_Ldue : Stmt := top 13
abbrev s_Lspots : Stmt := top 14
abbrev s_Lby_spots : Stmt := top 15
abbrev s_Lright : Stmt := top 16
abbrev s_law : Stmt := top 17
theorem sc_spans_meet : FnScope ["one", "other"] ["one", "other"] (defScope s_spans_meet) := ⟨rfl, rfl, rfl, by decide +kernel, rfl, by decide +kernel, by decide +kernel⟩
theorem sc_span_shared : FnScope ["one", "other"] ["one", "other"] (defScope s_span_shared) := ⟨rfl, rfl, rfl, by decide +kernel, rfl, by decide +kernel, by decide +kernel⟩
theorem sc_span_less : FnScope ["one", "other", "found"] ["one", "other"] (defScope s_span_less) := ⟨rfl, rfl, rfl, by decide +kernel, rfl, by decide +kernel, by decide +kernel⟩
theorem sc_boxes_meet : FnScope ["one", "other", "here", "there"] ["one", "other"] (defScope s_boxes_meet) := ⟨rfl, rfl, rfl, by decide +kernel, rfl, by decide +kernel, by decide +kernel⟩
theorem sc_box_less : FnScope ["one", "other", "found", "ahead", "key", "span"] ["one", "other"] (defScope s_box_less) := ⟨rfl, rfl, rfl, by decide +kernel, rfl, by decide +kernel, by decide +kernel⟩
theorem sc_Lcell : FnScope ["_law_script", "_law_k", "_law_state", "_law_cell_here"] ["_law_script", "_law_k"] (defScope s_Lcell) := ⟨rfl, rfl, rfl, by decide +kernel, rfl, by decide +kernel, by decide +kernel⟩
theorem sc_Lnumbers : FnScope ["_law_cell_here", "_law_many", "_law_found", "_law_state", "_law_digits", "_law_k"] ["_law_cell_here", "_law_many"] (defScope s_Lnumbers) := ⟨rfl, rfl, rfl, by decide +kernel, rfl, by decide +kernel, by decide +kernel⟩
theorem sc_Lone_span : FnScope ["_law_x", "_law_y", "_law_way", "_law_low", "_law_wide"] ["_law_x", "_law_y", "_law_way"] (defScope s_Lone_span) := ⟨rfl, rfl, rfl, by decide +kernel, rfl, by decide +kernel, by decide +kernel⟩
theorem sc_Ltwo_spans : FnScope ["_law_xs", "_law_one", "_law_other", "_law_low", "_law_high", "_law_wide", "_law_some"] ["_law_xs"] (defScope s_Ltwo_spans) := ⟨rfl, rfl, rfl, by decide +kernel, rfl, by decide +kernel, by decide +kernel⟩
theorem sc_Ltwo_boxes : FnScope ["_law_xs", "_law_pairs", "_law_k", "_law_pair"] ["_law_xs"] (defScope s_Ltwo_boxes) := ⟨rfl, rfl, rfl, by decide +kernel, rfl, by decide +kernel, by decide +kernel⟩
theorem sc_Ldue : FnScope ["_law_one", "_law_other", "_law_low", "_law_high", "_law_begin", "_law_end", "_law_found", "_law_k", "_law_ahead", "_law_part", "_law_j"] ["_law_one", "_law_other"] (defScope s_Ldue) := ⟨rfl, rfl, rfl, by decide +kernel, rfl, by decide +kernel, by decide +kernel⟩
theorem sc_Lspots : FnScope ["_law_box", "_law_found", "_law_low", "_law_high", "_law_more", "_law_spot", "_law_number"] ["_law_box"] (defScope s_Lspots) := ⟨rfl, rfl, rfl, by decide +kernel, rfl, by decide +kernel, by decide +kernel⟩
theorem sc_Lby_spots : FnScope ["_law_one", "_law_other", "_law_left", "_law_box", "_law_there", "_law_spot"] ["_law_one", "_law_other"] (defScope s_Lby_spots) := ⟨rfl, rfl, rfl, by decide +kernel, rfl, by decide +kernel, by decide +kernel⟩
theorem sc_Lright : FnScope ["_law_one", "_law_other", "_law_found"] ["_law_one", "_law_other"] (defScope s_Lright) := ⟨rfl, rfl, rfl, by decide +kernel, rfl, by decide +kernel, by decide +kernel⟩
theorem sc_law : FnScope ["_law_script", "_law_cell_here", "_law_one", "_law_other", "_law_wide", "_law_low", "_law_high"] ["_law_script"] (defScope s_law) := ⟨rfl, rfl, rfl, by decide +kernel, rfl, by decide +kernel, by decide +kernel⟩
structure Ad where
  a_spans_meet : Addr
  d_spans_meet : FuncData
  a_span_shared : Addr
  d_span_shared : FuncData
  a_span_less : Addr
  d_span_less : FuncData
  a_boxes_meet : Addr
  d_boxes_meet : FuncData
  a_box_less : Addr
  d_box_less : FuncData
  a_Lcell : Addr
  d_Lcell : FuncData
  a_Lnumbers : Addr
  d_Lnumbers : FuncData
  a_Lone_span : Addr
  d_Lone_span : FuncData
  a_Ltwo_spans : Addr
  d_Ltwo_spans : FuncData
  a_Ltwo_boxes : Addr
  d_Ltwo_boxes : FuncData
  a_Ldue : Addr
  d_Ldue : FuncData
  a_Lspots : Addr
  d_Lspots : FuncData
  a_Lby_spots : Addr
  d_Lby_spots : FuncData
  a_Lright : Addr
  d_Lright : FuncData
  a_law : Addr
  d_law : FuncData
structure Tx (K : PySem.W.Frag) (mg : Str → Option Value) (A : Ad) : Prop where
  f_spans_meet : Dfn K mg "spans_meet" "spans_meet" s_spans_meet ["one", "other"] A.a_spans_meet A.d_spans_meet
  f_span_shared : Dfn K mg "span_shared" "span_shared" s_span_shared ["one", "other"] A.a_span_shared A.d_span_shared
  f_span_less : Dfn K mg "span_less" "span_less" s_span_less ["one", "other"] A.a_span_less A.d_span_less
  f_boxes_meet : Dfn K mg "boxes_meet" "boxes_meet" s_boxes_meet ["one", "other"] A.a_boxes_meet A.d_boxes_meet
  f_box_less : Dfn K mg "box_less" "box_less" s_box_less ["one", "other"] A.a_box_less A.d_box_less
  f_Lcell : Dfn K mg "_law_cell" "_law_cell" s_Lcell ["_law_script", "_law_k"] A.a_Lcell A.d_Lcell
  f_Lnumbers : Dfn K mg "_law_numbers" "_law_numbers" s_Lnumbers ["_law_cell_here", "_law_many"] A.a_Lnumbers A.d_Lnumbers
  f_Lone_span : Dfn K mg "_law_one_span" "_law_one_span" s_Lone_span ["_law_x", "_law_y", "_law_way"] A.a_Lone_span A.d_Lone_span
  f_Ltwo_spans : Dfn K mg "_law_two_spans" "_law_two_spans" s_Ltwo_spans ["_law_xs"] A.a_Ltwo_spans A.d_Ltwo_spans
  f_Ltwo_boxes : Dfn K mg "_law_two_boxes" "_law_two_boxes" s_Ltwo_boxes ["_law_xs"] A.a_Ltwo_boxes A.d_Ltwo_boxes
  f_Ldue : Dfn K mg "_law_due" "_law_due" s_Ldue ["_law_one", "_law_other"] A.a_Ldue A.d_Ldue
  f_Lspots : Dfn K mg "_law_spots" "_law_spots" s_Lspots ["_law_box"] A.a_Lspots A.d_Lspots
  f_Lby_spots : Dfn K mg "_law_by_spots" "_law_by_spots" s_Lby_spots ["_law_one", "_law_other"] A.a_Lby_spots A.d_Lby_spots
  f_Lright : Dfn K mg "_law_right" "_law_right" s_Lright ["_law_one", "_law_other"] A.a_Lright A.d_Lright
  f_law : Dfn K mg "law" "law" s_law ["_law_script"] A.a_law A.d_law
  b_abs : mg "abs" = none
  b_all : mg "all" = none
  b_int : mg "int" = none
  b_isinstance : mg "isinstance" = none
  b_len : mg "len" = none
  b_list : mg "list" = none
  b_max : mg "max" = none
  b_min : mg "min" = none
  b_range : mg "range" = none
  b_sorted : mg "sorted" = none
  b_tuple : mg "tuple" = none
  b_zip : mg "zip" = none
end K05
local macro_rules | `(tactic| walk_at "ds") => `(tactic| try simp only [Dl.startD, Dl.dVar, Dl.dC, Dl.dNil, Dl.dCons, Dl.dOp, Dl.dUn, Dl.dTup, Dl.dLst, Dl.dCB, Dl.dTest, Dl.dAnd, Dl.dOr, Dl.dNot, Dl.dAndV, Dl.dOrV, Dl.dNotV, Dl.dIfE, Dl.dChain, Dl.dNext, Dl.dSeq, Dl.dBreak, Dl.dCont, Dl.dDrop, Dl.dRet, Dl.dRetN, Dl.dIf, Dl.dAsg, Dl.dgName, Dl.dgNil, Dl.dgCons, Dl.dgTup, Dl.dPar, Dl.dPure, Dl.dPureL, Dl.dPureT, Dl.dCall, Dl.dCallX, Dl.dMt, Dl.dSl, Dl.dPart, Dl.dNoPart, Dl.dIsN, Dl.dNotN, Dl.isN, Dl.dIter, Dl.dRng1, Dl.dRng2, Dl.dZip, Dl.dFor, Dl.dLc, Dl.dYes, Dl.dDGet, Dl.dDIn, Dl.dDNotIn, Dl.dDNewK, Dl.dDNewT, Dl.dDPut, Dl.dDPop,
  Dl.rdII, Dl.rdI0, Dl.rdAdd, Dl.rdNeg, Dl.rdIx, Dl.rdSl, Dl.rdLen, Dl.rdTuple, Dl.rdListOf, Dl.rdAll, Dl.rdAny, Dl.rdSum, Dl.rdMaxL, Dl.rdMinL, Dl.rdMax2, Dl.rdMin2, Dl.rdAbs, Dl.rdInt, Dl.rdIsi, Dl.rdAppend, Dl.rdExtend, Dl.rdEq, Dl.rdNe, Dl.sceq, Dl.rdSorted, Dl.rdMulL, Dl.one, Dl.two, Dl.three, Dl.anInt, Dl.aList, Dl.isLst, Dl.lstD, Dl.seqOf, Dl.lstOf_mup, Dl.kindT, Dl.tyD, Dl.isB, Dl.keyD, Dl.keysD, Dl.tkeyD, Dl.dGetAt, Dl.dPutAt, Dl.dPopAt, Dl.isDk, Dl.wipeD,
  Dl.pow9, Dl.pow10, Dl.pow11, Dl.pow12, Dl.pow18, Dl.atI0, Dl.atI1, Dl.atI2, Dl.atI3, Dl.atI4, Dl.atI5, Dl.bind_some, Dl.mup_same, Dl.mup_none, Dl.mup_mup, List.getElem?_cons_zero, List.getElem?_cons_succ, List.set_cons_zero, List.set_cons_succ, List.length_cons, List.length_nil, List.append_nil, List.nil_append, List.cons_append, List.map_cons, List.map_nil, Bool.not_true, Bool.not_false, Bool.false_eq_true, if_true, if_false, reduceIte, and_true, true_and, or_true, true_or, and_self, ne_eq, not_false_eq_true, decide_eq_true_eq, Nat.reduceAdd, Nat.reduceLeDiff, Nat.reduceLT, Nat.reduceGT, Nat.zero_le, Nat.zero_lt_succ, Int.reduceLE, Int.reduceLT, Int.reduceNeg, String.reduceEq])

namespace K05
open PySem PySem.Spec PyProof.Rows L2 Dl
abbrev Sn := Int × Int
def dSpan (p : Sn) : D := .tup [.int p.1, .int p.2]
def dBox (b : List Sn) : D := .tup (b.map dSpan)
def meets (p q : Sn) : Bool := decide (p.1 < q.2) && decide (q.1 < p.2)
def shr (p q : Sn) : Sn := (max p.1 q.1, min p.2 q.2)
def sless (p q : Sn) : List Sn := if meets p q then (if p.1 < q.1 then [(p.1, q.1)] else []) ++ (if q.2 < p.2 then [(q.2, p.2)] else []) else [p]
section
variable {P : Program} {w : World} {K : PySem.W.Frag} {mg : Str → Option Value} {base : Heap} {A : Ad}
def sp_spans_meet : DSp := fun ds M Q _ => ∃ p q, ds = [dSpan p, dSpan q] ∧ Q (.bl (meets p q)) M
theorem ok_spans_meet (T : Tx K mg A) : FnD P w K mg base 1 A.a_spans_meet A.d_spans_meet ["one", "other"] sp_spans_meet := by
  refine okD T.f_spans_meet.F sc_spans_meet (fun ds M Q E h => ?_) fun cdv A outer s H E ds M Q ED hr h tk hp => ?_
  · obtain ⟨p, q, rfl, _⟩ := h; rfl
  · obtain ⟨p, q, rfl, k⟩ := h
    refine ⟨_, (qss_one (qs_ret (qe_and (qe_cmp o_lt (qe_ix (qe_var 0) qe_int) (qe_ix (qe_var 1) qe_int) (nomark _)) (qe_one (qe_cmp o_lt (qe_ix (qe_var 1) qe_int) (qe_ix (qe_var 0) qe_int) (nomark _)))))), ?_⟩
    simp only [dSpan]
    walk_at "ds"
    unfold meets at k
    by_cases h1 : p.1 < q.2
    · simp only [h1, if_true, decide_true, Bool.true_and] at k ⊢; exact up.of k
    · simp only [h1, if_false, decide_false, Bool.false_and] at k ⊢; exact up.of k
def sp_span_shared : DSp := fun ds M Q _ => ∃ p q, ds = [dSpan p, dSpan q] ∧ Q (if meets p q then dSpan (shr p q) else .non) M
theorem ok_span_shared (T : Tx K mg A) : FnD P w K mg base 2 A.a_span_shared A.d_span_shared ["one", "other"] sp_span_shared := by
  refine okD T.f_span_shared.F sc_span_shared (fun ds M Q E h => ?_) fun cdv A outer s H E ds M Q ED hr h tk hp => ?_
  · obtain ⟨p, q, rfl, _⟩ := h; rfl
  · obtain ⟨p, q, rfl, k⟩ := h
    refine ⟨_, (qss_cons (qs_if (qt_not (qt_val (qe_call (ok_spans_meet T) (hr.mono (by decide)) (by rfl) T.f_spans_meet.g T.f_spans_meet.F.kp T.f_spans_meet.b .nil dd0 (qa_cons (qe_var 0) (qa_cons (qe_var 1) qa_nil))))) (qss_one (qs_ret qe_non)) qss_nil)
  (qss_one (qs_ret (qe_tup (qa_cons (qe_callB (c_max2 rfl) (by rfl) T.b_max PyProof.Rows.boot_max (qa_cons (qe_ix (qe_var 0) qe_int) (qa_cons (qe_ix (qe_var 1) qe_int) qa_nil))) (qa_cons (qe_callB (c_min2 rfl) (by rfl) T.b_min PyProof.Rows.boot_min (qa_cons (qe_ix (qe_var 0) qe_int) (qa_cons (qe_ix (qe_var 1) qe_int) qa_nil))) qa_nil)))))), ?_⟩
    walk_at "ds"
    refine ⟨p, q, rfl, ?_⟩
    by_cases h1 : meets p q = true
    · simp only [h1, if_true] at k
      simp only [h1]
      simp only [dSpan]
      walk_at "ds"
      exact up.of k
    · simp only [h1, if_false] at k
      simp only [h1]
      exact up.of k
def sp_span_less : DSp := fun ds M Q _ => ∃ p q, ds = [dSpan p, dSpan q] ∧ ∀ a, M a = none → Q (.ref a) (mup M a (.lst ((sless p q).map dSpan)))
theorem ok_span_less (T : Tx K mg A) : FnD P w K mg base 2 A.a_span_less A.d_span_less ["one", "other"] sp_span_less := by
  refine okD T.f_span_less.F sc_span_less (fun ds M Q E h => ?_) fun cdv A outer s H E ds M Q ED hr h tk hp => ?_
  · obtain ⟨p, q, rfl, _⟩ := h; rfl
  · obtain ⟨p, q, rfl, k⟩ := h
    refine ⟨_, (qss_cons (qs_if (qt_not (qt_val (qe_call (ok_spans_meet T) (hr.mono (by decide)) (by rfl) T.f_spans_meet.g T.f_spans_meet.F.kp T.f_spans_meet.b .nil dd0 (qa_cons (qe_var 0) (qa_cons (qe_var 1) qa_nil))))) (qss_one (qs_ret (qe_lst (qa_cons (qe_var 0) qa_nil)))) qss_nil)
  (qss_cons (qs_set 2 sc_span_less.nd (qe_lst qa_nil))
  (qss_cons (qs_if (qt_cmp o_lt (qe_ix (qe_var 0) qe_int) (qe_ix (qe_var 1) qe_int) (nomark _)) (qss_one (qs_expr (qe_lm PySem.F.plainAttrs_list PySem.F.slot_list_append PySem.F.type_list_append m_append (qe_var 2) (qa_cons (qe_tup (qa_cons (qe_ix (qe_var 0) qe_int) (qa_cons (qe_ix (qe_var 1) qe_int) qa_nil))) qa_nil)))) qss_nil)
  (qss_cons (qs_if (qt_cmp o_lt (qe_ix (qe_var 1) qe_int) (qe_ix (qe_var 0) qe_int) (nomark _)) (qss_one (qs_expr (qe_lm PySem.F.plainAttrs_list PySem.F.slot_list_append PySem.F.type_list_append m_append (qe_var 2) (qa_cons (qe_tup (qa_cons (qe_ix (qe_var 1) qe_int) (qa_cons (qe_ix (qe_var 0) qe_int) qa_nil))) qa_nil)))) qss_nil)
  (qss_one (qs_ret (qe_var 2))))))), ?_⟩
    walk_at "ds"
    refine ⟨p, q, rfl, ?_⟩
    unfold sless at k
    by_cases h1 : meets p q = true
    · simp only [h1, if_true] at k ⊢
      simp only [Bool.not_true, Bool.false_eq_true, if_false]
      intro a ha
      have k := k a ha
      simp only [dSpan]
      walk_at "ds"
      by_cases h2 : p.1 < q.1 <;> by_cases h3 : q.2 < p.2 <;> simp only [h2, h3, if_true, if_false] at k ⊢ <;> (try walk_at "ds") <;> exact up.of k
    · simp only [h1, if_false] at k ⊢
      simp only [Bool.not_false, if_true]
      intro a ha
      exact up.of (k a ha)
end
end K05
namespace K05
open PySem PySem.Spec PyProof.Rows L2 Dl
def bmeets (b c : List Sn) : Bool := (b.zip c).all fun p => meets p.1 p.2
section
variable {P : Program} {w : World} {K : PySem.W.Frag} {mg : Str → Option Value} {base : Heap} {A : Ad}
def sp_boxes_meet : DSp := fun ds M Q _ => ∃ b c, ds = [dBox b, dBox c] ∧ b.length ≤ 1000 ∧ Q (.bl (bmeets b c)) M
theorem ok_boxes_meet (T : Tx K mg A) : FnD P w K mg base 2 A.a_boxes_meet A.d_boxes_meet ["one", "other"] sp_boxes_meet := by
  refine okD T.f_boxes_meet.F sc_boxes_meet (fun ds M Q E h => ?_) fun cdv A outer s H E ds M Q ED hr h tk hp => ?_
  · obtain ⟨p, q, rfl, _⟩ := h; rfl
  · obtain ⟨b, c, rfl, hl, k⟩ := h
    refine ⟨_, (qss_one (qs_ret (qe_pure (qe_callB (c_all rfl) (by rfl) T.b_all PyProof.Rows.boot_all (qa_cons (qe_lc (own := [("here", 2), ("there", 3)]) (g := (dgTup 2 (dgCons (dgName 2) (dgCons (dgName 3) dgNil)))) (tt := dYes) rfl sc_boxes_meet.nd (qi_zip (by rfl) T.b_zip (qa_cons (qe_var 0) (qa_cons (qe_var 1) qa_nil))) (blkOk_by (own := [("here", 2), ("there", 3)]) (N := ["one", "other", "here", "there"]) (sc := defScope s_boxes_meet) (by decide +kernel)) (fun _ _ _ _ _ => (qv_tup (n := 2) rfl (qvs_cons (qv_name 2 sc_boxes_meet.nd) (qvs_cons (qv_name 3 sc_boxes_meet.nd) qvs_nil)))) (fun _ _ _ _ _ => qts_nil) (fun _ _ _ _ _ => (qe_call (ok_spans_meet T) (hr.mono (by decide)) (by rfl) T.f_spans_meet.g T.f_spans_meet.F.kp T.f_spans_meet.b .nil dd0 (qa_cons (qe_var 2) (qa_cons (qe_var 3) qa_nil))))) qa_nil))))), ?_⟩
    simp only [dBox]
    walk_at "ds"
    intro a ha
    rw [zip_maps]
    refine lc_pure _ (fun p => .bl (meets p.1 p.2)) _ _ (fun _ => by simp only [isL2, seqOf]; trivial) (by simp; omega) (fun x m acc R hR => ?_) ?_
    · walk_at "ds"
      exact ⟨_, _, rfl, hR⟩
    · walk_at "ds"
      rw [maps_bl]
      exact ⟨Sub.new ha, up.of (by rw [allM]; exact k)⟩
def cutK (b c : List Sn) (k : Nat) : List (List Sn) := match b[k]?, c[k]? with
  | some p, some q => (sless p q).map fun s => (List.zipWith shr b c).take k ++ [s] ++ b.drop (k + 1)
  | _, _ => []
def lessTo (b c : List Sn) (i : Nat) : List (List Sn) := (List.range i).flatMap (cutK b c)
def bless (b c : List Sn) : List (List Sn) := if bmeets b c then lessTo b c b.length else [b]
theorem lessTo_succ (b c : List Sn) (i : Nat) : lessTo b c (i + 1) = lessTo b c i ++ cutK b c i := by
  unfold lessTo
  rw [List.range_succ, List.flatMap_append]
  simp
theorem sless_len (p q : Sn) : (sless p q).length ≤ 2 := by
  unfold sless
  split
  · split <;> split <;> simp
  · simp
theorem cutK_len (b c : List Sn) (k : Nat) : (cutK b c k).length ≤ 2 := by
  unfold cutK
  split
  · rw [List.length_map]; exact sless_len _ _
  · simp
theorem lessTo_len (b c : List Sn) : ∀ i, (lessTo b c i).length ≤ 2 * i
  | 0 => by simp [lessTo]
  | i + 1 => by
    rw [lessTo_succ, List.length_append]
    have := lessTo_len b c i
    have := cutK_len b c i
    omega
theorem dBox_app (a : List Sn) (s : Sn) (r : List Sn) : a.map dSpan ++ [dSpan s] ++ r.map dSpan = (a ++ [s] ++ r).map dSpan := by simp
def sp_box_less : DSp := fun ds M Q _ => ∃ b c, ds = [dBox b, dBox c] ∧ b.length = c.length ∧ b.length ≤ 1000 ∧ ∀ a, M a = none → Q (.ref a) (mup M a (.lst ((bless b c).map dBox)))
theorem ok_box_less (T : Tx K mg A) : FnD P w K mg base 3 A.a_box_less A.d_box_less ["one", "other"] sp_box_less := by
  refine okD T.f_box_less.F sc_box_less (fun ds M Q E h => ?_) fun cdv A outer s H E ds M Q ED hr h tk hp => ?_
  · obtain ⟨p, q, rfl, _⟩ := h; rfl
  · obtain ⟨b, c, rfl, he, hl, k⟩ := h
    refine ⟨_, (qss_cons (qs_if (qt_not (qt_val (qe_call (ok_boxes_meet T) (hr.mono (by decide)) (by rfl) T.f_boxes_meet.g T.f_boxes_meet.F.kp T.f_boxes_meet.b .nil dd0 (qa_cons (qe_var 0) (qa_cons (qe_var 1) qa_nil))))) (qss_one (qs_ret (qe_lst (qa_cons (qe_var 0) qa_nil)))) qss_nil)
  (qss_cons (qs_set 2 sc_box_less.nd (qe_lst qa_nil))
  (qss_cons (qs_set 3 sc_box_less.nd (qe_tup qa_nil))
  (qss_cons (qs_for hp rfl (qi_range1 (by rfl) T.b_range (qa_cons (qe_callB c_len (by rfl) T.b_len PySem.boot_len (qa_cons (qe_var 0) qa_nil)) qa_nil)) (qg_name 4 sc_box_less.nd) (qss_cons (qs_for hp rfl (qi_any (qe_call (ok_span_less T) (hr.mono (by decide)) (by rfl) T.f_span_less.g T.f_span_less.F.kp T.f_span_less.b .nil dd0 (qa_cons (qe_ix (qe_var 0) (qe_var 4)) (qa_cons (qe_ix (qe_var 1) (qe_var 4)) qa_nil)))) (qg_name 5 sc_box_less.nd) (qss_one (qs_expr (qe_lm PySem.F.plainAttrs_list PySem.F.slot_list_append PySem.F.type_list_append m_append (qe_var 2) (qa_cons (qe_op o_add (qe_op o_add (qe_var 3) (qe_tup (qa_cons (qe_var 5) qa_nil))) (qe_slice (qe_var 0) (qo_some (qe_op o_add (qe_var 4) qe_int)) qo_none)) qa_nil)))))
  (qss_one (qs_set 3 sc_box_less.nd (qe_op o_add (qe_var 3) (qe_tup (qa_cons (qe_call (ok_span_shared T) (hr.mono (by decide)) (by rfl) T.f_span_shared.g T.f_span_shared.F.kp T.f_span_shared.b .nil dd0 (qa_cons (qe_ix (qe_var 0) (qe_var 4)) (qa_cons (qe_ix (qe_var 1) (qe_var 4)) qa_nil))) qa_nil)))))))
  (qss_one (qs_ret (qe_var 2))))))), ?_⟩
    clear tk hp hr
    walk_at "ds"
    refine ⟨b, c, rfl, hl, ?_⟩
    unfold bless at k
    by_cases hm : bmeets b c = true
    · simp only [hm, if_true, Bool.not_true, Bool.false_eq_true, if_false] at k ⊢
      intro f hf
      have k := k f hf
      simp only [dBox]
      walk_at "ds"
      refine ⟨by simp; omega, ?_⟩
      have e : intsD 0 (((b.map dSpan).length : Nat) : Int).toNat = (List.range b.length).map fun (i : Nat) => D.int (0 + (i : Int)) := by simp [intsD]
      rw [e]
      refine loop_inv _ _ (fun i δ M' => ∃ x y, δ = [some (.tup (b.map dSpan)), some (.tup (c.map dSpan)), some (.ref f), some (.tup (((List.zipWith shr b c).take i).map dSpan)), x, y] ∧ M' f = some (.lst ((lessTo b c i).map dBox)) ∧ Sub M M') (fun _ _ _ _ _ => trivial) ?_ ?_ ⟨none, none, rfl, by simp [lessTo, mup_same], Sub.new hf⟩
      · intro i j δ M' R hi hR ⟨x, y, hδ, hM, hS⟩
        subst hδ
        obtain ⟨rfl, hlt⟩ := range_get hi
        obtain ⟨p, hp⟩ : ∃ p, b[j]? = some p := ⟨b[j], List.getElem?_eq_getElem hlt⟩
        obtain ⟨q, hq⟩ : ∃ q, c[j]? = some q := ⟨c[j], List.getElem?_eq_getElem (by omega)⟩
        walk_at "ds"
        simp only [Int.zero_add, atI_nat', List.getElem?_map, hp, hq, Option.map_some]
        refine ⟨p, q, rfl, fun a ha => ?_⟩
        walk_at "ds"
        have naf : f ≠ a := mne hM ha
        have hcut : cutK b c j = (sless p q).map fun s => (List.zipWith shr b c).take j ++ [s] ++ b.drop (j + 1) := by unfold cutK; rw [hp, hq]
        have hz : (List.zipWith shr b c)[j]? = some (shr p q) := by rw [List.getElem?_zipWith, hp, hq]
        have hmeet : meets p q = true := by
          unfold bmeets at hm
          rw [List.all_eq_true] at hm
          have hzip : (b.zip c)[j]? = some (p, q) := by rw [List.getElem?_zip_eq_some]; exact ⟨hp, hq⟩
          exact hm (p, q) (List.mem_of_getElem? hzip)
        refine loop_inv _ _ (fun n δ M2 => ∃ y, δ = [some (.tup (b.map dSpan)), some (.tup (c.map dSpan)), some (.ref f), some (.tup (((List.zipWith shr b c).take j).map dSpan)), some (.int (0 + (j : Int))), y] ∧
            M2 f = some (.lst ((lessTo b c j ++ ((sless p q).take n).map fun s => (List.zipWith shr b c).take j ++ [s] ++ b.drop (j + 1)).map dBox)) ∧ Sub M M2 ∧ M2 a = some (.lst ((sless p q).map dSpan))) (fun _ _ _ _ ⟨_, _, _, _, h⟩ => h) ?_ ?_ ⟨y, by simp, by rw [mup_ne naf]; simpa using hM, hS.trans (Sub.new ha), mup_same⟩
        · intro n s δ M2 R2 hn hR2 ⟨y, hδ, h1, h2, h3⟩
          subst hδ
          walk_at "ds"
          simp only [lstOf_of h1]
          walk_at "ds"
          have hcd : Dl.cutD (b.map dSpan) (some (0 + (j : Int) + 1)) none = (b.drop (j + 1)).map dSpan := by
            rw [show (0 : Int) + (j : Int) + 1 = ((j + 1 : Nat) : Int) by omega, cut_map, cut_from]
          have l1 := lessTo_len b c j
          have l2 := sless_len p q
          have hns : n < (sless p q).length := (List.getElem?_eq_some_iff.mp hn).1
          rw [hcd]
          refine ⟨by simp; omega, by simp; omega, by simp; omega, hR2 _ _ ⟨_, rfl, ?_, fun u o g => ?_, ?_⟩⟩
          · rw [mup_same, List.take_add_one, hn]
            simp [dBox]
          · have nf : u ≠ f := by rintro rfl; rw [hf] at g; cases g
            rw [mup_ne nf]; exact h2 _ _ g
          · rw [mup_ne naf.symm]; exact h3
        · intro δ M2 ⟨y, hδ, h1, h2, h3⟩
          subst hδ
          walk_at "ds"
          simp only [Int.zero_add, atI_nat', List.getElem?_map, hp, hq, Option.map_some]
          refine ⟨p, q, rfl, ?_⟩
          simp only [hmeet, if_true]
          refine ⟨by simp; omega, hR _ _ ⟨some (.int (j : Int)), y, ?_, ?_, h2⟩⟩
          · rw [List.take_add_one, hz]; simp
          · rw [h1, lessTo_succ, hcut, List.take_of_length_le (Nat.le_refl _)]
      · intro δ M' ⟨x, y, hδ, h1, h2⟩
        subst hδ
        walk_at "ds"
        rw [List.length_range] at h1
        refine up.by (fun u o g => ?_) k
        by_cases e : u = f
        · subst e; rw [mup_same] at g; rw [← g]; exact h1
        · rw [mup_ne e] at g; exact h2 _ _ g
    · simp only [hm, if_false, Bool.not_false, if_true] at k ⊢
      intro f hf
      exact up.of (k f hf)
end
end K05
namespace K05
open PySem PySem.Spec PyProof.Rows L2 Dl
def cellF (ns : List Int) (k : Int) : Int := if k < ns.length then ns.getD k.toNat 0 else (ns.take 3).foldl (fun s c => (s * 69621 + c) % 2147483647) (48271 * (k * k + 7 * k + 11) % 2147483647)
def numGo : Nat → Nat → Int → Int → List Int
  | 0, _, _, _ => []
  | n + 1, k, st, dg => (if dg > 0 then dg % 1000000 else (st * (st % 65521 + 40487) + 7 * k + 5) % 1999999973) :: numGo n (k + 1) ((st * (st % 65521 + 40487) + 7 * k + 5) % 1999999973) (dg / 1000000)
def numsF (c : Int) (n : Nat) : List Int := numGo n 0 ((c % 1999999973 + 31) * 765432101 % 1999999973) (if c < 0 ∨ c ≥ 1000000000000000000 then (if c < 0 then -c else c) else 0)
theorem numGo_len : ∀ n k st dg, (numGo n k st dg).length = n
  | 0, _, _, _ => rfl
  | n + 1, k, st, dg => by simp only [numGo, List.length_cons, numGo_len n]
theorem numsF_len (c : Int) (n : Nat) : (numsF c n).length = n := numGo_len _ _ _ _
theorem numGo_nn : ∀ n k st dg, ∀ x ∈ numGo n k st dg, 0 ≤ x ∧ x < 1999999973
  | 0, _, _, _ => by simp [numGo]
  | n + 1, k, st, dg => by
    intro x hx
    simp only [numGo, List.mem_cons] at hx
    rcases hx with rfl | hx
    · split <;> omega
    · exact numGo_nn n _ _ _ x hx
theorem numsF_nn (c : Int) (n : Nat) : ∀ x ∈ numsF c n, 0 ≤ x ∧ x < 1999999973 := numGo_nn _ _ _ _
section
variable {P : Program} {w : World} {K : PySem.W.Frag} {mg : Str → Option Value} {base : Heap} {A : Ad}
def sp_Lcell : DSp := fun ds M Q _ => ∃ ns k, ds = [.fzl (ns.map D.int), .int k] ∧ 0 ≤ k ∧ k ≤ 1000 ∧ Q (.int (cellF ns k)) M
theorem ok_Lcell (T : Tx K mg A) : FnD P w K mg base 1 A.a_Lcell A.d_Lcell ["_law_script", "_law_k"] sp_Lcell := by
  refine okD T.f_Lcell.F sc_Lcell (fun ds M Q E h => ?_) fun cdv A outer s H E ds M Q ED hr h tk hp => ?_
  · obtain ⟨p, q, rfl, _⟩ := h; rfl
  · obtain ⟨ns, k, rfl, h0, h1, hQ⟩ := h
    refine ⟨_, (qss_cons (qs_if (qt_cmp o_lt (qe_var 1) (qe_callB c_len (by rfl) T.b_len PySem.boot_len (qa_cons (qe_var 0) qa_nil)) (nomark _)) (qss_one (qs_ret (qe_ix (qe_var 0) (qe_var 1)))) qss_nil)
  (qss_cons (qs_set 2 sc_Lcell.nd (qe_op o_mod (qe_op o_mulI qe_int (qe_op o_add (qe_op o_add (qe_op o_mulI (qe_var 1) (qe_var 1)) (qe_op o_mulI qe_int (qe_var 1))) qe_int)) qe_int))
  (qss_cons (qs_for hp rfl (qi_any (qe_slice (qe_var 0) qo_none (qo_some qe_int))) (qg_name 3 sc_Lcell.nd) (qss_one (qs_set 2 sc_Lcell.nd (qe_op o_mod (qe_op o_add (qe_op o_mulI (qe_var 2) qe_int) (qe_var 3)) qe_int))))
  (qss_one (qs_ret (qe_var 2)))))), ?_⟩
    clear tk hp hr
    walk_at "ds"
    unfold cellF at hQ
    by_cases hk : k < ns.length
    · simp only [List.length_map, hk, if_true] at hQ ⊢
      rw [atI_int _ _ h0, List.getElem?_map, List.getElem?_eq_getElem (by omega)]
      rw [List.getD_eq_getElem?_getD, List.getElem?_eq_getElem (by omega)] at hQ
      exact up.of hQ
    · simp only [List.length_map, hk, if_false] at hQ ⊢
      refine ⟨by omega, fun p hp => ?_⟩
      have hc : Dl.cutD (ns.map D.int) none (some 3) = (ns.take 3).map D.int := by rw [show (3 : Int) = ((3 : Nat) : Int) by rfl, cut_to, List.map_take]
      rw [hc]
      refine loop_inv D.int _ (fun i δ M' => ∃ x, δ = [some (.fzl (ns.map D.int)), some (.int k), some (.int (((ns.take 3).take i).foldl (fun s c => (s * 69621 + c) % 2147483647) (48271 * (k * k + 7 * k + 11) % 2147483647))), x] ∧ M' = mup M p (.lst ((ns.take 3).map D.int))) (fun i δ M' _ ⟨_, _, e⟩ => by rw [e]; exact mup_same) ?_ ?_ ⟨none, by simp, rfl⟩
      · intro i x δ M' R hi hR ⟨z, hδ, hM⟩
        subst hδ hM
        walk_at "ds"
        refine hR _ _ ⟨some (.int x), ?_, rfl⟩
        rw [List.take_add_one (l := ns.take 3), hi]
        simp
      · intro δ M' ⟨z, hδ, hM⟩
        subst hδ hM
        walk_at "ds"
        rw [List.take_of_length_le (Nat.le_refl _)]
        exact up.by (Sub.new hp) hQ
def sp_Lnumbers : DSp := fun ds M Q _ => ∃ c n, ds = [.int c, .int ((n : Nat) : Int)] ∧ n ≤ 1000 ∧ ∀ p, M p = none → Q (.ref p) (mup M p (.lst ((numsF c n).map D.int)))
theorem ok_Lnumbers (T : Tx K mg A) : FnD P w K mg base 1 A.a_Lnumbers A.d_Lnumbers ["_law_cell_here", "_law_many"] sp_Lnumbers := by
  refine okD T.f_Lnumbers.F sc_Lnumbers (fun ds M Q E h => ?_) fun cdv A outer s H E ds M Q ED hr h tk hp => ?_
  · obtain ⟨p, q, rfl, _⟩ := h; rfl
  · obtain ⟨c, n, rfl, hn, hQ⟩ := h
    refine ⟨_, (qss_cons (qs_set 2 sc_Lnumbers.nd (qe_lst qa_nil))
  (qss_cons (qs_set 3 sc_Lnumbers.nd (qe_op o_mod (qe_op o_mulI (qe_op o_add (qe_op o_mod (qe_var 0) qe_int) qe_int) qe_int) qe_int))
  (qss_cons (qs_set 4 sc_Lnumbers.nd qe_int)
  (qss_cons (qs_if (PW.pt (qw_or (qt_cmp o_lt (qe_var 0) qe_int (nomark _)) (qw_or1 (qt_cmp o_ge (qe_var 0) (qe_op o_pow qe_int qe_int) (nomark _))))) (qss_one (qs_set 4 sc_Lnumbers.nd (qe_callB c_abs (by rfl) T.b_abs PyProof.Rows.boot_abs (qa_cons (qe_var 0) qa_nil)))) qss_nil)
  (qss_cons (qs_for hp rfl (qi_range1 (by rfl) T.b_range (qa_cons (qe_var 1) qa_nil)) (qg_name 5 sc_Lnumbers.nd) (qss_cons (qs_set 3 sc_Lnumbers.nd (qe_op o_mod (qe_op o_add (qe_op o_add (qe_op o_mulI (qe_var 3) (qe_op o_add (qe_op o_mod (qe_var 3) qe_int) qe_int)) (qe_op o_mulI qe_int (qe_var 5))) qe_int) qe_int))
  (qss_cons (qs_expr (qe_lm PySem.F.plainAttrs_list PySem.F.slot_list_append PySem.F.type_list_append m_append (qe_var 2) (qa_cons (qe_pure (qe_ix (qe_lst (qa_cons (qe_var 3) (qa_cons (qe_op o_mod (qe_var 4) qe_int) qa_nil))) (qe_callTy c_int (by rfl) T.b_int PyProof.Rows.boot_int (qa_cons (qe_cmp o_gt (qe_var 4) qe_int (nomark _)) qa_nil)))) qa_nil)))
  (qss_one (qs_set 4 sc_Lnumbers.nd (qe_op o_fdiv (qe_var 4) qe_int))))))
  (qss_one (qs_ret (qe_var 2)))))))), ?_⟩
    clear tk hp hr
    refine seq_gen3 fun R hR => ?_
    walk_at "ds"
    intro f hf
    have hQ := hQ f hf
    refine hR _ _ ?_
    clear hR R
    refine seq_cut (fun δ' M' => δ' = [some (.int c), some (.int ((n : Nat) : Int)), some (.ref f), some (.int ((c % 1999999973 + 31) * 765432101 % 1999999973)), some (.int (if c < 0 ∨ c ≥ 1000000000000000000 then (if c < 0 then -c else c) else 0)), none] ∧ M' = mup M f (.lst [])) (fun R hR => ?_) ?_
    · walk_at "ds"
      by_cases h1 : c < 0
      · simp only [h1, if_true, true_or]
        exact hR _ _ ⟨by simp [h1], rfl⟩
      · simp only [h1, if_false, false_or]
        by_cases h2 : 1000000000000000000 ≤ c
        · simp only [h2, if_true]
          exact hR _ _ ⟨by simp [h1, h2], rfl⟩
        · simp only [h2, if_false]
          exact hR _ _ ⟨by simp [h1, h2], rfl⟩
    · rintro δ' M' ⟨rfl, rfl⟩
      unfold numsF at hQ
      generalize (c % 1999999973 + 31) * 765432101 % 1999999973 = st at hQ ⊢
      generalize (if c < 0 ∨ c ≥ 1000000000000000000 then (if c < 0 then -c else c) else 0) = dg at hQ ⊢
      walk_at "ds"
      have e : intsD 0 ((n : Nat) : Int).toNat = (List.range n).map fun (i : Nat) => D.int (0 + (i : Int)) := by simp [intsD]
      rw [e]
      refine ⟨by omega, loop_inv _ _ (fun i δ M' => ∃ st' dg' x acc, δ = [some (.int c), some (.int ((n : Nat) : Int)), some (.ref f), some (.int st'), some (.int dg'), x] ∧ numGo n 0 st dg = acc ++ numGo (n - i) i st' dg' ∧ acc.length = i ∧ M' = mup M f (.lst (acc.map D.int))) (fun _ _ _ _ _ => trivial) ?_ ?_ ⟨st, dg, none, [], rfl, rfl, rfl, rfl⟩⟩
      · intro i j δ M' R hi hR ⟨st', dg', x, acc, hδ, hg, hl, hM⟩
        obtain ⟨rfl, hlt⟩ := range_get hi
        subst hδ hM
        rw [show n - j = (n - (j + 1)) + 1 by omega, numGo] at hg
        walk_at "ds"
        refine ⟨.inr ⟨by omega, by omega⟩, fun p hp => ?_⟩
        have sb : Dl.Sub (mup M f (.lst (acc.map D.int))) (mup (mup M f (.lst (acc.map D.int))) p (.lst [D.int ((st' * (st' % 65521 + 40487) + 7 * (0 + (j : Int)) + 5) % 1999999973), D.int (dg' % 1000000)])) := Sub.new (by rw [mup_none]; exact hp)
        simp only [Int.zero_add] at sb ⊢
        by_cases h : dg' > 0
        · simp only [show (0 : Int) < dg' from h, if_true, atI1] at hg ⊢
          exact ⟨sb, by rw [List.length_map]; omega, hR _ _ ⟨_, _, _, acc ++ [dg' % 1000000], rfl, by rw [hg]; simp, by simp [hl], by simp⟩⟩
        · simp only [show ¬ (0 : Int) < dg' from h, if_false, atI0] at hg ⊢
          exact ⟨sb, by rw [List.length_map]; omega, hR _ _ ⟨_, _, _, acc ++ [(st' * (st' % 65521 + 40487) + 7 * (j : Int) + 5) % 1999999973], rfl, by rw [hg]; simp, by simp [hl], by simp⟩⟩
      · intro δ M' ⟨st', dg', x, acc, hδ, hg, hl, hM⟩
        subst hδ hM
        walk_at "ds"
        rw [List.length_range, Nat.sub_self, numGo, List.append_nil] at hg
        rw [← hg]
        exact up.of hQ
end
end K05
namespace K05
open PySem PySem.Spec PyProof.Rows L2 Dl
section
variable {P : Program} {w : World} {K : PySem.W.Frag} {mg : Str → Option Value} {base : Heap} {A : Ad}
def V0 (s : Sn) : Prop := s.1 < s.2 ∧ -100000000000 ≤ s.1 ∧ s.1 ≤ 100000000000 ∧ s.2 - s.1 ≤ 100000000000
def V (s : Sn) : Prop := s.1 < s.2 ∧ -1000000000000 ≤ s.1 ∧ s.2 ≤ 1000000000000
def sp_Lone_span : DSp := fun ds M Q _ => ∃ x y z, ds = [.int x, .int y, .int z] ∧ ∀ s : Sn, V0 s → Q (dSpan s) M
theorem ok_Lone_span (T : Tx K mg A) : FnD P w K mg base 1 A.a_Lone_span A.d_Lone_span ["_law_x", "_law_y", "_law_way"] sp_Lone_span := by
  refine okD T.f_Lone_span.F sc_Lone_span (fun ds M Q E h => ?_) fun cdv A outer s H E ds M Q ED hr h tk hp => ?_
  · obtain ⟨x, y, z, rfl, _⟩ := h; rfl
  · obtain ⟨x, y, z, rfl, hQ⟩ := h
    refine ⟨_, (qss_cons (qs_set 3 sc_Lone_span.nd (qe_pure (qe_ix (qe_lst (qa_cons (qe_op o_mod (qe_var 0) qe_int) (qa_cons (qe_op o_sub (qe_op o_mod (qe_var 0) qe_int) qe_int) (qa_cons (qe_op o_mulI (qe_op o_sub (qe_op o_mod (qe_var 0) qe_int) qe_int) (qe_op o_pow qe_int qe_int)) qa_nil)))) (qe_op o_mod (qe_var 2) qe_int))))
  (qss_cons (qs_set 4 sc_Lone_span.nd (qe_pure (qe_ix (qe_lst (qa_cons (qe_op o_add qe_int (qe_op o_mod (qe_var 1) qe_int)) (qa_cons (qe_op o_add qe_int (qe_op o_mod (qe_var 1) qe_int)) (qa_cons (qe_op o_sub (qe_op o_mulI (qe_op o_add qe_int (qe_op o_mod (qe_var 1) qe_int)) (qe_op o_pow qe_int qe_int)) (qe_op o_mod (qe_op o_fdiv (qe_var 1) qe_int) qe_int)) qa_nil)))) (qe_op o_mod (qe_var 2) qe_int))))
  (qss_one (qs_ret (qe_tup (qa_cons (qe_var 3) (qa_cons (qe_op o_add (qe_var 3) (qe_var 4)) qa_nil))))))), ?_⟩
    clear tk hp hr
    refine seq_cut (fun δ' M' => ∃ l : Int, δ' = [some (.int x), some (.int y), some (.int z), some (.int l), none] ∧ (-100000000000 ≤ l ∧ l ≤ 100000000000) ∧ M' = M) (fun R hR => ?_) ?_
    · walk_at "ds"
      intro p hp
      have h3 : z % 3 = 0 ∨ z % 3 = 1 ∨ z % 3 = 2 := by omega
      rcases h3 with h | h | h <;> rw [h] <;> walk_at "ds" <;> exact ⟨Sub.new hp, hR _ _ ⟨_, rfl, by omega, rfl⟩⟩
    · rintro δ' M' ⟨l, rfl, hl, rfl⟩
      refine seq_cut (fun δ' M'' => ∃ l k : Int, δ' = [some (.int x), some (.int y), some (.int z), some (.int l), some (.int k)] ∧ (-100000000000 ≤ l ∧ l ≤ 100000000000) ∧ (0 < k ∧ k ≤ 100000000000) ∧ M'' = M') (fun R hR => ?_) ?_
      · walk_at "ds"
        intro p hp
        have h3 : z % 3 = 0 ∨ z % 3 = 1 ∨ z % 3 = 2 := by omega
        rcases h3 with h | h | h <;> rw [h] <;> walk_at "ds" <;> exact ⟨Sub.new hp, hR _ _ ⟨_, _, rfl, hl, by omega, rfl⟩⟩
      · rintro δ' M'' ⟨l, k, rfl, hl, hk, rfl⟩
        walk_at "ds"
        exact up.of (hQ (l, l + k) (by unfold V0; dsimp only; omega))
def sp_Ltwo_spans : DSp := fun ds M Q _ => ∃ (p : Addr) (ns : List Int), ds = [.ref p] ∧ M p = some (.lst (ns.map D.int)) ∧ 6 ≤ ns.length ∧ ∀ s t : Sn, V s → V t → Q (.tup [dSpan s, dSpan t]) M
theorem ints_at {ns : List Int} (i : Int) (h0 : 0 ≤ i) (h : i < ns.length) : ∃ n, atI (ns.map D.int) i = some (.int n) := by
  rw [atI_int _ _ h0, List.getElem?_map, List.getElem?_eq_getElem (by omega)]
  exact ⟨_, rfl⟩
theorem ok_Ltwo_spans (T : Tx K mg A) : FnD P w K mg base 2 A.a_Ltwo_spans A.d_Ltwo_spans ["_law_xs"] sp_Ltwo_spans := by
  refine okD T.f_Ltwo_spans.F sc_Ltwo_spans (fun ds M Q E h => ?_) fun cdv A outer s H E ds M Q ED hr h tk hp => ?_
  · obtain ⟨p, ns, rfl, _⟩ := h; rfl
  · obtain ⟨p, ns, rfl, hM, hl, hQ⟩ := h
    refine ⟨_, (qss_cons (qs_set 1 sc_Ltwo_spans.nd (qe_call (ok_Lone_span T) (hr.mono (by decide)) (by rfl) T.f_Lone_span.g T.f_Lone_span.F.kp T.f_Lone_span.b .nil dd0 (qa_cons (qe_ix (qe_var 0) qe_int) (qa_cons (qe_ix (qe_var 0) qe_int) (qa_cons (qe_ix (qe_var 0) qe_int) qa_nil)))))
  (qss_cons (qs_set 2 sc_Ltwo_spans.nd (qe_call (ok_Lone_span T) (hr.mono (by decide)) (by rfl) T.f_Lone_span.g T.f_Lone_span.F.kp T.f_Lone_span.b .nil dd0 (qa_cons (qe_ix (qe_var 0) qe_int) (qa_cons (qe_ix (qe_var 0) qe_int) (qa_cons (qe_ix (qe_var 0) qe_int) qa_nil)))))
  (qss_cons (qs_asg (qe_var 1) (qg_tup (n := 2) rfl (qgs_cons (qg_name 3 sc_Ltwo_spans.nd) (qgs_cons (qg_name 4 sc_Ltwo_spans.nd) qgs_nil))))
  (qss_cons (qs_set 5 sc_Ltwo_spans.nd (qe_op o_sub (qe_var 4) (qe_var 3)))
  (qss_cons (qs_set 6 sc_Ltwo_spans.nd (qe_lst (qa_cons (qe_var 2) (qa_cons (qe_var 1) (qa_cons (qe_tup (qa_cons (qe_var 4) (qa_cons (qe_op o_add (qe_var 4) (qe_var 5)) qa_nil))) (qa_cons (qe_tup (qa_cons (qe_op o_sub (qe_var 3) (qe_var 5)) (qa_cons (qe_var 3) qa_nil))) (qa_cons (qe_tup (qa_cons (qe_op o_sub (qe_var 3) qe_int) (qa_cons (qe_op o_add (qe_var 4) qe_int) qa_nil))) (qa_cons (qe_tup (qa_cons (qe_var 3) (qa_cons (qe_op o_add (qe_var 4) qe_int) qa_nil))) (qa_cons (qe_tup (qa_cons (qe_op o_sub (qe_var 3) qe_int) (qa_cons (qe_var 4) qa_nil))) qa_nil)))))))))
  (qss_cons (qs_if (qt_cmp o_gt (qe_var 5) qe_int (nomark _)) (qss_one (qs_set 6 sc_Ltwo_spans.nd (qe_pureL (qe_op o_add (qe_var 6) (qe_lst (qa_cons (qe_tup (qa_cons (qe_op o_add (qe_var 3) qe_int) (qa_cons (qe_var 4) qa_nil))) (qa_cons (qe_tup (qa_cons (qe_var 3) (qa_cons (qe_op o_sub (qe_var 4) qe_int) qa_nil))) (qa_cons (qe_tup (qa_cons (qe_op o_sub (qe_var 4) qe_int) (qa_cons (qe_op o_add (qe_var 4) (qe_var 5)) qa_nil))) (qa_cons (qe_tup (qa_cons (qe_op o_sub (qe_var 3) (qe_var 5)) (qa_cons (qe_op o_add (qe_var 3) qe_int) qa_nil))) qa_nil))))))))) qss_nil)
  (qss_cons (qs_if (qt_cmp o_gt (qe_var 5) qe_int (nomark _)) (qss_one (qs_set 6 sc_Ltwo_spans.nd (qe_pureL (qe_op o_add (qe_var 6) (qe_lst (qa_cons (qe_tup (qa_cons (qe_op o_add (qe_var 3) qe_int) (qa_cons (qe_op o_sub (qe_var 4) qe_int) qa_nil))) qa_nil)))))) qss_nil)
  (qss_one (qs_ret (qe_tup (qa_cons (qe_var 1) (qa_cons (qe_pure (qe_ix (qe_op o_add (qe_var 6) (qe_op o_mulL (qe_lst (qa_cons (qe_var 2) qa_nil)) qe_int)) (qe_op o_mod (qe_ix (qe_var 0) qe_int) (qe_op o_add (qe_callB c_len (by rfl) T.b_len PySem.boot_len (qa_cons (qe_var 6) qa_nil)) qe_int)))) qa_nil)))))))))))), ?_⟩
    clear tk hp hr
    obtain ⟨n0, e0⟩ := ints_at (ns := ns) 0 (by omega) (by omega)
    obtain ⟨n1, e1⟩ := ints_at (ns := ns) 1 (by omega) (by omega)
    obtain ⟨n2, e2⟩ := ints_at (ns := ns) 2 (by omega) (by omega)
    obtain ⟨n3, e3⟩ := ints_at (ns := ns) 3 (by omega) (by omega)
    obtain ⟨n4, e4⟩ := ints_at (ns := ns) 4 (by omega) (by omega)
    obtain ⟨n5, e5⟩ := ints_at (ns := ns) 5 (by omega) (by omega)
    refine seq_gen4 fun R hR => ?_
    walk_at "ds"
    simp only [lstOf_of hM]
    simp only [e0, e1, e4]
    walk_at "ds"
    refine ⟨_, _, _, rfl, fun s hs => ?_⟩
    walk_at "ds"
    simp only [lstOf_of hM, e2, e3, e4]
    refine ⟨_, _, _, rfl, fun t ht => ?_⟩
    obtain ⟨lo, hi⟩ := s
    have hs : lo < hi ∧ -100000000000 ≤ lo ∧ lo ≤ 100000000000 ∧ hi - lo ≤ 100000000000 := hs
    have hs0 : V (lo, hi) := by unfold V; dsimp only; omega
    have ht : V t := by unfold V0 at ht; unfold V; omega
    simp only [dSpan]
    walk_at "ds"
    refine hR _ _ ?_
    clear hR R
    have val : ∀ {L N : List Sn}, (∀ s ∈ L, V s) → (∀ s ∈ N, V s) → ∀ s ∈ L ++ N, V s := fun hL hN s hs => (List.mem_append.mp hs).elim (hL s) (hN s)
    refine seq_cut (fun δ' M' => ∃ (q : Addr) (L : List Sn), δ' = [some (.ref p), some (dSpan (lo, hi)), some (dSpan t), some (.int lo), some (.int hi), some (.int (hi - lo)), some (.ref q)] ∧ M' q = some (.lst (L.map dSpan)) ∧ (∀ s ∈ L, V s) ∧ 0 < L.length ∧ L.length ≤ 7 ∧ Dl.Sub M M') (fun R hR => ?_) ?_
    · walk_at "ds"
      intro q hq
      refine hR _ _ ⟨q, [t, (lo, hi), (hi, hi + (hi - lo)), (lo - (hi - lo), lo), (lo - 1, hi + 1), (lo, hi + 1), (lo - 1, hi)], rfl, by rw [mup_same]; rfl, ?_, by simp, by simp, Sub.new hq⟩
      intro s hs
      simp only [List.mem_cons, List.not_mem_nil, or_false] at hs
      rcases hs with rfl | rfl | rfl | rfl | rfl | rfl | rfl <;> first | assumption | (unfold V; dsimp only; omega)
    · rintro δ' M' ⟨q, L, rfl, hq, hL, h0, hk, hS⟩
      refine seq_cut (fun δ' M' => ∃ (q : Addr) (L : List Sn), δ' = [some (.ref p), some (dSpan (lo, hi)), some (dSpan t), some (.int lo), some (.int hi), some (.int (hi - lo)), some (.ref q)] ∧ M' q = some (.lst (L.map dSpan)) ∧ (∀ s ∈ L, V s) ∧ 0 < L.length ∧ L.length ≤ 11 ∧ Dl.Sub M M') (fun R hR => ?_) ?_
      · walk_at "ds"
        refine ite2 (fun h1 => ?_) (fun h1 => hR _ _ ⟨q, L, rfl, hq, hL, h0, by omega, hS⟩)
        intro p1 hp1
        rw [lstOf_of (mup_old hq hp1)]
        dsimp only
        refine ⟨by simp; omega, fun p2 hp2 => ⟨hp2.2, (Sub.new hp1).trans (Sub.new (by rw [mup_none]; exact hp2)), hR _ _ ⟨p2, L ++ [(lo + 1, hi), (lo, hi - 1), (hi - 1, hi + (hi - lo)), (lo - (hi - lo), lo + 1)], rfl, by rw [mup_same, List.map_append]; rfl, val hL ?_, by simp, by simp; omega, hS.trans (Sub.new hp2.2)⟩⟩⟩
        intro s hs
        simp only [List.mem_cons, List.not_mem_nil, or_false] at hs
        rcases hs with rfl | rfl | rfl | rfl <;> (unfold V; dsimp only; omega)
      · clear hS h0 hL hq
        rintro δ' M' ⟨q, L, rfl, hq, hL, h0, hk, hS⟩
        refine seq_cut (fun δ' M' => ∃ (q : Addr) (L : List Sn), δ' = [some (.ref p), some (dSpan (lo, hi)), some (dSpan t), some (.int lo), some (.int hi), some (.int (hi - lo)), some (.ref q)] ∧ M' q = some (.lst (L.map dSpan)) ∧ (∀ s ∈ L, V s) ∧ 0 < L.length ∧ L.length ≤ 15 ∧ Dl.Sub M M') (fun R hR => ?_) ?_
        · walk_at "ds"
          refine ite2 (fun h1 => ?_) (fun h1 => hR _ _ ⟨q, L, rfl, hq, hL, h0, by omega, hS⟩)
          intro p1 hp1
          rw [lstOf_of (mup_old hq hp1)]
          dsimp only
          refine ⟨by simp; omega, fun p2 hp2 => ⟨hp2.2, (Sub.new hp1).trans (Sub.new (by rw [mup_none]; exact hp2)), hR _ _ ⟨p2, L ++ [(lo + 1, hi - 1)], rfl, by rw [mup_same, List.map_append]; rfl, val hL ?_, by simp, by simp; omega, hS.trans (Sub.new hp2.2)⟩⟩⟩
          intro s hs
          simp only [List.mem_cons, List.not_mem_nil, or_false] at hs
          subst hs
          unfold V; dsimp only; omega
        · clear hS h0 hL hq hk
          rintro δ' M' ⟨q, L, rfl, hq, hL, h0, hk, hS⟩
          walk_at "ds"
          intro p1 hp1 p2 hp2
          have hp2' : mup M' p1 (.lst [dSpan t]) p2 = none := by rw [mup_none]; exact hp2
          rw [lstOf_of (mup_old (mup_old hq hp1) hp2')]
          dsimp only
          refine ⟨by simp; omega, fun p3 hp3 => ?_⟩
          have hp3' : mup (mup M' p1 (.lst [dSpan t])) p2 (.lst (List.replicate (Int.toNat 4) [dSpan t]).flatten) p3 = none := by rw [mup_none, mup_none]; exact hp3
          rw [lstOf_of (mup_old (mup_old (mup_old (hS _ _ hM) hp1) hp2') hp3'), (mup_old (mup_old (mup_old hq hp1) hp2') hp3')]
          dsimp only
          rw [e5]
          dsimp only
          refine ⟨by omega, ?_⟩
          have hlen : (L.map dSpan ++ (List.replicate (Int.toNat 4) [dSpan t]).flatten) = (L ++ [t, t, t, t]).map dSpan := by
            rw [List.map_append]; rfl
          rw [hlen, List.length_map]
          have hz0 : 0 ≤ n5 % ((L.length : Int) + 4) := Int.emod_nonneg _ (by omega)
          have hz1 : n5 % ((L.length : Int) + 4) < (L.length : Int) + 4 := Int.emod_lt_of_pos _ (by omega)
          generalize n5 % ((L.length : Int) + 4) = z at hz0 hz1
          have hget : ∃ s, (L ++ [t, t, t, t])[z.toNat]? = some s := ⟨_, List.getElem?_eq_getElem (by simp; omega)⟩
          obtain ⟨s, hs'⟩ := hget
          rw [atI_int _ _ hz0, List.getElem?_map, hs']
          have hv : ∀ s ∈ L ++ [t, t, t, t], V s := val hL (by
            intro s hs
            simp only [List.mem_cons, List.not_mem_nil, or_false, or_self] at hs
            subst hs; exact ht)
          exact ⟨(Sub.new hp1).trans ((Sub.new hp2').trans (Sub.new hp3')), up.by hS (hQ (lo, hi) s hs0 (hv s (List.mem_of_getElem? hs')))⟩
end
end K05
namespace K05
open PySem PySem.Spec PyProof.Rows L2 Dl
section
variable {P : Program} {w : World} {K : PySem.W.Frag} {mg : Str → Option Value} {base : Heap} {A : Ad}
def Good (b : List Sn) : Prop := ∀ s ∈ b, V s
def sp_Ltwo_boxes : DSp := fun ds M Q _ => ∃ (p : Addr) (ns : List Int), ds = [.ref p] ∧ M p = some (.lst (ns.map D.int)) ∧ 19 ≤ ns.length ∧ ∀ b c : List Sn, b.length = c.length → 1 ≤ b.length → b.length ≤ 3 → Good b → Good c → Q (.tup [dBox b, dBox c]) M
theorem ok_Ltwo_boxes (T : Tx K mg A) : FnD P w K mg base 3 A.a_Ltwo_boxes A.d_Ltwo_boxes ["_law_xs"] sp_Ltwo_boxes := by
  refine okD T.f_Ltwo_boxes.F sc_Ltwo_boxes (fun ds M Q E h => ?_) fun cdv A outer s H E ds M Q ED hr h tk hp => ?_
  · obtain ⟨p, ns, rfl, _⟩ := h; rfl
  · obtain ⟨p, ns, rfl, hM, hl, hQ⟩ := h
    refine ⟨_, (qss_cons (qs_setLc 1 (own := [("_law_k", 2)]) (g := (dgName 2)) (tt := dYes) rfl sc_Ltwo_boxes.nd rfl rfl (sw_true rfl rfl rfl (by decide +kernel)) (qi_range1 (by rfl) T.b_range (qa_cons (qe_op o_add qe_int (qe_op o_mod (qe_ix (qe_var 0) qe_int) qe_int)) qa_nil)) (blkOk_by (own := [("_law_k", 2)]) (N := ["_law_xs", "_law_pairs", "_law_k", "_law_pair"]) (sc := defScope s_Ltwo_boxes) (by decide +kernel)) (fun _ _ _ _ _ => (qv_name 2 sc_Ltwo_boxes.nd)) (fun _ _ _ _ _ => qts_nil) (fun _ _ _ _ _ => (qe_pure (qe_call (ok_Ltwo_spans T) (hr.mono (by decide)) (by rfl) T.f_Ltwo_spans.g T.f_Ltwo_spans.F.kp T.f_Ltwo_spans.b .nil dd0 (qa_cons (qe_slice (qe_var 0) (qo_some (qe_op o_add qe_int (qe_op o_mulI qe_int (qe_var 2)))) (qo_some (qe_op o_add qe_int (qe_op o_mulI qe_int (qe_var 2))))) qa_nil)))))
  (qss_one (qs_ret (qe_tup (qa_cons (qe_pure (qe_callTy c_tuple (by rfl) T.b_tuple PyProof.Rows.boot_tuple (qa_cons (qe_lc (own := [("_law_pair", 3)]) (g := (dgName 3)) (tt := dYes) rfl sc_Ltwo_boxes.nd (qi_any (qe_var 1)) (blkOk_by (own := [("_law_pair", 3)]) (N := ["_law_xs", "_law_pairs", "_law_k", "_law_pair"]) (sc := defScope s_Ltwo_boxes) (by decide +kernel)) (fun _ _ _ _ _ => (qv_name 3 sc_Ltwo_boxes.nd)) (fun _ _ _ _ _ => qts_nil) (fun _ _ _ _ _ => (qe_ix (qe_var 3) qe_int))) qa_nil))) (qa_cons (qe_pure (qe_callTy c_tuple (by rfl) T.b_tuple PyProof.Rows.boot_tuple (qa_cons (qe_lc (own := [("_law_pair", 3)]) (g := (dgName 3)) (tt := dYes) rfl sc_Ltwo_boxes.nd (qi_any (qe_var 1)) (blkOk_by (own := [("_law_pair", 3)]) (N := ["_law_xs", "_law_pairs", "_law_k", "_law_pair"]) (sc := defScope s_Ltwo_boxes) (by decide +kernel)) (fun _ _ _ _ _ => (qv_name 3 sc_Ltwo_boxes.nd)) (fun _ _ _ _ _ => qts_nil) (fun _ _ _ _ _ => (qe_ix (qe_var 3) qe_int))) qa_nil))) qa_nil)))))), ?_⟩
    clear tk hp hr
    obtain ⟨n0, e0⟩ : ∃ n, atI (ns.map D.int) 0 = some (.int n) := ints_at 0 (by omega) (by omega)
    refine seq_cut (fun δ' M' => ∃ (q : Addr) (L : List (Sn × Sn)), δ' = [some (.ref p), some (.ref q), none, none] ∧ M' q = some (.lst (L.map fun x => .tup [dSpan x.1, dSpan x.2])) ∧ (∀ x ∈ L, V x.1 ∧ V x.2) ∧ 1 ≤ L.length ∧ L.length ≤ 3 ∧ Dl.Sub M M') (fun R hR => ?_) ?_
    · walk_at "ds"
      simp only [lstOf_of hM, e0]
      walk_at "ds"
      have e : intsD 0 (1 + n0 % 3).toNat = (List.range (1 + n0 % 3).toNat).map fun (i : Nat) => D.int (0 + (i : Int)) := rfl
      rw [e]
      refine ⟨by omega, fun q hq => ?_⟩
      refine lc_inv _ _ (fun i acc M' => ∃ L : List (Sn × Sn), L.length = i ∧ acc = (L.map fun x => .tup [dSpan x.1, dSpan x.2]) ∧ (∀ x ∈ L, V x.1 ∧ V x.2) ∧ M' = mup M q (.lst acc)) (fun _ _ _ _ _ => trivial) ?_ ?_ ⟨[], rfl, rfl, by simp, rfl⟩
      · rintro i j acc M' R hi ⟨L, hl', rfl, hL, rfl⟩ hR
        obtain ⟨rfl, hlt⟩ := range_get hi
        walk_at "ds"
        rw [lstOf_of (mup_old hM hq)]
        walk_at "ds"
        rw [show (1 : Int) + 6 * (0 + (j : Int)) = ((1 + 6 * j : Nat) : Int) by omega, show (7 : Int) + 6 * (0 + (j : Int)) = ((7 + 6 * j : Nat) : Int) by omega, cut_both]
        intro p1 hp1
        refine ⟨p1, (ns.drop (1 + 6 * j)).take (7 + 6 * j - (1 + 6 * j)), rfl, by rw [mup_same, List.map_take, List.map_drop], by rw [List.length_take, List.length_drop]; omega, fun s t hs ht => ⟨Sub.new (by rw [mup_none]; exact hp1), ?_⟩⟩
        refine hR _ _ mup_same (by simp; omega) ⟨L ++ [(s, t)], by simp [hl'], by simp, ?_, by rw [mup_mup]⟩
        intro x hx
        rcases List.mem_append.mp hx with h | h
        · exact hL x h
        · simp only [List.mem_singleton] at h; subst h; exact ⟨hs, ht⟩
      · rintro acc M' ⟨L, hl', rfl, hL, rfl⟩
        rw [List.length_range] at hl'
        exact hR _ _ ⟨q, L, rfl, mup_same, hL, by omega, by omega, Sub.new hq⟩
    · rintro δ' M' ⟨q, L, rfl, hq, hL, h1, h3, hS⟩
      walk_at "ds"
      rw [lstOf_of hq]
      dsimp only
      intro p1 hp1
      have hd : ∀ x ∈ L, True := fun _ _ => trivial
      refine lc_pure (fun x : Sn × Sn => .tup [dSpan x.1, dSpan x.2]) (fun x => dSpan x.1) L [] (fun acc => mup_old hq hp1) (by simp; omega) (fun x m acc R hR => by walk_at "ds"; exact hR) ?_
      walk_at "ds"
      refine ⟨Sub.new hp1, ?_⟩
      intro p2 hp2
      refine lc_pure (fun x : Sn × Sn => .tup [dSpan x.1, dSpan x.2]) (fun x => dSpan x.2) L [] (fun acc => mup_old hq hp2) (by simp; omega) (fun x m acc R hR => by walk_at "ds"; exact hR) ?_
      walk_at "ds"
      refine ⟨Sub.new hp2, up.by hS ?_⟩
      have := hQ (L.map (·.1)) (L.map (·.2)) (by simp) (by simpa using h1) (by simpa using h3) (fun s hs => by
        obtain ⟨x, hx, rfl⟩ := List.mem_map.mp hs; exact (hL x hx).1) (fun s hs => by
        obtain ⟨x, hx, rfl⟩ := List.mem_map.mp hs; exact (hL x hx).2)
      simpa [dBox, List.map_map, Function.comp_def] using this
end
end K05
namespace K05
open PySem PySem.Spec PyProof.Rows L2 Dl
section
variable {P : Program} {w : World} {K : PySem.W.Frag} {mg : Str → Option Value} {base : Heap} {A : Ad}
theorem ok_Ldue (T : Tx K mg A) : FnD P w K mg base 1 A.a_Ldue A.d_Ldue ["_law_one", "_law_other"] sp_box_less := by
  refine okD T.f_Ldue.F sc_Ldue (fun ds M Q E h => ?_) fun cdv A outer s H E ds M Q ED hr h tk hp => ?_
  · obtain ⟨p, q, rfl, _⟩ := h; rfl
  · obtain ⟨b, c, rfl, he, hl, k⟩ := h
    refine ⟨_, (qss_cons (qs_for hp rfl (qi_zip (by rfl) T.b_zip (qa_cons (qe_var 0) (qa_cons (qe_var 1) qa_nil))) (qg_tup (n := 2) rfl (qgs_cons (qg_tup (n := 2) rfl (qgs_cons (qg_name 2 sc_Ldue.nd) (qgs_cons (qg_name 3 sc_Ldue.nd) qgs_nil))) (qgs_cons (qg_tup (n := 2) rfl (qgs_cons (qg_name 4 sc_Ldue.nd) (qgs_cons (qg_name 5 sc_Ldue.nd) qgs_nil))) qgs_nil))) (qss_one (qs_if (qt_not (PW.pt (qw_and (qt_cmp o_lt (qe_var 2) (qe_var 5) (nomark _)) (qw_and1 (qt_cmp o_lt (qe_var 4) (qe_var 3) (nomark _)))))) (qss_one (qs_ret (qe_lst (qa_cons (qe_var 0) qa_nil)))) qss_nil)))
  (qss_cons (qs_set 6 sc_Ldue.nd (qe_lst qa_nil))
  (qss_cons (qs_for hp rfl (qi_range1 (by rfl) T.b_range (qa_cons (qe_callB c_len (by rfl) T.b_len PySem.boot_len (qa_cons (qe_var 0) qa_nil)) qa_nil)) (qg_name 7 sc_Ldue.nd) (qss_cons (qs_asg (qe_tup (qa_cons (qe_ix (qe_var 0) (qe_var 7)) (qa_cons (qe_ix (qe_var 1) (qe_var 7)) qa_nil))) (qg_tup (n := 2) rfl (qgs_cons (qg_tup (n := 2) rfl (qgs_cons (qg_name 2 sc_Ldue.nd) (qgs_cons (qg_name 3 sc_Ldue.nd) qgs_nil))) (qgs_cons (qg_tup (n := 2) rfl (qgs_cons (qg_name 4 sc_Ldue.nd) (qgs_cons (qg_name 5 sc_Ldue.nd) qgs_nil))) qgs_nil))))
  (qss_cons (qs_set 8 sc_Ldue.nd (qe_pure (qe_callTy c_tuple (by rfl) T.b_tuple PyProof.Rows.boot_tuple (qa_cons (qe_lc (own := [("_law_j", 10)]) (g := (dgName 10)) (tt := dYes) rfl sc_Ldue.nd (qi_range1 (by rfl) T.b_range (qa_cons (qe_var 7) qa_nil)) (blkOk_by (own := [("_law_j", 10)]) (N := ["_law_one", "_law_other", "_law_low", "_law_high", "_law_begin", "_law_end", "_law_found", "_law_k", "_law_ahead", "_law_part", "_law_j"]) (sc := defScope s_Ldue) (by decide +kernel)) (fun _ _ _ _ _ => (qv_name 10 sc_Ldue.nd)) (fun _ _ _ _ _ => qts_nil) (fun _ _ _ _ _ => (qe_tup (qa_cons (qe_callB (c_max2 rfl) (by rfl) T.b_max PyProof.Rows.boot_max (qa_cons (qe_ix (qe_ix (qe_var 0) (qe_var 10)) qe_int) (qa_cons (qe_ix (qe_ix (qe_var 1) (qe_var 10)) qe_int) qa_nil))) (qa_cons (qe_callB (c_min2 rfl) (by rfl) T.b_min PyProof.Rows.boot_min (qa_cons (qe_ix (qe_ix (qe_var 0) (qe_var 10)) qe_int) (qa_cons (qe_ix (qe_ix (qe_var 1) (qe_var 10)) qe_int) qa_nil))) qa_nil))))) qa_nil))))
  (qss_one (qs_for hp rfl (qi_any (qe_lst (qa_cons (qe_tup (qa_cons (qe_var 2) (qa_cons (qe_var 4) qa_nil))) (qa_cons (qe_tup (qa_cons (qe_var 5) (qa_cons (qe_var 3) qa_nil))) qa_nil)))) (qg_name 9 sc_Ldue.nd) (qss_one (qs_if (qt_cmp o_lt (qe_ix (qe_var 9) qe_int) (qe_ix (qe_var 9) qe_int) (nomark _)) (qss_one (qs_expr (qe_lm PySem.F.plainAttrs_list PySem.F.slot_list_append PySem.F.type_list_append m_append (qe_var 6) (qa_cons (qe_op o_add (qe_op o_add (qe_var 8) (qe_tup (qa_cons (qe_var 9) qa_nil))) (qe_slice (qe_var 0) (qo_some (qe_op o_add (qe_var 7) qe_int)) qo_none)) qa_nil)))) qss_nil)))))))
  (qss_one (qs_ret (qe_var 6)))))), ?_⟩
    clear tk hp hr
    refine seq_cut (fun δ' M' => (∃ x1 x2 x3 x4 : Option D, δ' = [some (dBox b), some (dBox c), x1, x2, x3, x4, none, none, none, none, none]) ∧ M' = M ∧ bmeets b c = true) (fun R hR => ?_) ?_
    · simp only [dBox]
      walk_at "ds"
      rw [zip_maps]
      refine loop_inv _ _ (fun i δ M' => (∃ x1 x2 x3 x4 : Option D, δ = [some (.tup (b.map dSpan)), some (.tup (c.map dSpan)), x1, x2, x3, x4, none, none, none, none, none]) ∧ M' = M ∧ ∀ p ∈ (b.zip c).take i, meets p.1 p.2 = true) (fun _ _ _ _ _ => by simp only [isL2, seqOf]; trivial) ?_ ?_ ⟨⟨none, none, none, none, rfl⟩, rfl, by simp⟩
      · rintro i ⟨p, q⟩ δ M' R hi hR ⟨⟨x1, x2, x3, x4, rfl⟩, rfl, hall⟩
        simp only [dSpan]
        walk_at "ds"
        have bad : meets p q = false → ∀ a, M' a = none → up Q (.ref a) (mup M' a (.lst [.tup (b.map fun p => .tup [.int p.1, .int p.2])])) := by
          intro hf a ha
          have hb : bmeets b c = false := by
            unfold bmeets
            rw [List.all_eq_false]
            exact ⟨(p, q), List.mem_of_getElem? hi, by simp [hf]⟩
          have k := k a ha
          unfold bless at k
          rw [hb] at k
          exact up.of k
        by_cases h1 : p.1 < q.2
        · by_cases h2 : q.1 < p.2
          · simp only [h1, h2, decide_true, if_true, Bool.not_true, Bool.false_eq_true, if_false]
            refine hR _ _ ⟨⟨_, _, _, _, rfl⟩, rfl, ?_⟩
            rw [List.take_add_one, hi]
            intro x hx
            rcases List.mem_append.mp hx with h | h
            · exact hall x h
            · simp at h; subst h; simp [meets, h1, h2]
          · simp only [h1, h2, decide_true, decide_false, if_true, Bool.not_false]
            exact bad (by simp [meets, h2])
        · simp only [h1, decide_false, Bool.false_eq_true, if_false, Bool.not_false, if_true]
          exact bad (by simp [meets, h1])
      · rintro δ M' ⟨hδ, rfl, hall⟩
        refine hR _ _ ⟨hδ, rfl, ?_⟩
        unfold bmeets
        rw [List.all_eq_true]
        rw [List.take_of_length_le (Nat.le_refl _)] at hall
        exact hall
    · rintro δ' M' ⟨⟨x1, x2, x3, x4, rfl⟩, rfl, hm⟩
      have k : ∀ a, M' a = none → Q (.ref a) (mup M' a (.lst ((lessTo b c b.length).map dBox))) := fun a ha => by
        have := k a ha
        unfold bless at this
        rwa [hm, if_pos rfl] at this
      simp only [dBox]
      walk_at "ds"
      intro f hf
      have k := k f hf
      refine ⟨by simp; omega, ?_⟩
      have e : intsD 0 (((b.map dSpan).length : Nat) : Int).toNat = (List.range b.length).map fun (i : Nat) => D.int (0 + (i : Int)) := by simp [intsD]
      rw [e]
      refine loop_inv _ _ (fun i δ M2 => (∃ x1 x2 x3 x4 x5 x6 x7 : Option D, δ = [some (.tup (b.map dSpan)), some (.tup (c.map dSpan)), x1, x2, x3, x4, some (.ref f), x5, x6, x7, none]) ∧ M2 f = some (.lst ((lessTo b c i).map dBox)) ∧ Dl.Sub M' M2) (fun _ _ _ _ _ => trivial) ?_ ?_ ⟨⟨_, _, _, _, _, _, _, rfl⟩, by simp [lessTo, mup_same], Sub.new hf⟩
      · rintro i j δ M2 R hi hR ⟨⟨x1, x2, x3, x4, x5, x6, x7, rfl⟩, hM, hS⟩
        obtain ⟨rfl, hlt⟩ := range_get hi
        obtain ⟨p, hp⟩ : ∃ p, b[j]? = some p := ⟨b[j], List.getElem?_eq_getElem hlt⟩
        obtain ⟨q, hq⟩ : ∃ q, c[j]? = some q := ⟨c[j], List.getElem?_eq_getElem (by omega)⟩
        have hcut : cutK b c j = (sless p q).map fun s => (List.zipWith shr b c).take j ++ [s] ++ b.drop (j + 1) := by unfold cutK; rw [hp, hq]
        have hmeet : meets p q = true := by
          unfold bmeets at hm
          rw [List.all_eq_true] at hm
          have hzip : (b.zip c)[j]? = some (p, q) := by rw [List.getElem?_zip_eq_some]; exact ⟨hp, hq⟩
          exact hm (p, q) (List.mem_of_getElem? hzip)
        walk_at "ds"
        simp only [Int.zero_add, atI_nat', List.getElem?_map, hp, hq, Option.map_some]
        simp only [dSpan]
        walk_at "ds"
        refine ⟨by omega, fun p1 hp1 => ?_⟩
        have e2 : intsD 0 (j : Int).toNat = (List.range j).map fun (i : Nat) => D.int (0 + (i : Int)) := by simp [intsD]
        rw [e2]
        refine lc_pure _ (fun i => match (List.zipWith shr b c)[i]? with
          | some s => dSpan s
          | none => D.non) _ _ (fun _ => trivial) (by simp; omega) (fun i hi acc R hR => ?_) ?_
        · have hij : i < j := List.mem_range.mp hi
          obtain ⟨p', hp'⟩ : ∃ p, b[i]? = some p := ⟨b[i], List.getElem?_eq_getElem (by omega)⟩
          obtain ⟨q', hq'⟩ : ∃ q, c[i]? = some q := ⟨c[i], List.getElem?_eq_getElem (by omega)⟩
          rw [List.getElem?_zipWith, hp', hq'] at hR
          walk_at "ds"
          simp only [Int.zero_add, atI_nat', List.getElem?_map, hp', hq', Option.map_some]
          simp only [dSpan]
          walk_at "ds"
          exact hR
        · have hA : (List.range j).map (fun i => match (List.zipWith shr b c)[i]? with
              | some s => dSpan s
              | none => D.non) = ((List.zipWith shr b c).take j).map dSpan := by
            refine List.ext_getElem? fun i => ?_
            rw [List.getElem?_map, List.getElem?_map]
            by_cases h : i < j
            · rw [List.getElem?_range h, List.getElem?_take_of_lt h]
              have : i < (List.zipWith shr b c).length := by simp; omega
              rw [List.getElem?_eq_getElem this]
              simp [List.getElem?_eq_getElem this]
            · rw [List.getElem?_eq_none (by simp; omega), List.getElem?_eq_none (by simp; omega)]; rfl
          rw [hA]
          walk_at "ds"
          refine ⟨Sub.new hp1, fun p2 hp2 => ?_⟩
          have nf2 : f ≠ p2 := mne hM hp2
          have hcd : Dl.cutD (b.map fun p => D.tup [.int p.1, .int p.2]) (some ((j : Int) + 1)) none = (b.drop (j + 1)).map dSpan := by
            rw [show (j : Int) + 1 = ((j + 1 : Nat) : Int) by omega]
            show Dl.cutD (b.map dSpan) _ _ = _
            rw [cut_map, cut_from]
          have l1 := lessTo_len b c j
          have hS2 : Dl.Sub M' (mup M2 p2 (.lst [.tup [.int p.1, .int q.1], .tup [.int q.2, .int p.2]])) := hS.trans (Sub.new hp2)
          simp only [dLoop, isL]
          walk_at "ds"
          have hf2 : lstOf (mup M2 p2 (.lst [.tup [.int p.1, .int q.1], .tup [.int q.2, .int p.2]])) f = some ((lessTo b c j).map dBox) := lstOf_of (mup_old hM hp2)
          have hcd : Dl.cutD (b.map dSpan) (some ((j : Int) + 1)) none = (b.drop (j + 1)).map dSpan := by
            rw [show (j : Int) + 1 = ((j + 1 : Nat) : Int) by omega, cut_map, cut_from]
          simp only [hf2, hcd, mup_ne nf2.symm, mup_same, true_and]
          have fin : ∀ (Y : List (List Sn)) (x7 : Option D), cutK b c j = Y → R [some (D.tup (List.map dSpan b)), some (D.tup (List.map dSpan c)), some (D.int p.1), some (D.int p.2), some (D.int q.1), some (D.int q.2), some (D.ref f), some (D.int j), some (D.tup (List.map dSpan (List.take j (List.zipWith shr b c)))), x7, none]
              (mup (mup M2 p2 (.lst [.tup [.int p.1, .int q.1], .tup [.int q.2, .int p.2]])) f (.lst ((lessTo b c j).map dBox ++ Y.map dBox))) := by
            intro Y x7 hY
            refine hR _ _ ⟨⟨_, _, _, _, _, _, _, rfl⟩, by rw [mup_same, lessTo_succ, hY, List.map_append], fun u o g => ?_⟩
            have nu : u ≠ f := by rintro rfl; rw [hf] at g; cases g
            rw [mup_ne nu]; exact hS2 u o g
          have hl1 : (List.map dSpan (List.take j (List.zipWith shr b c))).length ≤ 999999 := by simp; omega
          by_cases h1 : p.1 < q.1
          · by_cases h2 : q.2 < p.2
            · simp only [h1, h2, if_true]
              have es : sless p q = [(p.1, q.1), (q.2, p.2)] := by unfold sless; simp [hmeet, h1, h2]
              have := fin (([(p.1, q.1), (q.2, p.2)] : List Sn).map fun s => (List.zipWith shr b c).take j ++ [s] ++ b.drop (j + 1)) (some (D.tup [D.int q.2, D.int p.2])) (by rw [hcut, es])
              exact ⟨hl1, by simp; omega, by simp; omega, hl1, by simp; omega, by simp; omega, by simpa [dBox, dSpan] using this⟩
            · simp only [h1, h2, if_true, if_false]
              have es : sless p q = [(p.1, q.1)] := by unfold sless; simp [hmeet, h1, h2]
              have := fin (([(p.1, q.1)] : List Sn).map fun s => (List.zipWith shr b c).take j ++ [s] ++ b.drop (j + 1)) (some (D.tup [D.int q.2, D.int p.2])) (by rw [hcut, es])
              exact ⟨hl1, by simp; omega, by simp; omega, by simpa [dBox, dSpan] using this⟩
          · by_cases h2 : q.2 < p.2
            · simp only [h1, h2, if_true, if_false, hf2, true_and, mup_ne nf2.symm, mup_same]
              have es : sless p q = [(q.2, p.2)] := by unfold sless; simp [hmeet, h1, h2]
              have := fin (([(q.2, p.2)] : List Sn).map fun s => (List.zipWith shr b c).take j ++ [s] ++ b.drop (j + 1)) (some (D.tup [D.int q.2, D.int p.2])) (by rw [hcut, es])
              exact ⟨hl1, by simp; omega, by simp; omega, by simpa [dBox, dSpan] using this⟩
            · simp only [h1, h2, if_false]
              have := fin [] (some (D.tup [D.int q.2, D.int p.2])) (by rw [hcut]; unfold sless; simp only [hmeet, h1, h2, if_true, if_false]; rfl)
              have e3 : mup (mup M2 p2 (.lst [.tup [.int p.1, .int q.1], .tup [.int q.2, .int p.2]])) f (.lst ((lessTo b c j).map dBox ++ ([] : List (List Sn)).map dBox)) = mup M2 p2 (.lst [.tup [.int p.1, .int q.1], .tup [.int q.2, .int p.2]]) := by
                rw [List.map_nil, List.append_nil]; exact mup_id (mup_old hM hp2)
              rw [e3] at this
              exact this
      · rintro δ M2 ⟨⟨x1, x2, x3, x4, x5, x6, x7, rfl⟩, h1, h2⟩
        walk_at "ds"
        rw [List.length_range] at h1
        refine up.by (fun u o g => ?_) k
        by_cases e : u = f
        · subst e; rw [mup_same] at g; rw [← g]; exact h1
        · rw [mup_ne e] at g; exact h2 _ _ g
end
end K05
namespace K05
open PySem PySem.Spec PyProof.Rows L2 Dl
/-! the mathematics: what is left of a box without another, spot by spot -/
def ext1 (s : Sn) (f : List (List Int)) : List (List Int) := f.flatMap fun sp => (List.range (s.2 - s.1).toNat).map fun (i : Nat) => sp ++ [s.1 + (i : Int)]
def spotsFrom (f : List (List Int)) (b : List Sn) : List (List Int) := b.foldl (fun f s => ext1 s f) f
def spots (b : List Sn) : List (List Int) := spotsFrom [[]] b
def inB : List Int → List Sn → Prop
  | [], [] => True
  | x :: xs, s :: b => (s.1 ≤ x ∧ x < s.2) ∧ inB xs b
  | _, _ => False
theorem mem_ext1 {s : Sn} {f : List (List Int)} {sp : List Int} : sp ∈ ext1 s f ↔ ∃ u x, sp = u ++ [x] ∧ u ∈ f ∧ s.1 ≤ x ∧ x < s.2 := by
  unfold ext1
  simp only [List.mem_flatMap, List.mem_map, List.mem_range]
  constructor
  · rintro ⟨u, hu, i, hi, rfl⟩
    exact ⟨u, _, rfl, hu, by omega, by omega⟩
  · rintro ⟨u, x, rfl, hu, h1, h2⟩
    exact ⟨u, hu, (x - s.1).toNat, by omega, by congr 2; omega⟩
theorem mem_from : ∀ {b : List Sn} {f : List (List Int)} {sp : List Int}, sp ∈ spotsFrom f b ↔ ∃ u v, sp = u ++ v ∧ u ∈ f ∧ inB v b
  | [], f, sp => by
    show sp ∈ f ↔ _
    constructor
    · intro h; exact ⟨sp, [], by simp, h, trivial⟩
    · rintro ⟨u, v, rfl, hu, hv⟩
      cases v with
      | nil => simpa using hu
      | cons x xs => exact hv.elim
  | s :: b, f, sp => by
    show sp ∈ spotsFrom (ext1 s f) b ↔ _
    rw [mem_from]
    constructor
    · rintro ⟨u, v, rfl, hu, hv⟩
      obtain ⟨w, x, rfl, hw, h1, h2⟩ := mem_ext1.mp hu
      exact ⟨w, x :: v, by simp, hw, ⟨h1, h2⟩, hv⟩
    · rintro ⟨u, v, rfl, hu, hv⟩
      cases v with
      | nil => exact hv.elim
      | cons x xs => exact ⟨u ++ [x], xs, by simp, mem_ext1.mpr ⟨u, x, rfl, hu, hv.1.1, hv.1.2⟩, hv.2⟩
theorem mem_spots {b : List Sn} {sp : List Int} : sp ∈ spots b ↔ inB sp b := by
  unfold spots
  rw [mem_from]
  constructor
  · rintro ⟨u, v, rfl, hu, hv⟩
    simp at hu; subst hu; simpa using hv
  · intro h; exact ⟨[], sp, rfl, by simp, h⟩
theorem inB_len : ∀ {sp : List Int} {b : List Sn}, inB sp b → sp.length = b.length
  | [], [], _ => rfl
  | _ :: _, _ :: _, h => by simp [inB_len h.2]
  | [], _ :: _, h => h.elim
  | _ :: _, [], h => h.elim
theorem app_lt : ∀ {l m a b : List Int}, l.length = m.length → l < m → l ++ a < m ++ b
  | [], [], a, b, _, h => absurd h (List.lt_irrefl _)
  | [], _ :: _, _, _, e, _ => by simp at e
  | _ :: _, [], _, _, e, _ => by simp at e
  | x :: l, y :: m, a, b, e, h => by
    rw [List.cons_append, List.cons_append, List.cons_lt_cons_iff]
    rcases List.cons_lt_cons_iff.mp h with h | ⟨h1, h2⟩
    · exact .inl h
    · exact .inr ⟨h1, app_lt (by simpa using e) h2⟩
theorem app_lt1 : ∀ {l : List Int} {x y : Int}, x < y → l ++ [x] < l ++ [y]
  | [], x, y, h => by
    show [x] < [y]
    rw [List.cons_lt_cons_iff]; exact .inl h
  | z :: l, x, y, h => by
    rw [List.cons_append, List.cons_append, List.cons_lt_cons_iff]
    exact .inr ⟨rfl, app_lt1 h⟩
theorem range_pw (lo : Int) : ∀ n : Nat, ((List.range n).map fun (i : Nat) => lo + (i : Int)).Pairwise (· < ·) := by
  intro n
  rw [List.pairwise_map]
  exact List.Pairwise.imp (fun h => by omega) List.pairwise_lt_range
theorem ext1_pw {s : Sn} {n : Nat} : ∀ {f : List (List Int)}, f.Pairwise (· < ·) → (∀ x ∈ f, x.length = n) → (ext1 s f).Pairwise (· < ·)
  | [], _, _ => by simp [ext1]
  | u :: f, h, hl => by
    have e : ext1 s (u :: f) = ((List.range (s.2 - s.1).toNat).map fun (i : Nat) => u ++ [s.1 + (i : Int)]) ++ ext1 s f := by unfold ext1; rw [List.flatMap_cons]
    rw [e, List.pairwise_append]
    obtain ⟨h1, h2⟩ := List.pairwise_cons.mp h
    refine ⟨?_, ext1_pw h2 fun x m => hl x (by simp [m]), fun x hx y hy => ?_⟩
    · have := range_pw s.1 (s.2 - s.1).toNat
      rw [List.pairwise_map] at this ⊢
      exact this.imp fun h => app_lt1 h
    · obtain ⟨i, _, rfl⟩ := List.mem_map.mp hx
      obtain ⟨v, z, rfl, hv, _⟩ := mem_ext1.mp hy
      exact app_lt (by rw [hl u (by simp), hl v (by simp [hv])]) (h1 v hv)
theorem from_pw : ∀ {b : List Sn} {f : List (List Int)} {n : Nat}, f.Pairwise (· < ·) → (∀ x ∈ f, x.length = n) → (spotsFrom f b).Pairwise (· < ·)
  | [], f, n, h, _ => h
  | s :: b, f, n, h, hl => by
    show (spotsFrom (ext1 s f) b).Pairwise (· < ·)
    refine from_pw (n := n + 1) (ext1_pw h hl) fun x hx => ?_
    obtain ⟨u, z, rfl, hu, _⟩ := mem_ext1.mp hx
    simp [hl u hu]
theorem spots_pw (b : List Sn) : (spots b).Pairwise (· < ·) := from_pw (n := 0) (by simp) (by simp)
theorem spots_nd (b : List Sn) : (spots b).Nodup := (spots_pw b).imp fun h e => by subst e; exact List.lt_irrefl _ h
theorem ext1_len {s : Sn} : ∀ f : List (List Int), (ext1 s f).length = f.length * (s.2 - s.1).toNat
  | [] => by simp [ext1]
  | u :: f => by
    have e : ext1 s (u :: f) = ((List.range (s.2 - s.1).toNat).map fun (i : Nat) => u ++ [s.1 + (i : Int)]) ++ ext1 s f := by unfold ext1; rw [List.flatMap_cons]
    rw [e, List.length_append, ext1_len f, List.length_map, List.length_range, List.length_cons, Nat.succ_mul]; omega
theorem from_len : ∀ {b : List Sn} {f : List (List Int)}, (∀ s ∈ b, s.2 - s.1 ≤ 8) → (spotsFrom f b).length ≤ f.length * 8 ^ b.length
  | [], f, _ => by simp [spotsFrom]
  | s :: b, f, h => by
    show (spotsFrom (ext1 s f) b).length ≤ _
    refine Nat.le_trans (from_len fun x m => h x (by simp [m])) ?_
    rw [ext1_len, List.length_cons, Nat.pow_succ, Nat.mul_comm (8 ^ b.length) 8, ← Nat.mul_assoc]
    refine Nat.mul_le_mul_right _ (Nat.mul_le_mul_left _ ?_)
    have := h s (by simp)
    omega
theorem spots_len {b : List Sn} (h : ∀ s ∈ b, s.2 - s.1 ≤ 8) (h3 : b.length ≤ 3) : (spots b).length ≤ 512 := by
  have := from_len (f := [[]]) h
  have : 8 ^ b.length ≤ 8 ^ 3 := Nat.pow_le_pow_right (by decide) h3
  unfold spots
  simp at *
  omega
/-! the boxes that are left, from the first key on -/
def lessR : List Sn → List Sn → List (List Sn)
  | p :: b, q :: c => ((sless p q).map fun s => s :: b) ++ (lessR b c).map fun r => shr p q :: r
  | _, _ => []
theorem cutK_zero (p q : Sn) (b c : List Sn) : cutK (p :: b) (q :: c) 0 = (sless p q).map fun s => s :: b := by
  unfold cutK; simp
theorem cutK_succ (p q : Sn) (b c : List Sn) (k : Nat) : cutK (p :: b) (q :: c) (k + 1) = (cutK b c k).map fun r => shr p q :: r := by
  unfold cutK
  simp only [List.getElem?_cons_succ]
  split
  · simp
  · simp
theorem less_eq : ∀ (b c : List Sn), b.length = c.length → lessTo b c b.length = lessR b c
  | [], [], _ => rfl
  | [], _ :: _, h => by simp at h
  | _ :: _, [], h => by simp at h
  | p :: b, q :: c, h => by
    have ih := less_eq b c (by simpa using h)
    unfold lessTo at ih ⊢
    rw [List.length_cons, List.range_succ_eq_map, List.flatMap_cons, cutK_zero, lessR, ← ih]
    congr 1
    rw [List.flatMap_map, List.map_flatMap]
    congr 1
    funext k
    exact cutK_succ p q b c k
theorem inB_less {p q : Sn} (hm : meets p q = true) (hp : p.1 < p.2) (x : Int) : (∃ s ∈ sless p q, s.1 ≤ x ∧ x < s.2) ↔ (p.1 ≤ x ∧ x < p.2) ∧ ¬ (q.1 ≤ x ∧ x < q.2) := by
  unfold sless
  rw [hm]
  unfold meets at hm
  simp only [Bool.and_eq_true, decide_eq_true_eq] at hm
  simp only [if_true]
  by_cases h1 : p.1 < q.1 <;> by_cases h2 : q.2 < p.2 <;> simp [h1, h2] <;> omega
theorem mem_less : ∀ {b c : List Sn} {sp : List Int}, b.length = c.length → bmeets b c = true → (∀ s ∈ b, s.1 < s.2) → ((∃ r ∈ lessR b c, inB sp r) ↔ inB sp b ∧ ¬ inB sp c)
  | [], [], sp, _, _, _ => by
    simp only [lessR, List.not_mem_nil, false_and, exists_false, false_iff]
    cases sp <;> simp [inB]
  | [], _ :: _, _, h, _, _ => by simp at h
  | _ :: _, [], _, h, _, _ => by simp at h
  | p :: b, q :: c, sp, h, hm, hv => by
    have hm' : meets p q = true ∧ bmeets b c = true := by
      unfold bmeets at hm ⊢
      simpa using hm
    have ih := fun xs => mem_less (sp := xs) (by simpa using h : b.length = c.length) hm'.2 fun s m => hv s (by simp [m])
    cases sp with
    | nil =>
      simp only [inB, false_and, iff_false]
      rintro ⟨r, hr, hi⟩
      simp only [lessR, List.mem_append, List.mem_map] at hr
      rcases hr with ⟨s, _, rfl⟩ | ⟨s, _, rfl⟩ <;> exact hi
    | cons x xs =>
      have hx := inB_less hm'.1 (hv p (by simp)) x
      have hsh : (shr p q).1 ≤ x ∧ x < (shr p q).2 ↔ (p.1 ≤ x ∧ x < p.2) ∧ (q.1 ≤ x ∧ x < q.2) := by unfold shr; dsimp only; omega
      constructor
      · rintro ⟨r, hr, hi⟩
        simp only [lessR, List.mem_append, List.mem_map] at hr
        rcases hr with ⟨s, hs, rfl⟩ | ⟨s, hs, rfl⟩
        · have := hx.mp ⟨s, hs, hi.1⟩
          exact ⟨⟨this.1, hi.2⟩, fun z => this.2 z.1⟩
        · have h1 := hsh.mp hi.1
          have h2 := (ih xs).mp ⟨s, hs, hi.2⟩
          exact ⟨⟨h1.1, h2.1⟩, fun z => h2.2 z.2⟩
      · rintro ⟨h1, h2⟩
        by_cases hq : q.1 ≤ x ∧ x < q.2
        · obtain ⟨r, hr, hi⟩ := (ih xs).mpr ⟨h1.2, fun z => h2 ⟨hq, z⟩⟩
          exact ⟨shr p q :: r, by simp only [lessR, List.mem_append, List.mem_map]; exact .inr ⟨r, hr, rfl⟩, hsh.mpr ⟨h1.1, hq⟩, hi⟩
        · obtain ⟨s, hs, hi⟩ := hx.mpr ⟨h1.1, hq⟩
          exact ⟨s :: b, by simp only [lessR, List.mem_append, List.mem_map]; exact .inl ⟨s, hs, rfl⟩, hi, h1.2⟩
def Dis (a b : List Sn) : Prop := ∀ sp, inB sp a → ¬ inB sp b
theorem sless_dis {p q : Sn} (hm : meets p q = true) (hq : q.1 < q.2) (b : List Sn) : ((sless p q).map fun s => s :: b).Pairwise Dis := by
  unfold sless
  rw [hm]
  simp only [if_true]
  by_cases h1 : p.1 < q.1 <;> by_cases h2 : q.2 < p.2 <;> simp [h1, h2]
  intro sp ha hb
  cases sp with
  | nil => exact ha
  | cons x xs => have := ha.1; have := hb.1; dsimp only at *; omega
theorem less_dis : ∀ {b c : List Sn}, b.length = c.length → bmeets b c = true → (∀ s ∈ b, s.1 < s.2) → (∀ s ∈ c, s.1 < s.2) → (lessR b c).Pairwise Dis
  | [], [], _, _, _, _ => by simp [lessR]
  | [], _ :: _, h, _, _, _ => by simp at h
  | _ :: _, [], h, _, _, _ => by simp at h
  | p :: b, q :: c, h, hm, hv, hw => by
    have hm' : meets p q = true ∧ bmeets b c = true := by
      unfold bmeets at hm ⊢
      simpa using hm
    have ih := less_dis (by simpa using h : b.length = c.length) hm'.2 (fun s m => hv s (by simp [m])) fun s m => hw s (by simp [m])
    rw [lessR, List.pairwise_append]
    refine ⟨sless_dis hm'.1 (hw q (by simp)) b, ?_, fun x hx y hy => ?_⟩
    · rw [List.pairwise_map]
      refine ih.imp fun {r r'} hd sp ha hb => ?_
      cases sp with
      | nil => exact ha
      | cons x xs => exact hd xs ha.2 hb.2
    · obtain ⟨s, hs, rfl⟩ := List.mem_map.mp hx
      obtain ⟨r, hr, rfl⟩ := List.mem_map.mp hy
      intro sp ha hb
      cases sp with
      | nil => exact ha
      | cons x xs =>
        have h1 := (inB_less hm'.1 (hv p (by simp)) x).mp ⟨s, hs, ha.1⟩
        have h2 := hb.1
        unfold shr at h2
        dsimp only at h2
        omega
theorem flat_nd : ∀ {l : List (List Sn)}, l.Pairwise Dis → (l.flatMap spots).Nodup
  | [], _ => by simp
  | r :: l, h => by
    obtain ⟨h1, h2⟩ := List.pairwise_cons.mp h
    rw [List.flatMap_cons, List.nodup_append]
    refine ⟨spots_nd r, flat_nd h2, fun a ha b hb e => ?_⟩
    subst e
    obtain ⟨r', hr', hb⟩ := List.mem_flatMap.mp hb
    exact h1 r' hr' a (mem_spots.mp ha) (mem_spots.mp hb)
theorem meets_of_in : ∀ {b c : List Sn} {sp : List Int}, inB sp b → inB sp c → bmeets b c = true
  | [], [], _, _, _ => by simp [bmeets]
  | [], _ :: _, _, _, _ => by simp [bmeets]
  | _ :: _, [], _, _, _ => by simp [bmeets]
  | p :: b, q :: c, [], h, _ => h.elim
  | p :: b, q :: c, x :: xs, h, g => by
    have ih := meets_of_in h.2 g.2
    unfold bmeets at ih ⊢
    rw [List.zip_cons_cons, List.all_cons, ih, Bool.and_true]
    unfold meets
    simp only [Bool.and_eq_true, decide_eq_true_eq]
    have := h.1; have := g.1; omega
theorem bless_mem {b c : List Sn} (he : b.length = c.length) (hv : ∀ s ∈ b, s.1 < s.2) (sp : List Int) : sp ∈ (bless b c).flatMap spots ↔ inB sp b ∧ ¬ inB sp c := by
  rw [List.mem_flatMap]
  unfold bless
  by_cases hm : bmeets b c = true
  · rw [hm, if_pos rfl, less_eq b c he, ← mem_less he hm hv]
    simp only [mem_spots]
  · rw [if_neg hm]
    simp only [List.mem_singleton, exists_eq_left, mem_spots]
    exact ⟨fun h => ⟨h, fun g => hm (meets_of_in h g)⟩, fun h => h.1⟩
theorem bless_nd {b c : List Sn} (he : b.length = c.length) (hv : ∀ s ∈ b, s.1 < s.2) (hw : ∀ s ∈ c, s.1 < s.2) : ((bless b c).flatMap spots).Nodup := by
  unfold bless
  by_cases hm : bmeets b c = true
  · rw [hm, if_pos rfl, less_eq b c he]
    exact flat_nd (less_dis he hm hv hw)
  · rw [if_neg hm]
    simpa using spots_nd b
end K05
namespace K05
open PySem PySem.Spec PyProof.Rows L2 Dl
section
variable {P : Program} {w : World} {K : PySem.W.Frag} {mg : Str → Option Value} {base : Heap} {A : Ad}
def dSpot (sp : List Int) : D := .tup (sp.map .int)
def Small (b : List Sn) : Prop := b.length ≤ 3 ∧ ∀ s ∈ b, V s ∧ s.2 - s.1 ≤ 8
def sp_Lspots : DSp := fun ds M Q _ => ∃ b : List Sn, ds = [dBox b] ∧ Small b ∧ ∀ p, M p = none → Q (.ref p) (mup M p (.lst ((spots b).map dSpot)))
theorem ok_Lspots (T : Tx K mg A) : FnD P w K mg base 1 A.a_Lspots A.d_Lspots ["_law_box"] sp_Lspots := by
  refine okD T.f_Lspots.F sc_Lspots (fun ds M Q E h => ?_) fun cdv A outer s H E ds M Q ED hr h tk hp => ?_
  · obtain ⟨b, rfl, _⟩ := h; rfl
  · obtain ⟨b, rfl, hb, hQ⟩ := h
    refine ⟨_, (qss_cons (qs_set 1 sc_Lspots.nd (qe_lst (qa_cons (qe_tup qa_nil) qa_nil)))
  (qss_cons (qs_for hp rfl (qi_any (qe_var 0)) (qg_tup (n := 2) rfl (qgs_cons (qg_name 2 sc_Lspots.nd) (qgs_cons (qg_name 3 sc_Lspots.nd) qgs_nil))) (qss_cons (qs_set 4 sc_Lspots.nd (qe_lst qa_nil))
  (qss_cons (qs_for hp rfl (qi_any (qe_var 1)) (qg_name 5 sc_Lspots.nd) (qss_one (qs_expr (qe_lm PySem.F.plainAttrs_list PySem.F.slot_list_extend PySem.F.type_list_extend m_extend (qe_var 4) (qa_cons (qe_lc (own := [("_law_number", 6)]) (g := (dgName 6)) (tt := dYes) rfl sc_Lspots.nd (qi_range2 (by rfl) T.b_range (qa_cons (qe_var 2) (qa_cons (qe_var 3) qa_nil))) (blkOk_by (own := [("_law_number", 6)]) (N := ["_law_box", "_law_found", "_law_low", "_law_high", "_law_more", "_law_spot", "_law_number"]) (sc := defScope s_Lspots) (by decide +kernel)) (fun _ _ _ _ _ => (qv_name 6 sc_Lspots.nd)) (fun _ _ _ _ _ => qts_nil) (fun _ _ _ _ _ => (qe_op o_add (qe_var 5) (qe_tup (qa_cons (qe_var 6) qa_nil))))) qa_nil)))))
  (qss_one (qs_set 1 sc_Lspots.nd (qe_var 4))))))
  (qss_one (qs_ret (qe_var 1))))), ?_⟩
    clear tk hp hr
    simp only [dBox]
    walk_at "ds"
    intro f hf
    refine loop_inv _ _ (fun i δ M' => ∃ (g : Addr) (x1 x2 x3 x4 x5 : Option D), δ = [some (dBox b), some (.ref g), x1, x2, x3, x4, x5] ∧ M' g = some (.lst ((spots (b.take i)).map dSpot)) ∧ M g = none ∧ Dl.Sub M M') (fun _ _ _ _ _ => trivial) ?_ ?_ ⟨f, _, _, _, _, _, rfl, by simp [spots, spotsFrom, dSpot, mup_same], hf, Sub.new hf⟩
    · rintro i s δ M1 R hi hR ⟨g, x1, x2, x3, x4, x5, rfl, hg, hgn, hS⟩
      have hsb : s ∈ b := List.mem_of_getElem? hi
      obtain ⟨hV, hw⟩ := hb.2 s hsb
      have hilt : i < b.length := by
        obtain ⟨h1, _⟩ := List.getElem?_eq_some_iff.mp hi; exact h1
      have hsp : spots (b.take (i + 1)) = ext1 s (spots (b.take i)) := by
        rw [List.take_add_one, hi]; simp [spots, spotsFrom, List.foldl_append]
      have hlen : (spots (b.take i)).length ≤ 512 := spots_len (fun s h => (hb.2 s (List.mem_of_mem_take h)).2) (by have := hb.1; simp; omega)
      simp only [dSpan]
      walk_at "ds"
      intro m hm
      have ngm : g ≠ m := mne hg hm
      rw [lstOf_of (mup_old hg hm)]
      have hext : ∀ (l : List (List Int)) , (ext1 s l).length ≤ l.length * 8 := fun l => by
        rw [ext1_len]; exact Nat.mul_le_mul_left _ (by omega)
      refine loop_inv dSpot _ (fun k δ M' => ∃ (x1 x2 x3 : Option D), δ = [some (dBox b), some (.ref g), some (.int s.1), some (.int s.2), some (.ref m), x1, x2] ∧ M' m = some (.lst ((ext1 s ((spots (b.take i)).take k)).map dSpot)) ∧ Dl.Sub M1 M') (fun _ _ M2 _ h => ?_) ?_ ?_ ⟨_, _, none, rfl, by simp [ext1, mup_same], Sub.new hm⟩
      · obtain ⟨_, _, _, _, _, hS⟩ := h
        exact hS _ _ hg
      · rintro k sp δ M2 R2 hk hR2 ⟨x1, x2, x3, rfl, hm2, hS2⟩
        have hkl : k < (spots (b.take i)).length := (List.getElem?_eq_some_iff.mp hk).1
        unfold V at hV
        have hspl : sp.length ≤ 3 := by
          have := inB_len (mem_spots.mp (List.mem_of_getElem? hk))
          have := hb.1
          simp at *; omega
        simp only [dSpot]
        walk_at "ds"
        rw [lstOf_of hm2]
        refine ⟨trivial, ⟨by omega, by omega, by omega, by omega⟩, fun p hp => ?_⟩
        have nmp : m ≠ p := mne hm2 hp
        have e2 : intsD s.1 (s.2 - s.1).toNat = (List.range (s.2 - s.1).toNat).map fun (i : Nat) => D.int (s.1 + (i : Int)) := by simp [intsD]
        rw [e2]
        refine lc_pure _ (fun (i : Nat) => dSpot (sp ++ [s.1 + (i : Int)])) _ _ (fun _ => trivial) (by simp; omega) (fun i hi acc R hR => ?_) ?_
        · walk_at "ds"
          exact ⟨by simp; omega, by simpa [dSpot] using hR⟩
        · rw [lstOf_of (mup_old hm2 hp)]
          walk_at "ds"
          have hl1 := hext ((spots (b.take i)).take k)
          refine ⟨by simp at hl1 ⊢; omega, hR2 _ _ ⟨_, _, none, rfl, ?_, fun u o g => ?_⟩⟩
          · rw [mup_same, List.take_add_one, hk]
            simp [ext1, dSpot]
          · have nu : u ≠ m := by rintro rfl; rw [hm] at g; cases g
            have nu2 : u ≠ p := mne (hS2 _ _ g) hp
            rw [mup_ne nu, mup_ne nu2]; exact hS2 _ _ g
      · rintro δ M2 ⟨x1, x2, x3, rfl, hm2, hS2⟩
        walk_at "ds"
        rw [List.take_length] at hm2
        have hmn : M m = none := by
          cases e : M m with
          | none => rfl
          | some o => rw [hS _ _ e] at hm; cases hm
        rw [← hsp] at hm2
        exact hR _ _ ⟨m, _, _, _, _, _, rfl, hm2, hmn, hS.trans hS2⟩
    · rintro δ M1 ⟨g, x1, x2, x3, x4, x5, rfl, hg, hgn, hS⟩
      walk_at "ds"
      rw [List.take_of_length_le (Nat.le_refl _)] at hg
      refine up.by (fun u o k => ?_) (hQ g hgn)
      by_cases e : u = g
      · subst e; rw [mup_same] at k; rw [← k]; exact hg
      · rw [mup_ne e] at k; exact hS _ _ k
end
end K05
namespace K05
open PySem PySem.Spec PyProof.Rows L2 Dl
theorem py_ints : ∀ sp : List Int, pys (sp.map .int) = sp.map .int
  | [] => by simp [pys]
  | x :: r => by simp [pys, py, py_ints r]
theorem py_spot (sp : List Int) : py (dSpot sp) = .tuple (sp.map .int) := by simp [dSpot, py, py_ints]
theorem le_spot (a b : List Int) : PySem.W.dataLe false py (dSpot a) (dSpot b) = decide (a ≤ b) := by
  show (!PySem.W.dataLt (py (dSpot b)) (py (dSpot a))) = _
  rw [py_spot, py_spot, PySem.W.dataLt_tuple]
  show (!PySem.W.rowLt (b.map .int) (a.map .int)) = _
  rw [PySem.W.dataLt_ints]
  by_cases h : b < a
  · have h' : ¬ a ≤ b := fun r => List.not_lt.mpr r h
    simp [h, h']
  · have h' : a ≤ b := List.not_lt.mp h
    simp [h, h']
theorem sort_spots {L T : List (List Int)} (hn : L.Nodup) (hT : T.Pairwise (· < ·)) (hm : ∀ x, x ∈ L ↔ x ∈ T) : sortD (L.map dSpot) = T.map dSpot := by
  unfold sortD
  rw [← List.map_mergeSort (r := fun a b : List Int => decide (a ≤ b)) (fun a _ b _ => (le_spot a b).symm)]
  congr 1
  have hTn : T.Nodup := hT.imp fun h e => by subst e; exact List.lt_irrefl _ h
  have hp : (L.mergeSort (fun a b => decide (a ≤ b))).Perm T := (List.mergeSort_perm _ _).trans ((List.perm_ext_iff_of_nodup hn hTn).mpr hm)
  refine List.Perm.eq_of_pairwise (le := (· ≤ ·)) (fun a b _ _ h1 h2 => List.le_antisymm h1 h2) ?_ (hT.imp fun h => List.le_of_lt h) hp
  have := List.pairwise_mergeSort (le := fun a b : List Int => decide (a ≤ b)) (fun a b c h1 h2 => by
    simp only [decide_eq_true_eq] at *
    exact List.le_trans h1 h2) (fun a b => by
    simp only [Bool.or_eq_true, decide_eq_true_eq]
    exact List.le_total a b) L
  simpa using this
theorem pln_spot (sp : List Int) {n : Nat} : Pln (n + 1) (dSpot sp) := by
  simp only [dSpot, Pln]
  intro d hd
  obtain ⟨x, _, rfl⟩ := List.mem_map.mp hd
  cases n <;> simp [Pln]
theorem alike_ints : ∀ a b : List Int, PySem.W.alikeAll (a.map .int) (b.map .int) = true
  | [], _ => by simp [PySem.W.alikeAll]
  | _ :: _, [] => by simp [PySem.W.alikeAll]
  | x :: r, y :: s => by simp [PySem.W.alikeAll, PySem.W.alike, alike_ints r s]
theorem spots_alike (L : List (List Int)) : PySem.W.AllAlike ((L.map dSpot).map py) := by
  intro d hd e he
  simp only [List.mem_map] at hd he
  obtain ⟨_, ⟨x, _, rfl⟩, rfl⟩ := hd
  obtain ⟨_, ⟨y, _, rfl⟩, rfl⟩ := he
  rw [py_spot, py_spot]
  simp [PySem.W.alike, alike_ints]
theorem spots_sortable {L : List (List Int)} (h : ∀ x ∈ L, x ≠ []) : PySem.W.Sortable ((L.map dSpot).map py) := by
  left
  intro d hd
  simp only [List.mem_map] at hd
  obtain ⟨_, ⟨x, hx, rfl⟩, rfl⟩ := hd
  rw [py_spot]
  cases x with
  | nil => exact absurd rfl (h _ hx)
  | cons a r => exact ⟨_, _, rfl⟩
def keyS (sp : List Int) : List Key := sp.map Sum.inl
theorem keys_ints (sp : List Int) : keysD (sp.map .int) = some (keyS sp) := by
  induction sp with
  | nil => rfl
  | cons x r ih => simp [keysD, keyD, ih, keyS]
theorem keyS_inj {a b : List Int} (h : keyS a = keyS b) : a = b := by
  refine (List.map_inj_right (f := (Sum.inl : Int → Key)) ?_).mp h
  intro x y e
  cases e
  rfl
theorem dput_new {κ : Type} [DecidableEq κ] {kvs : List (κ × D)} {k : κ} {v : D} (h : ∀ kv ∈ kvs, kv.1 ≠ k) : dput kvs k v = kvs ++ [(k, v)] := by
  unfold dput
  rw [if_neg]
  simp only [List.any_eq_true, decide_eq_true_eq, not_exists, not_and]
  exact fun x hx => h x hx
theorem dlook_true (L : List (List Int)) (t : List Int) : (dlook (L.map fun sp => (keyS sp, D.bl true)) (keyS t)).isSome = decide (t ∈ L) := by
  induction L with
  | nil => rfl
  | cons a r ih =>
    by_cases e : keyS a = keyS t
    · have := keyS_inj e
      subst this
      simp [dlook]
    · have ne : t ≠ a := fun h => e (by rw [h])
      have : dlook ((a :: r).map fun sp => (keyS sp, D.bl true)) (keyS t) = dlook (r.map fun sp => (keyS sp, D.bl true)) (keyS t) := by simp [dlook, List.find?_cons, e]
      rw [this, ih]
      simp [ne]
end K05
namespace K05
open PySem PySem.Spec PyProof.Rows L2 Dl
theorem less_small {Pr : Sn → Prop} (h : ∀ p q, meets p q = true → Pr p → V q → (∀ s ∈ sless p q, Pr s) ∧ Pr (shr p q)) : ∀ {b c : List Sn}, bmeets b c = true → (∀ s ∈ b, Pr s) → (∀ s ∈ c, V s) → ∀ r ∈ lessR b c, r.length = b.length ∧ ∀ s ∈ r, Pr s
  | [], _, _, _, _, r, hr => by simp [lessR] at hr
  | _ :: _, [], _, _, _, r, hr => by simp [lessR] at hr
  | p :: b, q :: c, hm, hb, hc, r, hr => by
    have hmm : meets p q = true ∧ bmeets b c = true := by simpa [bmeets] using hm
    obtain ⟨h1, h2⟩ := h p q hmm.1 (hb p (by simp)) (hc q (by simp))
    have ih := less_small h hmm.2 (fun s m => hb s (by simp [m])) (fun s m => hc s (by simp [m]))
    simp only [lessR, List.mem_append, List.mem_map] at hr
    rcases hr with ⟨s, hs, rfl⟩ | ⟨r, hr, rfl⟩
    · refine ⟨by simp, fun x hx => ?_⟩
      rcases List.mem_cons.mp hx with e | m
      · rw [e]; exact h1 s hs
      · exact hb x (by simp [m])
    · obtain ⟨e, g⟩ := ih r hr
      refine ⟨by simp [e], fun x hx => ?_⟩
      rcases List.mem_cons.mp hx with e | m
      · rw [e]; exact h2
      · exact g x m
theorem bless_small {b c : List Sn} (he : b.length = c.length) (hb : Small b) (hc : Good c) : ∀ r ∈ bless b c, Small r ∧ r.length = b.length := by
  intro r hr
  unfold bless at hr
  by_cases hm : bmeets b c = true
  · rw [if_pos hm, less_eq b c he] at hr
    obtain ⟨e, g⟩ := less_small (Pr := fun s => V s ∧ s.2 - s.1 ≤ 8) (fun p q hm hp hq => by
      unfold V at *
      simp only [meets, Bool.and_eq_true, decide_eq_true_eq] at hm
      refine ⟨fun s hs => ?_, ?_⟩
      · unfold sless at hs
        split at hs
        · rcases List.mem_append.mp hs with h | h
          · split at h
            · simp at h; subst h; dsimp only; omega
            · simp at h
          · split at h
            · simp at h; subst h; dsimp only; omega
            · simp at h
        · simp at hs; subst hs; exact hp
      · unfold shr; dsimp only; omega) hm hb.2 hc r hr
    exact ⟨⟨by rw [e]; exact hb.1, g⟩, e⟩
  · rw [if_neg hm] at hr
    simp at hr
    subst hr
    exact ⟨hb, rfl⟩
section
variable {P : Program} {w : World} {K : PySem.W.Frag} {mg : Str → Option Value} {base : Heap} {A : Ad}
def sp_Lby_spots : DSp := fun ds M Q _ => ∃ b c : List Sn, ds = [dBox b, dBox c] ∧ b.length = c.length ∧ 1 ≤ b.length ∧ Small b ∧ Small c ∧ Q (.bl true) M
theorem ok_Lby_spots (T : Tx K mg A) : FnD P w K mg base 4 A.a_Lby_spots A.d_Lby_spots ["_law_one", "_law_other"] sp_Lby_spots := by
  refine okD T.f_Lby_spots.F sc_Lby_spots (fun ds M Q E h => ?_) fun cdv A outer s H E ds M Q ED hr h tk hp => ?_
  · obtain ⟨b, c, rfl, _⟩ := h; rfl
  · obtain ⟨b, c, rfl, he, h1, hb, hc, hQ⟩ := h
    refine ⟨_, (qss_cons (qs_set 2 sc_Lby_spots.nd (qe_lst qa_nil))
  (qss_cons (qs_for hp rfl (qi_any (qe_call (ok_box_less T) (hr.mono (by decide)) (by rfl) T.f_box_less.g T.f_box_less.F.kp T.f_box_less.b .nil dd0 (qa_cons (qe_var 0) (qa_cons (qe_var 1) qa_nil)))) (qg_name 3 sc_Lby_spots.nd) (qss_one (qs_expr (qe_lm PySem.F.plainAttrs_list PySem.F.slot_list_extend PySem.F.type_list_extend m_extend (qe_var 2) (qa_cons (qe_call (ok_Lspots T) (hr.mono (by decide)) (by rfl) T.f_Lspots.g T.f_Lspots.F.kp T.f_Lspots.b .nil dd0 (qa_cons (qe_var 3) qa_nil)) qa_nil)))))
  (qss_cons (qs_set 4 sc_Lby_spots.nd qe_dnewT)
  (qss_cons (qs_for hp rfl (qi_any (qe_call (ok_Lspots T) (hr.mono (by decide)) (by rfl) T.f_Lspots.g T.f_Lspots.F.kp T.f_Lspots.b .nil dd0 (qa_cons (qe_var 1) qa_nil))) (qg_name 5 sc_Lby_spots.nd) (qss_one (qs_dput (hu_of hr) (qe_var 4) (qe_var 5) qe_bl)))
  (qss_one (qs_ret (qe_pure (qe_cmp (o_eq hr.units) (qe_callB (c_sorted hr.units) (by rfl) T.b_sorted PyProof.Rows.boot_sorted (qa_cons (qe_var 2) qa_nil)) (qe_lc (own := [("_law_spot", 5)]) (g := (dgName 5)) rfl sc_Lby_spots.nd (qi_any (qe_call (ok_Lspots T) (hr.mono (by decide)) (by rfl) T.f_Lspots.g T.f_Lspots.F.kp T.f_Lspots.b .nil dd0 (qa_cons (qe_var 0) qa_nil))) (blkOk_by (own := [("_law_spot", 5)]) (N := ["_law_one", "_law_other", "_law_left", "_law_box", "_law_there", "_law_spot"]) (sc := defScope s_Lby_spots) (by decide +kernel)) (fun _ _ _ _ _ => (qv_name 5 sc_Lby_spots.nd)) (fun _ _ _ _ _ => (qts_one (qt_dnotin (hu_of hr) (qe_var 5) (qe_var 4)))) (fun _ _ _ _ _ => (qe_var 5))) (nomark _))))))))), ?_⟩
    clear tk hp hr
    walk_at "ds"
    intro l hl
    have hbv : ∀ s ∈ b, s.1 < s.2 := fun s h => (hb.2 s h).1.1
    have hcv : ∀ s ∈ c, s.1 < s.2 := fun s h => (hc.2 s h).1.1
    have hbs := bless_small he hb (fun s h => (hc.2 s h).1)
    have hmem : ∀ x, x ∈ (bless b c).flatMap spots ↔ x ∈ (spots b).filter (fun t => decide (¬ t ∈ spots c)) := fun x => by
      rw [bless_mem he hbv]
      simp [mem_spots]
    have hpw : ((spots b).filter (fun t => decide (¬ t ∈ spots c))).Pairwise (· < ·) := (spots_pw b).sublist List.filter_sublist
    have hnd := bless_nd he hbv hcv
    have hperm := (List.perm_ext_iff_of_nodup hnd ((spots_nd b).sublist List.filter_sublist)).mpr hmem
    have hlb : (spots b).length ≤ 512 := spots_len (fun s h => (hb.2 s h).2) hb.1
    have hlc : (spots c).length ≤ 512 := spots_len (fun s h => (hc.2 s h).2) hc.1
    have hlen : ((bless b c).flatMap spots).length ≤ 512 := by
      rw [hperm.length_eq]; exact Nat.le_trans (List.length_filter_le _ _) hlb
    refine ⟨b, c, rfl, he, by have := hb.1; omega, fun q hq => ?_⟩
    have nlq : l ≠ q := fun e => by subst e; rw [mup_same] at hq; cases hq
    walk_at "ds"
    refine loop_inv _ _ (fun i δ M' => (∃ x1 : Option D, δ = [some (dBox b), some (dBox c), some (.ref l), x1, none, none]) ∧ M' l = some (.lst ((((bless b c).take i).flatMap spots).map dSpot)) ∧ M' q = some (.lst ((bless b c).map dBox)) ∧ Dl.Sub M M') (fun _ _ M2 _ h => h.2.2.1) ?_ ?_ ⟨⟨_, rfl⟩, by rw [mup_ne nlq, mup_same]; rfl, by rw [mup_same], (Sub.new hl).trans (Sub.new hq)⟩
    · rintro i r δ M1 R hi hR ⟨⟨x1, rfl⟩, hM1, hM1q, hS⟩
      have hrb : r ∈ bless b c := List.mem_of_getElem? hi
      walk_at "ds"
      rw [lstOf_of hM1]
      refine ⟨trivial, r, rfl, (hbs r hrb).1, fun p hp => ?_⟩
      walk_at "ds"
      rw [lstOf_of (mup_old hM1 hp)]
      walk_at "ds"
      have hle : (((bless b c).take (i + 1)).flatMap spots).length ≤ ((bless b c).flatMap spots).length := by
        conv => rhs; rw [← List.take_append_drop (i + 1) (bless b c), List.flatMap_append]
        simp
      have hsu : ((bless b c).take (i + 1)).flatMap spots = ((bless b c).take i).flatMap spots ++ spots r := by
        rw [List.take_add_one, hi]; simp
      rw [hsu] at hle
      have nlp : l ≠ p := mne hM1 hp
      have nqp : q ≠ p := mne hM1q hp
      refine ⟨by simp at hle hlen ⊢; omega, hR _ _ ⟨⟨_, rfl⟩, by rw [mup_same, hsu, List.map_append], by rw [mup_ne nlq.symm, mup_ne nqp]; exact hM1q, fun u o g => ?_⟩⟩
      have nu : u ≠ l := by rintro rfl; rw [hl] at g; cases g
      rw [mup_ne nu, mup_ne (mne (hS _ _ g) hp)]
      exact hS _ _ g
    · rintro δ M1 ⟨⟨x1, rfl⟩, hM1, hM1q, hS⟩
      rw [List.take_length] at hM1
      walk_at "ds"
      intro t ht
      refine ⟨c, rfl, hc, fun p hp => ?_⟩
      walk_at "ds"
      have nlt : l ≠ t := mne hM1 ht
      have ntp : t ≠ p := fun e => by subst e; rw [mup_same] at hp; cases hp
      have hpM : M1 p = none := by rwa [mup_ne ntp.symm] at hp
      refine loop_inv dSpot _ (fun i δ M' => (∃ x1 x2 : Option D, δ = [some (dBox b), some (dBox c), some (.ref l), x1, some (.ref t), x2]) ∧ M' l = some (.lst (((bless b c).flatMap spots).map dSpot)) ∧ M' p = some (.lst ((spots c).map dSpot)) ∧ M' t = some (.dT (((spots c).take i).map fun sp => (keyS sp, .bl true))) ∧ Dl.Sub M1 M') (fun _ _ M2 _ h => h.2.2.1) ?_ ?_ ⟨⟨_, _, rfl⟩, by rw [mup_ne (mne hM1 hpM), mup_ne (mne hM1 ht)]; exact hM1, by rw [mup_same], by rw [mup_ne ntp, mup_same]; rfl, (Sub.new ht).trans (Sub.new hp)⟩
      · rintro i r δ M2 R hi hR ⟨⟨x1, x2, rfl⟩, hMl, hMp, hMt, hS2⟩
        walk_at "ds"
        rw [hMt]
        walk_at "ds"
        simp only [dSpot, keys_ints]
        have hrl : i < (spots c).length := (List.getElem?_eq_some_iff.mp hi).1
        have nd := spots_nd c
        have hnew : ∀ kv ∈ ((spots c).take i).map (fun sp => (keyS sp, D.bl true)), kv.1 ≠ keyS r := by
          intro kv hkv e
          obtain ⟨x, hx, rfl⟩ := List.mem_map.mp hkv
          have e := keyS_inj e
          subst e
          obtain ⟨j, hj⟩ := List.mem_iff_getElem?.mp hx
          have hj1 : j < i := by
            have := (List.getElem?_eq_some_iff.mp hj).1
            simp at this; omega
          rw [List.getElem?_take_of_lt hj1] at hj
          have hjl : j < (spots c).length := by omega
          have h := List.pairwise_iff_getElem.mp (spots_pw c) j i hjl hrl hj1
          rw [List.getElem?_eq_getElem hjl] at hj
          rw [List.getElem?_eq_getElem hrl] at hi
          have h1 := Option.some.inj hj
          have h2 := Option.some.inj hi
          rw [h1, h2] at h
          exact List.lt_irrefl _ h
        rw [dput_new hnew]
        refine ⟨by simp; omega, hR _ _ ⟨⟨_, _, rfl⟩, by rw [mup_ne nlt]; exact hMl, by rw [mup_ne ntp.symm]; exact hMp, by rw [mup_same, List.take_add_one, hi]; simp, fun u o g => ?_⟩⟩
        have nu : u ≠ t := by rintro rfl; rw [ht] at g; cases g
        rw [mup_ne nu]; exact hS2 _ _ g
      · rintro δ M2 ⟨⟨x1, x2, rfl⟩, hMl, hMp, hMt, hS2⟩
        rw [List.take_length] at hMt
        walk_at "ds"
        rw [lstOf_of hMl]
        refine ⟨fun x hx => ?_, spots_alike _, spots_sortable fun x hx => ?_, by rw [List.length_map]; omega, fun s hs => ?_⟩
        · obtain ⟨y, _, rfl⟩ := List.mem_map.mp hx
          exact pln_spot y
        · have h2 := ((bless_mem he hbv x).mp hx).1
          have := inB_len h2
          rintro rfl
          simp at this; omega
        · rw [sort_spots hnd hpw hmem]
          refine ⟨b, rfl, hb, fun o ho => ?_⟩
          walk_at "ds"
          intro z hz
          have ho2 : M2 o = none := by
            cases e : M2 o with
            | none => rfl
            | some v => rw [Sub.new hs _ _ e] at ho; cases ho
          have nto : t ≠ o := mne hMt ho2
          have hS3 : Dl.Sub M2 (mup (mup M2 s (.lst (((spots b).filter (fun t => decide (¬ t ∈ spots c))).map dSpot))) o (.lst ((spots b).map dSpot))) := (Sub.new hs).trans (Sub.new ho)
          obtain ⟨noz, nsz, hz2⟩ := hz
          have hz : mup (mup M2 s (.lst (((spots b).filter (fun t => decide (¬ t ∈ spots c))).map dSpot))) o (.lst ((spots b).map dSpot)) z = none := by rw [mup_ne noz, mup_ne nsz]; exact hz2
          have nso : s ≠ o := fun e => by subst e; rw [mup_same] at ho; cases ho
          refine lc_test dSpot dSpot (fun t => decide (¬ t ∈ spots c)) _ _ (fun _ => by unfold isL; rw [mup_ne (Ne.symm noz), mup_same]) (by simp; omega) (fun sp hsp acc R hR => ?_) ?_
          · walk_at "ds"
            rw [mup_ne (mne (hS3 _ _ hMt) hz), hS3 _ _ hMt]
            simp only [dSpot, keys_ints, dlook_true]
            have := hR [some (dBox b), some (dBox c), some (.ref l), x1, some (.ref t), some (dSpot sp)] fun R' h => h
            simpa [dSpot] using this
          · walk_at "ds"
            refine ⟨_, _, Dn.ls (n := 59) (ds := ((spots b).filter (fun t => decide (¬ t ∈ spots c))).map dSpot) ?_ (fun d hd => ?_), Dn.ls (n := 59) (mup_same) (fun d hd => ?_), hS3.trans (Sub.new hz), ?_⟩
            · rw [mup_ne (Ne.symm nsz), mup_ne nso, mup_same]
            · obtain ⟨y, _, rfl⟩ := List.mem_map.mp hd
              exact pln_spot y
            · obtain ⟨y, _, rfl⟩ := List.mem_map.mp hd
              exact pln_spot y
            · have e := eqv_ls (n := 59) (ds := ((spots b).filter (fun t => decide (¬ t ∈ spots c))).map dSpot) (fun d hd => by obtain ⟨y, _, rfl⟩ := List.mem_map.mp hd; exact pln_spot y)
              have k : up Q (.bl true) M2 := up.by (hS.trans hS2) hQ
              rw [← e] at k
              exact k
end
end K05
namespace K05
open PySem PySem.Spec PyProof.Rows L2 Dl
section
variable {P : Program} {w : World} {K : PySem.W.Frag} {mg : Str → Option Value} {base : Heap} {A : Ad}
theorem pln_box (r : List Sn) : Pln 59 (dBox r) := by
  simp only [dBox, Pln]
  intro d hd
  obtain ⟨y, _, rfl⟩ := List.mem_map.mp hd
  simp only [dSpan, Pln]
  intro e he
  simp at he
  rcases he with rfl | rfl <;> simp [Pln]
def sp_Lright : DSp := fun ds M Q _ => ∃ b c : List Sn, ds = [dBox b, dBox c] ∧ b.length = c.length ∧ b.length ≤ 1000 ∧ (bless b c).length ≤ 1000 ∧ Q (.bl true) M
theorem ok_Lright (T : Tx K mg A) : FnD P w K mg base 4 A.a_Lright A.d_Lright ["_law_one", "_law_other"] sp_Lright := by
  refine okD T.f_Lright.F sc_Lright (fun ds M Q E h => ?_) fun cdv A outer s H E ds M Q ED hr h tk hp => ?_
  · obtain ⟨b, c, rfl, _⟩ := h; rfl
  · obtain ⟨b, c, rfl, he, hl, hl2, hQ⟩ := h
    refine ⟨_, (qss_cons (qs_set 2 sc_Lright.nd (qe_call (ok_box_less T) (hr.mono (by decide)) (by rfl) T.f_box_less.g T.f_box_less.F.kp T.f_box_less.b .nil dd0 (qa_cons (qe_var 0) (qa_cons (qe_var 1) qa_nil))))
  (qss_cons (qs_if (PW.pt (qw_or (qt_not (qt_val (qe_callB c_isi (by rfl) T.b_isinstance PyProof.Rows.boot_isinstance (qa_cons (qe_var 2) (qa_cons (qe_ty (by rfl) T.b_list PyProof.Rows.boot_list) qa_nil))))) (qw_or1 (qt_cmp (o_ne hr.units) (qe_var 2) (qe_call (ok_Ldue T) (hr.mono (by decide)) (by rfl) T.f_Ldue.g T.f_Ldue.F.kp T.f_Ldue.b .nil dd0 (qa_cons (qe_var 0) (qa_cons (qe_var 1) qa_nil))) (nomark _))))) (qss_one (qs_ret qe_bl)) qss_nil)
  (qss_cons (qs_expr (qe_lm PySem.F.plainAttrs_list PySem.F.slot_list_append PySem.F.type_list_append m_append (qe_var 2) (qa_cons qe_non qa_nil)))
  (qss_one (qs_ret (qe_pure (qe_cmp (o_eq hr.units) (qe_call (ok_box_less T) (hr.mono (by decide)) (by rfl) T.f_box_less.g T.f_box_less.F.kp T.f_box_less.b .nil dd0 (qa_cons (qe_var 0) (qa_cons (qe_var 1) qa_nil))) (qe_call (ok_Ldue T) (hr.mono (by decide)) (by rfl) T.f_Ldue.g T.f_Ldue.F.kp T.f_Ldue.b .nil dd0 (qa_cons (qe_var 0) (qa_cons (qe_var 1) qa_nil))) (nomark _)))))))), ?_⟩
    clear tk hp hr
    walk_at "ds"
    refine ⟨b, c, rfl, he, hl, fun p hp => ?_⟩
    walk_at "ds"
    rw [if_neg (by decide)]
    refine ⟨b, c, rfl, he, hl, fun q hq => ?_⟩
    have npq : p ≠ q := fun e => by subst e; rw [mup_same] at hq; cases hq
    have hqM : M q = none := by rwa [mup_ne npq.symm] at hq
    have hpl : ∀ d ∈ (bless b c).map dBox, Pln 59 d := fun d hd => by
      obtain ⟨y, _, rfl⟩ := List.mem_map.mp hd
      exact pln_box y
    refine ⟨_, _, Dn.ls (n := 59) (ds := (bless b c).map dBox) (by rw [mup_ne npq, mup_same]) hpl, Dn.ls (n := 59) (ds := (bless b c).map dBox) mup_same hpl, ?_⟩
    rw [eqv_ls hpl, Bool.not_true, if_neg Bool.false_ne_true, lstOf_of (by rw [mup_ne npq, mup_same])]
    walk_at "ds"
    rw [List.length_map]
    refine ⟨by omega, b, c, rfl, he, hl, fun p1 hp1 => ⟨b, c, rfl, he, hl, fun q1 hq1 => ?_⟩⟩
    walk_at "ds"
    have npq1 : p1 ≠ q1 := fun e => by subst e; rw [mup_same] at hq1; cases hq1
    refine ⟨_, _, Dn.ls (n := 59) (ds := (bless b c).map dBox) (by rw [mup_ne npq1, mup_same]) hpl, Dn.ls (n := 59) (ds := (bless b c).map dBox) mup_same hpl, (Sub.new hp1).trans (Sub.new hq1), ?_⟩
    rw [eqv_ls hpl]
    refine up.by (fun u o g => ?_) hQ
    have n1 : u ≠ p := mne g hp
    have n2 : u ≠ q := mne g hqM
    rw [mup_ne n1, mup_ne n2, mup_ne n1]; exact g
end
end K05
namespace K05
open PySem PySem.Spec PyProof.Rows L2 Dl
theorem less_few : ∀ b c : List Sn, (lessR b c).length ≤ 2 * b.length
  | [], _ => by simp [lessR]
  | _ :: _, [] => by simp [lessR]
  | p :: b, q :: c => by
    have ih := less_few b c
    have : (sless p q).length ≤ 2 := by unfold sless; split <;> (try split) <;> (try split) <;> simp
    simp [lessR]; omega
theorem bless_few {b c : List Sn} (he : b.length = c.length) (h1 : 1 ≤ b.length) : (bless b c).length ≤ 2 * b.length := by
  unfold bless
  split
  · rw [less_eq b c he]; exact less_few b c
  · simp; omega
section
variable {P : Program} {w : World} {K : PySem.W.Frag} {mg : Str → Option Value} {base : Heap} {A : Ad}
def sp_law : DSp := fun ds M Q _ => ∃ ns : List Int, ds = [.fzl (ns.map .int)] ∧ ns.length ≤ 63 ∧ Q (.bl true) M
theorem ok_law (T : Tx K mg A) : FnD P w K mg base 5 A.a_law A.d_law ["_law_script"] sp_law := by
  refine okD T.f_law.F sc_law (fun ds M Q E h => ?_) fun cdv A outer s H E ds M Q ED hr h tk hp => ?_
  · obtain ⟨ns, rfl, _⟩ := h; rfl
  · obtain ⟨ns, rfl, hl, hQ⟩ := h
    refine ⟨_, (qss_cons (qs_for hp rfl (qi_any (qe_pureL (qe_op o_add (qe_lst (qa_cons (qe_call (ok_Lcell T) (hr.mono (by decide)) (by rfl) T.f_Lcell.g T.f_Lcell.F.kp T.f_Lcell.b .nil dd0 (qa_cons (qe_var 0) (qa_cons qe_int qa_nil))) qa_nil)) (qe_slice (qe_var 0) (qo_some qe_int) (qo_some qe_int))))) (qg_name 1 sc_law.nd) (qss_cons (qs_asg (qe_pure (qe_call (ok_Ltwo_boxes T) (hr.mono (by decide)) (by rfl) T.f_Ltwo_boxes.g T.f_Ltwo_boxes.F.kp T.f_Ltwo_boxes.b .nil dd0 (qa_cons (qe_call (ok_Lnumbers T) (hr.mono (by decide)) (by rfl) T.f_Lnumbers.g T.f_Lnumbers.F.kp T.f_Lnumbers.b .nil dd0 (qa_cons (qe_var 1) (qa_cons qe_int qa_nil))) qa_nil))) (qg_tup (n := 2) rfl (qgs_cons (qg_name 2 sc_law.nd) (qgs_cons (qg_name 3 sc_law.nd) qgs_nil))))
  (qss_cons (qs_if (PW.pt (qw_or (qt_not (qt_val (qe_call (ok_Lright T) (hr.mono (by decide)) (by rfl) T.f_Lright.g T.f_Lright.F.kp T.f_Lright.b .nil dd0 (qa_cons (qe_var 2) (qa_cons (qe_var 3) qa_nil))))) (qw_or (qt_not (qt_val (qe_call (ok_Lright T) (hr.mono (by decide)) (by rfl) T.f_Lright.g T.f_Lright.F.kp T.f_Lright.b .nil dd0 (qa_cons (qe_var 3) (qa_cons (qe_var 2) qa_nil))))) (qw_or1 (qt_not (qt_val (qe_call (ok_Lright T) (hr.mono (by decide)) (by rfl) T.f_Lright.g T.f_Lright.F.kp T.f_Lright.b .nil dd0 (qa_cons (qe_var 2) (qa_cons (qe_var 2) qa_nil))))))))) (qss_one (qs_ret qe_bl)) qss_nil)
  (qss_cons (qs_set 4 sc_law.nd (qe_pure (qe_callB (c_maxL rfl) (by rfl) T.b_max PyProof.Rows.boot_max (qa_cons (qe_lc (own := [("_law_low", 5), ("_law_high", 6)]) (g := (dgTup 2 (dgCons (dgName 5) (dgCons (dgName 6) dgNil)))) (tt := dYes) rfl sc_law.nd (qi_any (qe_op o_add (qe_var 2) (qe_var 3))) (blkOk_by (own := [("_law_low", 5), ("_law_high", 6)]) (N := ["_law_script", "_law_cell_here", "_law_one", "_law_other", "_law_wide", "_law_low", "_law_high"]) (sc := defScope s_law) (by decide +kernel)) (fun _ _ _ _ _ => (qv_tup (n := 2) rfl (qvs_cons (qv_name 5 sc_law.nd) (qvs_cons (qv_name 6 sc_law.nd) qvs_nil)))) (fun _ _ _ _ _ => qts_nil) (fun _ _ _ _ _ => (qe_op o_sub (qe_var 6) (qe_var 5)))) qa_nil))))
  (qss_one (qs_if (PW.pt (qw_and (qt_cmp o_lt (qe_var 4) qe_int (nomark _)) (qw_and1 (PW.pt (qw_or (qt_not (qt_val (qe_call (ok_Lby_spots T) (hr.mono (by decide)) (by rfl) T.f_Lby_spots.g T.f_Lby_spots.F.kp T.f_Lby_spots.b .nil dd0 (qa_cons (qe_var 2) (qa_cons (qe_var 3) qa_nil))))) (qw_or1 (qt_not (qt_val (qe_call (ok_Lby_spots T) (hr.mono (by decide)) (by rfl) T.f_Lby_spots.g T.f_Lby_spots.F.kp T.f_Lby_spots.b .nil dd0 (qa_cons (qe_var 3) (qa_cons (qe_var 2) qa_nil))))))))))) (qss_one (qs_ret qe_bl)) qss_nil))))))
  (qss_one (qs_ret qe_bl))), ?_⟩
    clear tk hp hr
    walk_at "ds"
    refine ⟨ns, 0, rfl, by omega, by omega, fun p1 hp1 p2 hp2 => ?_⟩
    obtain ⟨n21, hp2⟩ := hp2
    have hcut : ∃ xs : List Int, Dl.cutD (ns.map D.int) (some 1) (some 8) = xs.map D.int ∧ xs.length ≤ 63 := by
      rw [cut_map]
      refine ⟨_, rfl, ?_⟩
      show (Dl.cutD ns (some ((1 : Nat) : Int)) (some ((8 : Nat) : Int))).length ≤ 63
      rw [cut_both]
      simp; omega
    obtain ⟨xs, ex, hx⟩ := hcut
    rw [ex, lstOf_of (ds := [.int (cellF ns 0)]) (by rw [mup_ne (Ne.symm n21), mup_same])]
    simp only
    refine ⟨by simp; omega, fun p3 hp3 => ⟨hp3.2.2, (Sub.new hp1).trans ((Sub.new (by rw [mup_ne n21]; exact hp2)).trans (Sub.new (by rw [mup_ne hp3.1, mup_ne hp3.2.1]; exact hp3.2.2))), ?_⟩⟩
    have ecs : [D.int (cellF ns 0)] ++ xs.map D.int = (cellF ns 0 :: xs).map D.int := rfl
    rw [ecs]
    refine loop_inv _ _ (fun i δ M' => (∃ x1 x2 x3 x4 x5 x6 : Option D, δ = [some (.fzl (ns.map .int)), x1, x2, x3, x4, x5, x6]) ∧ M' p3 = some (.lst ((cellF ns 0 :: xs).map D.int)) ∧ Dl.Sub M M') (fun _ _ _ _ h => h.2.1) ?_ ?_ ⟨⟨_, _, _, _, _, _, rfl⟩, by rw [mup_same], ?_⟩
    · rintro i cv δ M1 R hi hR ⟨⟨x1, x2, x3, x4, x5, x6, rfl⟩, hM3, hS⟩
      walk_at "ds"
      refine ⟨cv, 20, rfl, by omega, fun q hq => ⟨q, _, rfl, mup_same, by rw [numsF_len]; omega, fun b c he h1 h3 hb hc => ?_⟩⟩
      walk_at "ds"
      refine ⟨Sub.new hq, ?_⟩
      have e1 := bless_few he h1
      have e2 := bless_few he.symm (by omega)
      have e3 := bless_few (b := b) (c := b) rfl h1
      refine ⟨b, c, rfl, he, by omega, by omega, ?_⟩
      walk_at "ds"
      refine ⟨c, b, rfl, he.symm, by omega, by omega, ?_⟩
      walk_at "ds"
      refine ⟨b, b, rfl, rfl, by omega, by omega, ?_⟩
      walk_at "ds"
      simp only [dBox]
      walk_at "ds"
      refine ⟨by simp; omega, fun z hz => ?_⟩
      rw [← List.map_append]
      refine lc_pure dSpan (fun s => D.int (s.2 - s.1)) _ _ (fun _ => trivial) (by simp; omega) (fun s _ acc R hR => ?_) ?_
      · simp only [dSpan]
        walk_at "ds"
        exact hR
      · walk_at "ds"
        rw [maps_int]
        refine ⟨by simp; omega, fun m hm hmx => ⟨Sub.new hz, ?_⟩⟩
        by_cases h9 : m < 9
        · rw [if_pos h9]
          have hsm : ∀ s ∈ b ++ c, s.2 - s.1 ≤ 8 := fun s hs => by
            have := hmx (s.2 - s.1) (List.mem_map.mpr ⟨s, hs, rfl⟩)
            omega
          have sb : Small b := ⟨h3, fun s hs => ⟨hb s hs, hsm s (List.mem_append_left _ hs)⟩⟩
          have sc : Small c := ⟨by omega, fun s hs => ⟨hc s hs, hsm s (List.mem_append_right _ hs)⟩⟩
          refine ⟨b, c, rfl, he, h1, sb, sc, ?_⟩
          walk_at "ds"
          refine ⟨c, b, rfl, he.symm, by omega, sc, sb, ?_⟩
          walk_at "ds"
          exact hR _ _ ⟨⟨_, _, _, _, _, _, rfl⟩, hM3, hS⟩
        · rw [if_neg h9]
          exact hR _ _ ⟨⟨_, _, _, _, _, _, rfl⟩, hM3, hS⟩
    · rintro δ M1 ⟨⟨x1, x2, x3, x4, x5, x6, rfl⟩, hM3, hS⟩
      walk_at "ds"
      exact up.by hS hQ
    · exact Sub.new hp3.2.2
end
end K05
set_option maxHeartbeats 0
namespace K05
open PySem PySem.Spec PyProof.Rows L2 Dl
def dd_spans_meet : He.DefD := ⟨("spans_meet", none), "spans_meet", "spans_meet", defArgs s_spans_meet, defBody s_spans_meet, defScope s_spans_meet, [], []⟩
def dd_span_shared : He.DefD := ⟨("span_shared", none), "span_shared", "span_shared", defArgs s_span_shared, defBody s_span_shared, defScope s_span_shared, [], []⟩
def dd_span_less : He.DefD := ⟨("span_less", none), "span_less", "span_less", defArgs s_span_less, defBody s_span_less, defScope s_span_less, [], []⟩
def dd_boxes_meet : He.DefD := ⟨("boxes_meet", none), "boxes_meet", "boxes_meet", defArgs s_boxes_meet, defBody s_boxes_meet, defScope s_boxes_meet, [], []⟩
def dd_box_less : He.DefD := ⟨("box_less", none), "box_less", "box_less", defArgs s_box_less, defBody s_box_less, defScope s_box_less, [], []⟩
def dd_Lcell : He.DefD := ⟨("_law_cell", none), "_law_cell", "_law_cell", defArgs s_Lcell, defBody s_Lcell, defScope s_Lcell, [], []⟩
def dd_Lnumbers : He.DefD := ⟨("_law_numbers", none), "_law_numbers", "_law_numbers", defArgs s_Lnumbers, defBody s_Lnumbers, defScope s_Lnumbers, [], []⟩
def dd_Lone_span : He.DefD := ⟨("_law_one_span", none), "_law_one_span", "_law_one_span", defArgs s_Lone_span, defBody s_Lone_span, defScope s_Lone_span, [], []⟩
def dd_Ltwo_spans : He.DefD := ⟨("_law_two_spans", none), "_law_two_spans", "_law_two_spans", defArgs s_Ltwo_spans, defBody s_Ltwo_spans, defScope s_Ltwo_spans, [], []⟩
def dd_Ltwo_boxes : He.DefD := ⟨("_law_two_boxes", none), "_law_two_boxes", "_law_two_boxes", defArgs s_Ltwo_boxes, defBody s_Ltwo_boxes, defScope s_Ltwo_boxes, [], []⟩
def dd_Ldue : He.DefD := ⟨("_law_due", none), "_law_due", "_law_due", defArgs s_Ldue, defBody s_Ldue, defScope s_Ldue, [], []⟩
def dd_Lspots : He.DefD := ⟨("_law_spots", none), "_law_spots", "_law_spots", defArgs s_Lspots, defBody s_Lspots, defScope s_Lspots, [], []⟩
def dd_Lby_spots : He.DefD := ⟨("_law_by_spots", none), "_law_by_spots", "_law_by_spots", defArgs s_Lby_spots, defBody s_Lby_spots, defScope s_Lby_spots, [], []⟩
def dd_Lright : He.DefD := ⟨("_law_right", none), "_law_right", "_law_right", defArgs s_Lright, defBody s_Lright, defScope s_Lright, [], []⟩
def dd_law : He.DefD := ⟨("law", none), "law", "law", defArgs s_law, defBody s_law, defScope s_law, [], []⟩
def fn : List He.DefD := [dd_spans_meet, dd_span_shared, dd_span_less, dd_boxes_meet, dd_box_less, dd_Lcell, dd_Lnumbers, dd_Lone_span, dd_Ltwo_spans, dd_Ltwo_boxes, dd_Ldue, dd_Lspots, dd_Lby_spots, dd_Lright, dd_law]
def fa : List He.Fa := [.glo "spans_meet", .glo "span_shared", .glo "span_less", .glo "boxes_meet", .glo "box_less", .glo "_law_cell", .glo "_law_numbers", .glo "_law_one_span", .glo "_law_two_spans", .glo "_law_two_boxes", .glo "_law_due", .glo "_law_spots", .glo "_law_by_spots", .glo "_law_right", .glo "law", .free "abs", .free "all", .free "int", .free "isinstance", .free "len", .free "list", .free "max", .free "min", .free "range", .free "sorted", .free "tuple", .free "zip"]
abbrev R : PySem.W.OpenRow := PySem.W.OpenLaw.row PySem.Challenge.rw_twigstore_k05_whole_boxes_less_boxes
abbrev hk : PySem.W.Hook := He.hookD 4 fa fn
def ob (s : PySem.W.SharedT) : He.AlD := He.obsDG 4 fa fn (HandSHeadRun.getT s)
theorem ob_eq (s : PySem.W.SharedT) : ob s = hk.obs s.abs := He.obsDG_eq (HandSHeadRun.getT_eq s)
def loose : List Str := ["spans_meet", "span_shared", "span_less", "boxes_meet", "box_less", "_law_cell", "_law_numbers", "_law_one_span", "_law_two_spans", "_law_two_boxes", "_law_due", "_law_spots", "_law_by_spots", "_law_right"]
theorem run (w : World) : HandSHeadRun.RunEq R (PySem.W.view R.prog [17]) hk ob 1500 loose w := by
  intro os
  kernel_rfl
theorem facts {P : Program} {w : World} {K : PySem.W.Frag} {h : Heap} {mg : Str → Option Value} {f : Addr} (X : K.In h) (G : h.Ns mainGlobals mg) (hfa : mg ("law" : Str) = some (.ref f)) (c : He.SaysD fa fn K) :
    ∃ fd : FuncData, (∀ (s : Shared) (v : Value), BindsTo s fd ⟨[v], []⟩ [("_law_script", v)]) ∧ ∀ base : Heap, K.In base → base.Ns mainGlobals mg → FnD P w K mg base 5 f fd ["_law_script"] sp_law := by
  obtain ⟨fd_spans_meet, F_spans_meet⟩ := c.def_ 0 (d := dd_spans_meet) rfl
  obtain ⟨fd_span_shared, F_span_shared⟩ := c.def_ 1 (d := dd_span_shared) rfl
  obtain ⟨fd_span_less, F_span_less⟩ := c.def_ 2 (d := dd_span_less) rfl
  obtain ⟨fd_boxes_meet, F_boxes_meet⟩ := c.def_ 3 (d := dd_boxes_meet) rfl
  obtain ⟨fd_box_less, F_box_less⟩ := c.def_ 4 (d := dd_box_less) rfl
  obtain ⟨fd_Lcell, F_Lcell⟩ := c.def_ 5 (d := dd_Lcell) rfl
  obtain ⟨fd_Lnumbers, F_Lnumbers⟩ := c.def_ 6 (d := dd_Lnumbers) rfl
  obtain ⟨fd_Lone_span, F_Lone_span⟩ := c.def_ 7 (d := dd_Lone_span) rfl
  obtain ⟨fd_Ltwo_spans, F_Ltwo_spans⟩ := c.def_ 8 (d := dd_Ltwo_spans) rfl
  obtain ⟨fd_Ltwo_boxes, F_Ltwo_boxes⟩ := c.def_ 9 (d := dd_Ltwo_boxes) rfl
  obtain ⟨fd_Ldue, F_Ldue⟩ := c.def_ 10 (d := dd_Ldue) rfl
  obtain ⟨fd_Lspots, F_Lspots⟩ := c.def_ 11 (d := dd_Lspots) rfl
  obtain ⟨fd_Lby_spots, F_Lby_spots⟩ := c.def_ 12 (d := dd_Lby_spots) rfl
  obtain ⟨fd_Lright, F_Lright⟩ := c.def_ 13 (d := dd_Lright) rfl
  obtain ⟨fd_law, F_law⟩ := c.def_ 14 (d := dd_law) rfl
  have D_spans_meet : Dfn K mg "spans_meet" "spans_meet" s_spans_meet ["one", "other"] _ fd_spans_meet := dfn_of X G F_spans_meet (c.fact 0 (f := .glo "spans_meet") rfl) fun _ _ _ _ _ _ us hl => match us, hl with | [_, _], _ => rfl
  have D_span_shared : Dfn K mg "span_shared" "span_shared" s_span_shared ["one", "other"] _ fd_span_shared := dfn_of X G F_span_shared (c.fact 1 (f := .glo "span_shared") rfl) fun _ _ _ _ _ _ us hl => match us, hl with | [_, _], _ => rfl
  have D_span_less : Dfn K mg "span_less" "span_less" s_span_less ["one", "other"] _ fd_span_less := dfn_of X G F_span_less (c.fact 2 (f := .glo "span_less") rfl) fun _ _ _ _ _ _ us hl => match us, hl with | [_, _], _ => rfl
  have D_boxes_meet : Dfn K mg "boxes_meet" "boxes_meet" s_boxes_meet ["one", "other"] _ fd_boxes_meet := dfn_of X G F_boxes_meet (c.fact 3 (f := .glo "boxes_meet") rfl) fun _ _ _ _ _ _ us hl => match us, hl with | [_, _], _ => rfl
  have D_box_less : Dfn K mg "box_less" "box_less" s_box_less ["one", "other"] _ fd_box_less := dfn_of X G F_box_less (c.fact 4 (f := .glo "box_less") rfl) fun _ _ _ _ _ _ us hl => match us, hl with | [_, _], _ => rfl
  have D_Lcell : Dfn K mg "_law_cell" "_law_cell" s_Lcell ["_law_script", "_law_k"] _ fd_Lcell := dfn_of X G F_Lcell (c.fact 5 (f := .glo "_law_cell") rfl) fun _ _ _ _ _ _ us hl => match us, hl with | [_, _], _ => rfl
  have D_Lnumbers : Dfn K mg "_law_numbers" "_law_numbers" s_Lnumbers ["_law_cell_here", "_law_many"] _ fd_Lnumbers := dfn_of X G F_Lnumbers (c.fact 6 (f := .glo "_law_numbers") rfl) fun _ _ _ _ _ _ us hl => match us, hl with | [_, _], _ => rfl
  have D_Lone_span : Dfn K mg "_law_one_span" "_law_one_span" s_Lone_span ["_law_x", "_law_y", "_law_way"] _ fd_Lone_span := dfn_of X G F_Lone_span (c.fact 7 (f := .glo "_law_one_span") rfl) fun _ _ _ _ _ _ us hl => match us, hl with | [_, _, _], _ => rfl
  have D_Ltwo_spans : Dfn K mg "_law_two_spans" "_law_two_spans" s_Ltwo_spans ["_law_xs"] _ fd_Ltwo_spans := dfn_of X G F_Ltwo_spans (c.fact 8 (f := .glo "_law_two_spans") rfl) fun _ _ _ _ _ _ us hl => match us, hl with | [_], _ => rfl
  have D_Ltwo_boxes : Dfn K mg "_law_two_boxes" "_law_two_boxes" s_Ltwo_boxes ["_law_xs"] _ fd_Ltwo_boxes := dfn_of X G F_Ltwo_boxes (c.fact 9 (f := .glo "_law_two_boxes") rfl) fun _ _ _ _ _ _ us hl => match us, hl with | [_], _ => rfl
  have D_Ldue : Dfn K mg "_law_due" "_law_due" s_Ldue ["_law_one", "_law_other"] _ fd_Ldue := dfn_of X G F_Ldue (c.fact 10 (f := .glo "_law_due") rfl) fun _ _ _ _ _ _ us hl => match us, hl with | [_, _], _ => rfl
  have D_Lspots : Dfn K mg "_law_spots" "_law_spots" s_Lspots ["_law_box"] _ fd_Lspots := dfn_of X G F_Lspots (c.fact 11 (f := .glo "_law_spots") rfl) fun _ _ _ _ _ _ us hl => match us, hl with | [_], _ => rfl
  have D_Lby_spots : Dfn K mg "_law_by_spots" "_law_by_spots" s_Lby_spots ["_law_one", "_law_other"] _ fd_Lby_spots := dfn_of X G F_Lby_spots (c.fact 12 (f := .glo "_law_by_spots") rfl) fun _ _ _ _ _ _ us hl => match us, hl with | [_, _], _ => rfl
  have D_Lright : Dfn K mg "_law_right" "_law_right" s_Lright ["_law_one", "_law_other"] _ fd_Lright := dfn_of X G F_Lright (c.fact 13 (f := .glo "_law_right") rfl) fun _ _ _ _ _ _ us hl => match us, hl with | [_, _], _ => rfl
  have D_law : Dfn K mg "law" "law" s_law ["_law_script"] _ fd_law := dfn_of X G F_law (c.fact 14 (f := .glo "law") rfl) fun _ _ _ _ _ _ us hl => match us, hl with | [_], _ => rfl
  have e := hfa.symm.trans D_law.g
  cases e
  have b := FunD.bindsA (ps := ["_law_script"]) F_law fun _ _ _ _ _ _ us hl => match us, hl with | [_], _ => rfl
  have T : Tx K mg ⟨_, fd_spans_meet, _, fd_span_shared, _, fd_span_less, _, fd_boxes_meet, _, fd_box_less, _, fd_Lcell, _, fd_Lnumbers, _, fd_Lone_span, _, fd_Ltwo_spans, _, fd_Ltwo_boxes, _, fd_Ldue, _, fd_Lspots, _, fd_Lby_spots, _, fd_Lright, _, fd_law⟩ := ⟨D_spans_meet, D_span_shared, D_span_less, D_boxes_meet, D_box_less, D_Lcell, D_Lnumbers, D_Lone_span, D_Ltwo_spans, D_Ltwo_boxes, D_Ldue, D_Lspots, D_Lby_spots, D_Lright, D_law, He.free_ok X G (c.fact 15 (f := .free "abs") rfl), He.free_ok X G (c.fact 16 (f := .free "all") rfl), He.free_ok X G (c.fact 17 (f := .free "int") rfl), He.free_ok X G (c.fact 18 (f := .free "isinstance") rfl), He.free_ok X G (c.fact 19 (f := .free "len") rfl), He.free_ok X G (c.fact 20 (f := .free "list") rfl), He.free_ok X G (c.fact 21 (f := .free "max") rfl), He.free_ok X G (c.fact 22 (f := .free "min") rfl), He.free_ok X G (c.fact 23 (f := .free "range") rfl), He.free_ok X G (c.fact 24 (f := .free "sorted") rfl), He.free_ok X G (c.fact 25 (f := .free "tuple") rfl), He.free_ok X G (c.fact 26 (f := .free "zip") rfl)⟩
  exact ⟨fd_law, fun s v => b s [v] rfl, fun base _ _ => ok_law T⟩
end K05
open PySem PySem.W PySem.Calls PyProof.Rows
theorem PySem.Challenge.cw_twigstore_k05_whole_boxes_less_boxes_holds : PySem.Challenge.rw_twigstore_k05_whole_boxes_less_boxes.Holds := by
  w_on; o_law
  refine HandSHeadRun.head_any (r := OpenLaw.row PySem.Challenge.rw_twigstore_k05_whole_boxes_less_boxes) (q := view (OpenLaw.row PySem.Challenge.rw_twigstore_k05_whole_boxes_less_boxes).prog [17]) (H := K05.hk) (ob := K05.ob) (M := 1500) (loose := K05.loose) (d := HandSHeadRun.topDef (OpenLaw.row PySem.Challenge.rw_twigstore_k05_whole_boxes_less_boxes).prog 17) (kwd := []) K05.ob_eq
    (by kernel_rfl) (fun s => by kernel_rfl) K05.run (by kernel_rfl) (by kernel_rfl) (by kernel_rfl) (by rfl) (by first | assumption | decide +kernel) (by decide +kernel) ⟨rfl, rfl, rfl, rfl, rfl, by decide +kernel⟩ ?hw ?hc
  case hw => w_witness2
  case hc =>
    refine Dl.walk_w (l := PySem.Challenge.rw_twigstore_k05_whole_boxes_less_boxes) (n := 63) (k := 5) (x := "_law_script") (p := K05.sp_law) rfl (by decide) (by kernel_rfl) ⟨by decide, by decide, by decide⟩ (fun ns M Q E h q => ⟨ns, rfl, h, q _⟩) ?F
    intro w mg fa h Y G hmg0
    obtain ⟨K, KX, c⟩ := Y
    have hmg : mg ("law" : PySem.Str) = some (.ref fa) := by
      have e : (HandSHeadRun.topDef (OpenLaw.row PySem.Challenge.rw_twigstore_k05_whole_boxes_less_boxes).prog 17).name = ("law" : PySem.Str) := by kernel_rfl
      rw [← e]
      exact hmg0
    obtain ⟨fd, hb, hF⟩ := K05.facts (P := (PySem.Challenge.rw_twigstore_k05_whole_boxes_less_boxes).prog) (w := w) KX G hmg c
    exact ⟨K, fd, KX, hb, hF⟩
