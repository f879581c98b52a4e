import PyProof.Rows.All
import HandS.ForMost
import HandS.Wide
import HandS.EndBits
import HandS.CallSlots
import HandS.WordsExc
import HandS.TryOnly
import HandS.RevRange
import HandS.Rev
import HandS.Zip
import HandS.IsInst
import HandS.Style
import KE.DataEq
import HandS.TupAny
import HandS.TupMul
import HandS.Conv
import PyProof.ReprRoads
import HandS.RaiseMore
import PyProof.MaxThree
import PySem.Challenge.RW_kettlerow_k67_places_that_bind
set_option Elab.async false
set_option linter.all false
set_option maxRecDepth 100000
set_option maxHeartbeats 4000000
/-! Z: each def is given a plain function over values and a store of mutable cells; one lemma a construct shows that the code computes it. -/
namespace Z
open PySem PySem.Spec PyProof.Rows L2

/-! ### values, store, results -/
/-- frozen data; a mutable list (by its number in the store); a tuple that holds such; the script -/
inductive Val where
  | d (x : PyData)
  | c (n : Nat)
  | t (xs : List Val)
  | s (ns : List Int)
abbrev Store := List (Option (List Val))
abbrev Env := List (Option Val)
structure Exn where
  cls : Str
  what : Val
inductive R (α : Type) where
  | ok (a : α) (st : Store)
  | ex (e : Exn) (st : Store)
  | no
def R.bind {α β : Type} (r : R α) (k : α → Store → R β) : R β := match r with
  | .ok a st => k a st
  | .ex e st => .ex e st
  | .no => .no
theorem R.bind_ok {α β : Type} (a : α) (st : Store) (k : α → Store → R β) : (R.ok a st).bind k = k a st := rfl
theorem R.bind_ex {α β : Type} (e : Exn) (st : Store) (k : α → Store → R β) : (R.ex e st).bind k = .ex e st := rfl
theorem R.bind_no {α β : Type} (k : α → Store → R β) : (R.no : R α).bind k = .no := rfl

/-! ### what a value stands for -/
/-- the ghost: what never changes, where the cells lie, what is kept for now -/
structure Gh where
  F : Hp
  ρ : List Addr
  P : Hp
def Sub (H H' : Hp) : Prop := ∀ a o, H a = some o → H' a = some o
theorem Sub.refl (H : Hp) : Sub H H := fun _ _ h => h
theorem Sub.trans {H H1 H2 : Hp} (a : Sub H H1) (b : Sub H1 H2) : Sub H H2 := fun x o h => b x o (a x o h)
theorem Sub.new {H : Hp} {p : Addr} {o : HO} (h : H p = none) : Sub H (upd H p o) := fun a u e => by
  rw [upd_ne (ne_of_none e h)]
  exact e
theorem Sub.none {H H' : Hp} {p : Addr} (e : Sub H H') (h : H' p = Option.none) : H p = Option.none := by
  cases q : H p with
  | none => rfl
  | some o => rw [e p o q] at h; cases h
def Pre (ρ ρ' : List Addr) : Prop := ∀ (n : Nat) (a : Addr), ρ[n]? = some a → ρ'[n]? = some a
theorem Pre.refl (ρ : List Addr) : Pre ρ ρ := fun _ _ h => h
theorem Pre.trans {a b c : List Addr} (h : Pre a b) (k : Pre b c) : Pre a c := fun n x e => k n x (h n x e)
theorem Pre.app (ρ r : List Addr) : Pre ρ (ρ ++ r) := fun n a e => by
  rw [List.getElem?_append_left (List.getElem?_eq_some_iff.mp e).1]
  exact e
structure Le0 (g g' : Gh) : Prop where
  F : Sub g.F g'.F
  ρ : Pre g.ρ g'.ρ
structure Le (g g' : Gh) : Prop extends Le0 g g' where
  P : g'.P = g.P
theorem Le.mk' {g g' : Gh} (h1 : Sub g.F g'.F) (h2 : Pre g.ρ g'.ρ) (h3 : g'.P = g.P) : Le g g' := ⟨⟨h1, h2⟩, h3⟩
theorem Le.refl (g : Gh) : Le g g := .mk' (Sub.refl _) (Pre.refl _) rfl
theorem Le.trans {a b c : Gh} (h : Le a b) (k : Le b c) : Le a c := .mk' (h.F.trans k.F) (h.ρ.trans k.ρ) (k.P.trans h.P)

section
variable {K : PySem.W.Frag}
theorem Rd.sub {H H' : Hp} {a : Addr} {u : HO} (e : Sub H H') (h : Rd H a u) : Rd H' a u := by
  rcases h with h | ⟨o, h⟩
  · exact Or.inl (e a _ h)
  · exact Or.inr ⟨o, e a _ h⟩
theorem sqL_sub {H H' : Hp} {a : Addr} {xs : List V} (e : Sub H H') (h : SqL K H a xs) : SqL K H' a xs := by
  rcases h with h | h
  · exact Or.inl (Rd.sub e h)
  · exact Or.inr h
theorem sqT_sub {H H' : Hp} {a : Addr} {xs : List V} (e : Sub H H') (h : SqT K H a xs) : SqT K H' a xs := by
  rcases h with h | h
  · exact Or.inl (Rd.sub e h)
  · exact Or.inr h
mutual
inductive Dx (K : PySem.W.Frag) (H : Hp) : V → PyData → Prop
  | non : Dx K H .non .none
  | bl (b : Bool) : Dx K H (.bl b) (.bool b)
  | int (i : Int) : Dx K H (.int i) (.int i)
  | str (x : Str) : Dx K H (.str x) (.str x)
  | lst {a : Addr} {xs : List V} {ds : List PyData} : H a = some (.lst xs) → DxAll K H xs ds → Dx K H (.ref a) (.list ds)
  | tup {a : Addr} {xs : List V} {ds : List PyData} : SqT K H a xs → DxAll K H xs ds → Dx K H (.ref a) (.tuple ds)
inductive DxAll (K : PySem.W.Frag) (H : Hp) : List V → List PyData → Prop
  | nil : DxAll K H [] []
  | cons {v : V} {vs : List V} {d : PyData} {ds : List PyData} : Dx K H v d → DxAll K H vs ds → DxAll K H (v :: vs) (d :: ds)
end
mutual
theorem dp_sub {H H' : Hp} (e : Sub H H') : ∀ {v : V} {d : PyData}, Dx K H v d → Dx K H' v d
  | _, _, .non => .non
  | _, _, .bl b => .bl b
  | _, _, .int i => .int i
  | _, _, .str x => .str x
  | _, _, .lst h r => .lst (e _ _ h) (dpAll_sub e r)
  | _, _, .tup h r => .tup (sqT_sub e h) (dpAll_sub e r)
theorem dpAll_sub {H H' : Hp} (e : Sub H H') : ∀ {vs : List V} {ds : List PyData}, DxAll K H vs ds → DxAll K H' vs ds
  | _, _, .nil => .nil
  | _, _, .cons h r => .cons (dp_sub e h) (dpAll_sub e r)
end
mutual
theorem dx_dp {H : Hp} : ∀ {v : V} {d : PyData}, Dx K H v d → Dp K H v d
  | _, _, .non => .non
  | _, _, .bl b => .bl b
  | _, _, .int i => .int i
  | _, _, .str x => .str x
  | _, _, .lst h r => .lst (SqL.of h) (dxAll_dp r)
  | _, _, .tup h r => .tup h (dxAll_dp r)
theorem dxAll_dp {H : Hp} : ∀ {vs : List V} {ds : List PyData}, DxAll K H vs ds → DpAll K H vs ds
  | _, _, .nil => .nil
  | _, _, .cons h r => .cons (dx_dp h) (dxAll_dp r)
end
mutual
inductive VR (K : PySem.W.Frag) (g : Gh) : Val → V → Prop
  | d {x : PyData} {v : V} : Dx K g.F v x → VR K g (.d x) v
  | c {n : Nat} {a : Addr} : g.ρ[n]? = some a → VR K g (.c n) (.ref a)
  | t {a : Addr} {xs : List Val} {vs : List V} : SqT K g.F a vs → VRs K g xs vs → VR K g (.t xs) (.ref a)
  | s {a : Addr} {ns : List Int} : SqL K g.F a (ns.map V.int) → VR K g (.s ns) (.ref a)
inductive VRs (K : PySem.W.Frag) (g : Gh) : List Val → List V → Prop
  | nil : VRs K g [] []
  | cons {x : Val} {v : V} {xs : List Val} {vs : List V} : VR K g x v → VRs K g xs vs → VRs K g (x :: xs) (v :: vs)
end
mutual
theorem VR.mono0 {g g' : Gh} (e : Le0 g g') : ∀ {x : Val} {v : V}, VR K g x v → VR K g' x v
  | _, _, .d h => .d (dp_sub e.F h)
  | _, _, .c h => .c (e.ρ _ _ h)
  | _, _, .t h r => .t (sqT_sub e.F h) (VRs.mono0 e r)
  | _, _, .s h => .s (sqL_sub e.F h)
theorem VRs.mono0 {g g' : Gh} (e : Le0 g g') : ∀ {xs : List Val} {vs : List V}, VRs K g xs vs → VRs K g' xs vs
  | _, _, .nil => .nil
  | _, _, .cons h r => .cons (VR.mono0 e h) (VRs.mono0 e r)
end
theorem VR.mono {g g' : Gh} (e : Le g g') {x : Val} {v : V} (h : VR K g x v) : VR K g' x v := h.mono0 e.toLe0
theorem VRs.mono {g g' : Gh} (e : Le g g') {xs : List Val} {vs : List V} (h : VRs K g xs vs) : VRs K g' xs vs := h.mono0 e.toLe0
theorem VRs.length {g : Gh} : ∀ {xs : List Val} {vs : List V}, VRs K g xs vs → xs.length = vs.length
  | _, _, .nil => rfl
  | _, _, .cons _ r => by rw [List.length_cons, List.length_cons, VRs.length r]
theorem VRs.get {g : Gh} : ∀ {xs : List Val} {vs : List V} {i : Nat} {x : Val}, VRs K g xs vs → xs[i]? = some x → ∃ v, vs[i]? = some v ∧ VR K g x v
  | _, _, _, _, .nil, e => by simp at e
  | _, _, 0, _, .cons r _, e => by simp at e; subst e; exact ⟨_, rfl, r⟩
  | _, _, i + 1, x, .cons _ t, e => by
    obtain ⟨u, h1, h2⟩ := VRs.get (i := i) (x := x) t (by simpa using e)
    exact ⟨u, by simpa using h1, h2⟩
theorem VRs.getV {g : Gh} : ∀ {xs : List Val} {vs : List V} {i : Nat} {v : V}, VRs K g xs vs → vs[i]? = some v → ∃ x, xs[i]? = some x ∧ VR K g x v
  | _, _, _, _, .nil, e => by simp at e
  | _, _, 0, _, .cons r _, e => by simp at e; subst e; exact ⟨_, rfl, r⟩
  | _, _, i + 1, x, .cons _ t, e => by
    obtain ⟨u, h1, h2⟩ := VRs.getV (i := i) (v := x) t (by simpa using e)
    exact ⟨u, by simpa using h1, h2⟩
theorem VRs.append {g : Gh} : ∀ {xs ys : List Val} {vs ws : List V}, VRs K g xs vs → VRs K g ys ws → VRs K g (xs ++ ys) (vs ++ ws)
  | _, _, _, _, .nil, s => s
  | _, _, _, _, .cons r t, s => .cons r (VRs.append t s)
theorem VRs.take {g : Gh} : ∀ {xs : List Val} {vs : List V} (n : Nat), VRs K g xs vs → VRs K g (xs.take n) (vs.take n)
  | _, _, 0, _ => by rw [List.take_zero, List.take_zero]; exact .nil
  | _, _, _ + 1, .nil => .nil
  | _, _, n + 1, .cons r t => .cons r (VRs.take n t)
theorem VRs.drop {g : Gh} : ∀ {xs : List Val} {vs : List V} (n : Nat), VRs K g xs vs → VRs K g (xs.drop n) (vs.drop n)
  | _, _, 0, r => r
  | _, _, _ + 1, .nil => .nil
  | _, _, n + 1, .cons _ t => VRs.drop n t
theorem VRs.set {g : Gh} {x : Val} {v : V} (r : VR K g x v) : ∀ {xs : List Val} {vs : List V} (i : Nat), VRs K g xs vs → VRs K g (xs.set i x) (vs.set i v)
  | _, _, _, .nil => .nil
  | _, _, 0, .cons _ t => .cons r t
  | _, _, i + 1, .cons q t => .cons q (VRs.set r i t)
theorem VRs.reverse {g : Gh} {xs : List Val} {vs : List V} (h : VRs K g xs vs) : VRs K g xs.reverse vs.reverse := by
  have go : ∀ {xs : List Val} {vs : List V}, VRs K g xs vs → VRs K g xs.reverse vs.reverse := by
    intro xs
    induction xs with
    | nil => intro vs h; cases h; exact .nil
    | cons x xs ih =>
      intro vs h
      cases h with
      | cons r t =>
        rw [List.reverse_cons, List.reverse_cons]
        exact VRs.append (ih t) (.cons r .nil)
  exact go h
theorem VRs.rep {g : Gh} {xs : List Val} {vs : List V} (h : VRs K g xs vs) : ∀ k : Nat, VRs K g (List.replicate k xs).flatten (List.replicate k vs).flatten
  | 0 => .nil
  | k + 1 => by
    rw [List.replicate_succ, List.replicate_succ, List.flatten_cons, List.flatten_cons]
    exact VRs.append h (VRs.rep h k)
theorem VRs.ofDp {g : Gh} : ∀ {vs : List V} {ds : List PyData}, DxAll K g.F vs ds → VRs K g (ds.map Val.d) vs
  | _, _, .nil => .nil
  | _, _, .cons h r => .cons (.d h) (VRs.ofDp r)
/-- all of some values frozen -/
def allD : List Val → Option (List PyData)
  | [] => some []
  | .d x :: xs => match allD xs with
    | some ds => some (x :: ds)
    | none => none
  | _ :: _ => none
theorem allD_map : ∀ ds : List PyData, allD (ds.map Val.d) = some ds
  | [] => rfl
  | d :: ds => by
    show (match allD (ds.map Val.d) with | some ds => some (d :: ds) | none => none) = some (d :: ds)
    rw [allD_map ds]
theorem allD_eq : ∀ {xs : List Val} {ds : List PyData}, allD xs = some ds → xs = ds.map Val.d
  | [], ds, h => by cases h; rfl
  | .d x :: xs, ds, h => by
    have h' : (match allD xs with | some ds => some (x :: ds) | none => none) = some ds := h
    cases q : allD xs with
    | none => rw [q] at h'; cases h'
    | some es =>
      rw [q] at h'
      cases h'
      rw [allD_eq q]
      rfl
  | .c n :: xs, ds, h => by cases h
  | .t ys :: xs, ds, h => by cases h
  | .s ys :: xs, ds, h => by cases h
theorem VRs.allD {g : Gh} : ∀ {xs : List Val} {vs : List V} {ds : List PyData}, VRs K g xs vs → Z.allD xs = some ds → DxAll K g.F vs ds := by
  intro xs
  induction xs with
  | nil => intro vs ds h e; cases h; cases e; exact .nil
  | cons x xs ih =>
    intro vs ds h e
    cases h with
    | cons r t =>
      cases r with
      | d hd =>
        rename_i y
        have e' : (match Z.allD xs with | some ds => some (y :: ds) | none => none) = some ds := e
        cases q : Z.allD xs with
        | none => rw [q] at e'; cases e'
        | some es =>
          rw [q] at e'
          cases e'
          exact .cons hd (ih t q)
      | c _ => cases e
      | t _ _ => cases e
      | s _ => cases e

/-! ### the state -/
structure SR (K : PySem.W.Frag) (g : Gh) (st : Store) (H : Hp) : Prop where
  ext : Sub g.F H
  kept : Sub g.P H
  keptF : ∀ a, g.P a ≠ none → g.F a = none
  keptρ : ∀ (n : Nat) (a : Addr), g.ρ[n]? = some a → g.P a = none
  len : g.ρ.length = st.length
  inj : ∀ (n m : Nat) (a : Addr), g.ρ[n]? = some a → g.ρ[m]? = some a → n = m
  there : ∀ (n : Nat) (a : Addr), g.ρ[n]? = some a → H a ≠ none
  live : ∀ (n : Nat) (xs : List Val), st[n]? = some (some xs) → ∃ a vs, g.ρ[n]? = some a ∧ H a = some (.lst vs) ∧ VRs K g xs vs ∧ g.F a = none
structure ER (K : PySem.W.Frag) (g : Gh) (env : Env) (σ : L2.St) : Prop where
  len : env.length = σ.length
  get : ∀ (i : Nat) (x : Val), env[i]? = some (some x) → ∃ v, σ[i]? = some (some v) ∧ VR K g x v
theorem ER.mono0 {g g' : Gh} {env : Env} {σ : L2.St} (e : Le0 g g') (h : ER K g env σ) : ER K g' env σ :=
  ⟨h.len, fun i x q => let ⟨v, h1, h2⟩ := h.get i x q; ⟨v, h1, h2.mono0 e⟩⟩
theorem ER.mono {g g' : Gh} {env : Env} {σ : L2.St} (e : Le g g') (h : ER K g env σ) : ER K g' env σ := h.mono0 e.toLe0
theorem ER.set {g : Gh} {env : Env} {σ : L2.St} (h : ER K g env σ) (i : Nat) {x : Val} {v : V} (r : VR K g x v) : ER K g (env.set i (some x)) (σ.set i (some v)) := by
  refine ⟨by rw [List.length_set, List.length_set, h.len], fun j y q => ?_⟩
  by_cases hj : i = j
  · subst hj
    by_cases hl : i < env.length
    · rw [List.getElem?_set_self hl] at q
      cases q
      exact ⟨v, by rw [List.getElem?_set_self (by rw [← h.len]; exact hl)], r⟩
    · rw [List.getElem?_eq_none (by rw [List.length_set]; omega)] at q
      cases q
  · rw [List.getElem?_set_ne hj] at q
    obtain ⟨w, h1, h2⟩ := h.get j y q
    exact ⟨w, by rw [List.getElem?_set_ne hj]; exact h1, h2⟩
theorem ER.unset {g : Gh} {env : Env} {σ : L2.St} (h : ER K g env σ) (i : Nat) : ER K g (env.set i none) (σ.set i none) := by
  refine ⟨by rw [List.length_set, List.length_set, h.len], fun j y q => ?_⟩
  by_cases hj : i = j
  · subst hj
    by_cases hl : i < env.length
    · rw [List.getElem?_set_self hl] at q
      cases q
    · rw [List.getElem?_eq_none (by rw [List.length_set]; omega)] at q
      cases q
  · rw [List.getElem?_set_ne hj] at q
    obtain ⟨w, h1, h2⟩ := h.get j y q
    exact ⟨w, by rw [List.getElem?_set_ne hj]; exact h1, h2⟩
/-- the slots of a comprehension's own names forgotten -/
def wipeE (env : Env) : List Nat → Env
  | [] => env
  | v :: vs => (wipeE env vs).set v none
theorem ER.wipe {g : Gh} {env : Env} {σ : L2.St} (h : ER K g env σ) : ∀ vs : List Nat, ER K g (wipeE env vs) (L2.wipe σ vs)
  | [] => h
  | v :: vs => (ER.wipe h vs).unset v
/-- where a new object lies -/
theorem SR.newAt {g : Gh} {st : Store} {H : Hp} {p : Addr} (s : SR K g st H) (hp : H p = none) : g.F p = none ∧ g.P p = none ∧ ∀ (n : Nat) (a : Addr), g.ρ[n]? = some a → a ≠ p :=
  ⟨s.ext.none hp, s.kept.none hp, fun n a e z => s.there n a e (z ▸ hp)⟩
theorem sub_upd {F H : Hp} {p : Addr} {o : HO} (h : Sub F H) : Sub (upd F p o) (upd H p o) := fun a u e => by
  by_cases ha : a = p
  · subst ha
    rw [upd_same] at e ⊢
    exact e
  · rw [upd_ne ha] at e ⊢
    exact h a u e
theorem sub_updR {F H : Hp} {p : Addr} {o : HO} (h : Sub F H) (n : F p = none) : Sub F (upd H p o) := fun a u e => by
  rw [upd_ne (ne_of_none e n)]
  exact h a u e
/-- a new frozen thing -/
def Gh.put (g : Gh) (p : Addr) (o : HO) : Gh := ⟨upd g.F p o, g.ρ, g.P⟩
theorem Gh.put_le {g : Gh} {p : Addr} {o : HO} (h : g.F p = none) : Le g (g.put p o) := .mk' (Sub.new h) (Pre.refl _) rfl
theorem SR.frozen {g : Gh} {st : Store} {H : Hp} {p : Addr} (s : SR K g st H) (hp : H p = none) (o : HO) : Le g (g.put p o) ∧ SR K (g.put p o) st (upd H p o) := by
  obtain ⟨hF, hP, hr⟩ := s.newAt hp
  have le : Le g (g.put p o) := Gh.put_le hF
  refine ⟨le, ⟨sub_upd s.ext, sub_updR s.kept hP, fun a e => ?_, s.keptρ, s.len, s.inj, fun n a e => ?_, fun n xs e => ?_⟩⟩
  · have ha : a ≠ p := fun z => e (by rw [z]; exact hP)
    show upd g.F p o a = none
    rw [upd_ne ha]
    exact s.keptF a e
  · rw [upd_ne (hr n a e)]
    exact s.there n a e
  · obtain ⟨a, vs, h1, h2, h3, h4⟩ := s.live n xs e
    refine ⟨a, vs, h1, ?_, h3.mono le, ?_⟩
    · rw [upd_ne (hr n a h1)]
      exact h2
    · show upd g.F p o a = none
      rw [upd_ne (hr n a h1)]
      exact h4
/-- a new cell -/
def Gh.cell (g : Gh) (p : Addr) : Gh := ⟨g.F, g.ρ ++ [p], g.P⟩
theorem SR.celled {g : Gh} {st : Store} {H : Hp} {p : Addr} {xs : List Val} {vs : List V} (s : SR K g st H) (hp : H p = none) (r : VRs K g xs vs) :
    Le g (g.cell p) ∧ SR K (g.cell p) (st ++ [some xs]) (upd H p (.lst vs)) ∧ VR K (g.cell p) (.c st.length) (.ref p) := by
  obtain ⟨hF, hP, hr⟩ := s.newAt hp
  have le : Le g (g.cell p) := .mk' (Sub.refl _) (Pre.app _ _) rfl
  have at_new : (g.ρ ++ [p])[st.length]? = some p := by
    rw [← s.len]
    simp
  have back : ∀ (n : Nat) (a : Addr), (g.ρ ++ [p])[n]? = some a → (g.ρ[n]? = some a) ∨ (n = st.length ∧ a = p) := fun n a e => by
    by_cases hn : n < g.ρ.length
    · rw [List.getElem?_append_left hn] at e
      exact .inl e
    · rw [List.getElem?_append_right (by omega)] at e
      by_cases h0 : n - g.ρ.length = 0
      · rw [h0] at e
        cases e
        exact .inr ⟨by rw [← s.len]; omega, rfl⟩
      · rw [List.getElem?_eq_none (by simp; omega)] at e
        cases e
  refine ⟨le, ⟨sub_updR s.ext hF, sub_updR s.kept hP, s.keptF, fun n a e => ?_, ?_, fun n m a e1 e2 => ?_, fun n a e => ?_, fun n ys e => ?_⟩, .c at_new⟩
  · rcases back n a e with h1 | ⟨h1, z1⟩
    · exact s.keptρ n a h1
    · rw [z1]
      exact hP
  · show (g.ρ ++ [p]).length = (st ++ [some xs]).length
    rw [List.length_append, List.length_append, s.len]
    rfl
  · rcases back n a e1 with h1 | ⟨h1, z1⟩
    · rcases back m a e2 with h2 | ⟨h2, z2⟩
      · exact s.inj n m a h1 h2
      · exact absurd z2 (hr n a h1)
    · rcases back m a e2 with h2 | ⟨h2, z2⟩
      · exact absurd z1 (hr m a h2)
      · rw [h1, h2]
  · rcases back n a e with h1 | ⟨h1, z1⟩
    · rw [upd_ne (hr n a h1)]
      exact s.there n a h1
    · rw [z1, upd_same]
      exact fun z => by cases z
  · by_cases hn : n < st.length
    · rw [List.getElem?_append_left hn] at e
      obtain ⟨a, ws, h1, h2, h3, h4⟩ := s.live n ys e
      refine ⟨a, ws, le.ρ n a h1, ?_, h3.mono le, h4⟩
      rw [upd_ne (hr n a h1)]
      exact h2
    · rw [List.getElem?_append_right (by omega)] at e
      by_cases h0 : n - st.length = 0
      · rw [h0] at e
        cases e
        have hn' : n = st.length := by omega
        subst hn'
        exact ⟨p, vs, at_new, upd_same, r.mono le, hF⟩
      · rw [List.getElem?_eq_none (by simp; omega)] at e
        cases e
/-- a cell is written -/
theorem SR.written {g : Gh} {st : Store} {H : Hp} {n : Nat} {xs ys : List Val} {a : Addr} {ws : List V} (s : SR K g st H) (e : st[n]? = some (some xs)) (ha : g.ρ[n]? = some a) (r : VRs K g ys ws) :
    SR K g (st.set n (some ys)) (upd H a (.lst ws)) := by
  obtain ⟨a', vs, h1, h2, h3, h4⟩ := s.live n xs e
  have ea : a' = a := Option.some.inj (h1.symm.trans ha)
  subst ea
  refine ⟨sub_updR s.ext h4, sub_updR s.kept (s.keptρ n a' h1), s.keptF, s.keptρ, by rw [List.length_set]; exact s.len, s.inj, fun m b q => ?_, fun m zs q => ?_⟩
  · by_cases hb : b = a'
    · subst hb
      rw [upd_same]
      exact fun z => by cases z
    · rw [upd_ne hb]
      exact s.there m b q
  · by_cases hm : n = m
    · subst hm
      rw [List.getElem?_set_self (List.getElem?_eq_some_iff.mp e).1] at q
      cases q
      exact ⟨a', ws, h1, upd_same, r, h4⟩
    · rw [List.getElem?_set_ne hm] at q
      obtain ⟨b, us, k1, k2, k3, k4⟩ := s.live m zs q
      refine ⟨b, us, k1, ?_, k3, k4⟩
      rw [upd_ne (fun z => hm (s.inj n m a' h1 (by rw [z] at k1; exact k1)))]
      exact k2
/-- a cell is frozen: dead from now on -/
theorem SR.froze {g : Gh} {st : Store} {H : Hp} {n : Nat} {xs : List Val} {ds : List PyData} (s : SR K g st H) (e : st[n]? = some (some xs)) (hd : allD xs = some ds) :
    ∃ g', Le g g' ∧ g'.ρ = g.ρ ∧ SR K g' (st.set n none) H ∧ ∀ v, VR K g (.c n) v → VR K g' (.d (.list ds)) v := by
  obtain ⟨a, vs, h1, h2, h3, h4⟩ := s.live n xs e
  have le : Le g (g.put a (.lst vs)) := Gh.put_le h4
  refine ⟨g.put a (.lst vs), le, rfl, ⟨fun b u q => ?_, s.kept, fun b q => ?_, s.keptρ, by rw [List.length_set]; exact s.len, s.inj, s.there, fun m zs q => ?_⟩, fun v hv => ?_⟩
  · by_cases hb : b = a
    · subst hb
      have q' : upd g.F b (.lst vs) b = some u := q
      rw [upd_same] at q'
      rw [h2]
      exact q'
    · have q' : upd g.F a (.lst vs) b = some u := q
      rw [upd_ne hb] at q'
      exact s.ext b u q'
  · show upd g.F a (.lst vs) b = none
    rw [upd_ne (fun z => q (by rw [z]; exact s.keptρ n a h1))]
    exact s.keptF b q
  · by_cases hm : n = m
    · subst hm
      rw [List.getElem?_set_self (List.getElem?_eq_some_iff.mp e).1] at q
      cases q
    · rw [List.getElem?_set_ne hm] at q
      obtain ⟨b, us, k1, k2, k3, k4⟩ := s.live m zs q
      refine ⟨b, us, k1, k2, k3.mono le, ?_⟩
      show upd g.F a (.lst vs) b = none
      rw [upd_ne (fun z => hm (s.inj n m a h1 (by rw [z] at k1; exact k1)))]
      exact k4
  · cases hv with
    | c hc =>
      have ea := Option.some.inj (hc.symm.trans h1)
      subst ea
      exact .d (.lst (show upd g.F _ _ _ = _ from upd_same) (dpAll_sub le.F (h3.allD hd)))
/-- something kept for now -/
def Gh.keep (g : Gh) (P : Hp) : Gh := ⟨g.F, g.ρ, P⟩
theorem Gh.keep_le0 (g : Gh) (P : Hp) : Le0 g (g.keep P) := ⟨Sub.refl _, Pre.refl _⟩
theorem Gh.of_keep_le0 (g : Gh) (P : Hp) : Le0 (g.keep P) g := ⟨Sub.refl _, Pre.refl _⟩
/-- back to what was kept before -/
theorem Le.back {g g' : Gh} {P : Hp} (h : Le (g.keep P) g') : Le g (g'.keep g.P) := .mk' h.F h.ρ rfl
theorem SR.more {g : Gh} {st : Store} {H : Hp} {p : Addr} (s : SR K g st H) (hp : H p = none) (o : HO) : SR K (g.keep (upd g.P p o)) st (upd H p o) := by
  obtain ⟨hF, hP, hr⟩ := s.newAt hp
  refine ⟨sub_updR s.ext hF, sub_upd s.kept, fun a e => ?_, fun n a e => ?_, s.len, s.inj, fun n a e => ?_, fun n xs e => ?_⟩
  · by_cases ha : a = p
    · rw [ha]; exact hF
    · have e' : upd g.P p o a ≠ none := e
      rw [upd_ne ha] at e'
      exact s.keptF a e'
  · show upd g.P p o a = none
    rw [upd_ne (hr n a e)]
    exact s.keptρ n a e
  · rw [upd_ne (hr n a e)]
    exact s.there n a e
  · obtain ⟨a, vs, h1, h2, h3, h4⟩ := s.live n xs e
    refine ⟨a, vs, h1, ?_, h3.mono0 (g.keep_le0 _), h4⟩
    rw [upd_ne (hr n a h1)]
    exact h2
/-- what is kept changes by our own hand -/
theorem SR.moreSet {g : Gh} {st : Store} {H : Hp} {p : Addr} {o : HO} {P0 : Hp} (s : SR K g st H) (e : g.P = upd P0 p o) (o' : HO) : SR K (g.keep (upd P0 p o')) st (upd H p o') := by
  have hp : g.P p = some o := by rw [e, upd_same]
  have hF : g.F p = none := s.keptF p (by rw [hp]; exact fun z => by cases z)
  have hr : ∀ (n : Nat) (a : Addr), g.ρ[n]? = some a → a ≠ p := fun n a q z => by
    have := s.keptρ n a q
    rw [z, hp] at this
    cases this
  have old : ∀ a, a ≠ p → upd P0 p o' a = g.P a := fun a ha => by rw [e, upd_ne ha, upd_ne ha]
  refine ⟨sub_updR s.ext hF, fun a u q => ?_, fun a q => ?_, fun n a q => ?_, s.len, s.inj, fun n a q => ?_, fun n xs q => ?_⟩
  · by_cases ha : a = p
    · subst ha
      have q' : upd P0 a o' a = some u := q
      rw [upd_same] at q' ⊢
      exact q'
    · have q' : upd P0 p o' a = some u := q
      rw [old a ha] at q'
      rw [upd_ne ha]
      exact s.kept a u q'
  · by_cases ha : a = p
    · rw [ha]; exact hF
    · have q' : upd P0 p o' a ≠ none := q
      rw [old a ha] at q'
      exact s.keptF a q'
  · show upd P0 p o' a = none
    rw [old a (hr n a q)]
    exact s.keptρ n a q
  · rw [upd_ne (hr n a q)]
    exact s.there n a q
  · obtain ⟨a, vs, h1, h2, h3, h4⟩ := s.live n xs q
    refine ⟨a, vs, h1, ?_, h3.mono0 (g.keep_le0 _), h4⟩
    rw [upd_ne (hr n a h1)]
    exact h2
/-- what was kept becomes frozen -/
theorem SR.moreFrozen {g : Gh} {st : Store} {H : Hp} {p : Addr} {o : HO} {P0 : Hp} (s : SR K g st H) (e : g.P = upd P0 p o) (h0 : P0 p = none) : SR K ((g.keep P0).put p o) st H ∧ Le0 g ((g.keep P0).put p o) := by
  have hp : g.P p = some o := by rw [e, upd_same]
  have hF : g.F p = none := s.keptF p (by rw [hp]; exact fun z => by cases z)
  have hr : ∀ (n : Nat) (a : Addr), g.ρ[n]? = some a → a ≠ p := fun n a q z => by
    have := s.keptρ n a q
    rw [z, hp] at this
    cases this
  have old : ∀ a, a ≠ p → P0 a = g.P a := fun a ha => by rw [e, upd_ne ha]
  have le : Le0 g ((g.keep P0).put p o) := ⟨Sub.new hF, Pre.refl _⟩
  refine ⟨⟨fun a u q => ?_, fun a u q => ?_, fun a q => ?_, fun n a q => ?_, s.len, s.inj, s.there, fun n xs q => ?_⟩, le⟩
  · by_cases ha : a = p
    · subst ha
      have q' : upd g.F a o a = some u := q
      rw [upd_same] at q'
      exact s.kept a u (hp.trans q')
    · have q' : upd g.F p o a = some u := q
      rw [upd_ne ha] at q'
      exact s.ext a u q'
  · have ha : a ≠ p := fun z => by rw [z] at q; rw [show P0 p = some u from q] at h0; cases h0
    exact s.kept a u ((old a ha).symm.trans q)
  · have ha : a ≠ p := fun z => q (by rw [z]; exact h0)
    show upd g.F p o a = none
    rw [upd_ne ha]
    exact s.keptF a (by rw [← old a ha]; exact q)
  · show P0 a = none
    rw [old a (hr n a q)]
    exact s.keptρ n a q
  · obtain ⟨a, vs, h1, h2, h3, h4⟩ := s.live n xs q
    refine ⟨a, vs, h1, h2, h3.mono0 le, ?_⟩
    show upd g.F p o a = none
    rw [upd_ne (hr n a h1)]
    exact h4
/-- what was kept becomes a cell -/
theorem SR.moreCell {g : Gh} {st : Store} {H : Hp} {p : Addr} {xs : List Val} {vs : List V} {P0 : Hp} (s : SR K g st H) (e : g.P = upd P0 p (.lst vs)) (h0 : P0 p = none) (r : VRs K g xs vs) :
    SR K ((g.keep P0).cell p) (st ++ [some xs]) H ∧ Le0 g ((g.keep P0).cell p) ∧ VR K ((g.keep P0).cell p) (.c st.length) (.ref p) := by
  have hp : g.P p = some (.lst vs) := by rw [e, upd_same]
  have hF : g.F p = none := s.keptF p (by rw [hp]; exact fun z => by cases z)
  have hr : ∀ (n : Nat) (a : Addr), g.ρ[n]? = some a → a ≠ p := fun n a q z => by
    have := s.keptρ n a q
    rw [z, hp] at this
    cases this
  have old : ∀ a, a ≠ p → P0 a = g.P a := fun a ha => by rw [e, upd_ne ha]
  have le : Le0 g ((g.keep P0).cell p) := ⟨Sub.refl _, Pre.app _ _⟩
  have at_new : (g.ρ ++ [p])[st.length]? = some p := by
    rw [← s.len]
    simp
  have back : ∀ (n : Nat) (a : Addr), (g.ρ ++ [p])[n]? = some a → (g.ρ[n]? = some a) ∨ (n = st.length ∧ a = p) := fun n a e => by
    by_cases hn : n < g.ρ.length
    · rw [List.getElem?_append_left hn] at e
      exact .inl e
    · rw [List.getElem?_append_right (by omega)] at e
      by_cases h0 : n - g.ρ.length = 0
      · rw [h0] at e
        cases e
        exact .inr ⟨by rw [← s.len]; omega, rfl⟩
      · rw [List.getElem?_eq_none (by simp; omega)] at e
        cases e
  have keptP : Sub P0 H := fun a u q => by
    have ha : a ≠ p := fun z => by rw [z, h0] at q; cases q
    exact s.kept a u ((old a ha).symm.trans q)
  refine ⟨⟨s.ext, keptP, fun a q => ?_, fun n a q => ?_, ?_, fun n m a e1 e2 => ?_, fun n a q => ?_, fun n ys q => ?_⟩, le, .c at_new⟩
  · have ha : a ≠ p := fun z => q (by rw [z]; exact h0)
    exact s.keptF a (by rw [← old a ha]; exact q)
  · rcases back n a q with h1 | ⟨h1, z1⟩
    · show P0 a = none
      rw [old a (hr n a h1)]
      exact s.keptρ n a h1
    · rw [z1]
      exact h0
  · show (g.ρ ++ [p]).length = (st ++ [some xs]).length
    rw [List.length_append, List.length_append, s.len]
    rfl
  · rcases back n a e1 with h1 | ⟨h1, z1⟩
    · rcases back m a e2 with h2 | ⟨h2, z2⟩
      · exact s.inj n m a h1 h2
      · exact absurd z2 (hr n a h1)
    · rcases back m a e2 with h2 | ⟨h2, z2⟩
      · exact absurd z1 (hr m a h2)
      · rw [h1, h2]
  · rcases back n a q with h1 | ⟨h1, z1⟩
    · exact s.there n a h1
    · rw [z1, s.kept p _ hp]
      exact fun z => by cases z
  · by_cases hn : n < st.length
    · rw [List.getElem?_append_left hn] at q
      obtain ⟨a, ws, h1, h2, h3, h4⟩ := s.live n ys q
      exact ⟨a, ws, le.ρ n a h1, h2, h3.mono0 le, h4⟩
    · rw [List.getElem?_append_right (by omega)] at q
      by_cases h0 : n - st.length = 0
      · rw [h0] at q
        cases q
        have hn' : n = st.length := by omega
        subst hn'
        exact ⟨p, vs, at_new, s.kept p _ hp, r.mono0 le, hF⟩
      · rw [List.getElem?_eq_none (by simp; omega)] at q
        cases q
end
end Z

namespace Z
open PySem PySem.Spec PyProof.Rows L2

/-! ### the widest readings -/
section
variable (X : Cx)
def WE (e : Expr) : TE := fun σ H Q => ∃ t, PE X e t ∧ t σ H Q
def WT (e : Expr) : TT := fun σ H Q => ∃ t, PT X e t ∧ t σ H Q
def WB (e : Expr) : TT := fun σ H Q => ∃ t, PW X e t ∧ t σ H Q
def WA (es : List Expr) : TA := fun σ H Q => ∃ t, PA X es t ∧ t σ H Q
def WS (s : Stmt) : TS := fun D σ H => ∃ t, PS X s t ∧ t D σ H
def WSs (s : List Stmt) : TS := fun D σ H => ∃ t, PSs X s t ∧ t D σ H
def WG (e : Expr) : TG := fun v σ H Q => ∃ t, PG X e t ∧ t v σ H Q
def WGs (e : List Expr) : TGs := fun v σ H Q => ∃ t, PGs X e t ∧ t v σ H Q
def WI (tg e : Expr) : TI := fun σ H Q => ∃ t, PI X tg e t ∧ t σ H Q
def WO (f : Value → Value → Sem Value) : R2 := fun x y H Q => ∃ r, OpR X f r ∧ r x y H Q
def WU (f : Value → Sem Value) : V → Hp → VK → Prop := fun x H Q => ∃ r, UnR X f r ∧ r x H Q
def WC (f : Value) : List V → Hp → VK → Prop := fun xs H Q => ∃ r, CallR X f r ∧ r xs H Q
def WX : R2 := fun x y H Q => ∃ r, IxR X r ∧ r x y H Q
def WM (id : String) : V → List V → Hp → VK → Prop := fun x xs H Q => ∃ r, MtR X id r ∧ r x xs H Q
def WL : V → Option Int → Option Int → Hp → VK → Prop := fun x l h H Q => ∃ r, SlR X r ∧ r x l h H Q
def WPt (e : Option Expr) : TO := fun σ H Q => ∃ t, PO X e t ∧ t σ H Q
def WP : V → V → V → Hp → (Hp → Prop) → Prop := fun o i v H Q => ∃ r, PSet X r ∧ r o i v H Q
end
section
variable {X : Cx}
theorem pe_W {e : Expr} : PE X e (WE X e) := ⟨fun pins s σ H Q I ⟨t, h, q⟩ => h.run pins s σ H Q I q⟩
theorem pt_W {e : Expr} : PT X e (WT X e) := ⟨fun pins s σ H Q I ⟨t, h, q⟩ => h.run pins s σ H Q I q⟩
theorem pw_W {e : Expr} : PW X e (WB X e) := ⟨fun wh pins s σ H Q I ⟨t, h, q⟩ => h.run wh pins s σ H Q I q⟩
theorem pa_W {e : List Expr} : PA X e (WA X e) := ⟨fun pos pins s σ H Q I ⟨t, h, q⟩ => h.run pos pins s σ H Q I q⟩
theorem ps_W {e : Stmt} : PS X e (WS X e) := ⟨fun pins s σ H D I ⟨t, h, q⟩ => h.run pins s σ H D I q⟩
theorem pss_W {e : List Stmt} : PSs X e (WSs X e) := ⟨fun pins s σ H D I ⟨t, h, q⟩ => h.run pins s σ H D I q⟩
theorem pg_W {e : Expr} : PG X e (WG X e) := ⟨fun pins s σ H v u Q I r ⟨t, h, q⟩ => h.run pins s σ H v u Q I r q⟩
theorem pgs_W {e : List Expr} : PGs X e (WGs X e) := ⟨fun pins s σ H v u Q I r ⟨t, h, q⟩ => h.run pins s σ H v u Q I r q⟩
theorem pi_W {tg e : Expr} : PI X tg e (WI X tg e) := ⟨fun pins s σ H R I ⟨t, h, q⟩ => h.run pins s σ H R I q⟩
theorem op_W {f : Value → Value → Sem Value} : OpR X f (WO X f) := fun pins s σ H x y v u Q I rx ry ⟨r, h, q⟩ => h pins s σ H x y v u Q I rx ry q
theorem un_W {f : Value → Sem Value} : UnR X f (WU X f) := fun pins s σ H x v Q I rx ⟨r, h, q⟩ => h pins s σ H x v Q I rx q
theorem cl_W {f : Value} : CallR X f (WC X f) := fun pins s σ H xs us Q I rx ⟨r, h, q⟩ => h pins s σ H xs us Q I rx q
theorem ix_W : IxR X (WX X) := fun value slice pins s σ H x y v u Q I rx ry ⟨r, h, q⟩ hs => h value slice pins s σ H x y v u Q I rx ry q hs
theorem mt_W {id : String} : MtR X id (WM X id) := fun pins s σ H x xs v us Q I rx ry ⟨r, h, q⟩ => h pins s σ H x xs v us Q I rx ry q
theorem sl_W : SlR X (WL X) := fun pins s σ H x v vl vu lo hi sl Q I rx hs pl pu ⟨r, h, q⟩ => h pins s σ H x v vl vu lo hi sl Q I rx hs pl pu q
theorem po_W {e : Option Expr} : PO X e (WPt X e) := ⟨fun pins s σ H Q I ⟨t, h, q⟩ => h.run pins s σ H Q I q⟩
theorem st_W : PSet X (WP X) := fun pins s σ H o i v ov iv u Q I r1 r2 r3 ⟨r, h, q⟩ => h pins s σ H o i v ov iv u Q I r1 r2 r3 q
end

/-! ### what is wanted behind a result -/
abbrev WXf := Value → Option Addr → L2.St → Hp → Prop
/-- an exception as it flies -/
def XR (K : PySem.W.Frag) (mg : Str → Option Value) (g : Gh) (H : Hp) (e : Exn) (cls : Value) (d : Option Addr) : Prop :=
  ∃ C da v, cls = .ref C ∧ mg e.cls = some (.ref C) ∧ d = some da ∧ H da = some (.xd [("what", v)]) ∧ VR K g e.what v
def Post {α β : Type} (K : PySem.W.Frag) (mg : Str → Option Value) (g : Gh) (rel : Gh → α → β → Prop) (r : R α) (Q : β → Hp → Prop) (E : XK) : Prop := match r with
  | .ok x st => ∀ g' v H, Le g g' → SR K g' st H → rel g' x v → Q v H
  | .ex e st => ∀ g' cls d H, Le g g' → SR K g' st H → XR K mg g' H e cls d → E cls d H
  | .no => False
section
variable {K : PySem.W.Frag} {mg : Str → Option Value} {α β γ δ : Type} {rel : Gh → α → β → Prop} {rel' : Gh → γ → δ → Prop}
theorem Post.mono {g g' : Gh} {r : R α} {Q : β → Hp → Prop} {E : XK} (h : Post K mg g rel r Q E) (e : Le g g') : Post K mg g' rel r Q E := by
  cases r with
  | ok x st => exact fun g2 v H le hs hr => h g2 v H (e.trans le) hs hr
  | ex x st => exact fun g2 c d H le hs hr => h g2 c d H (e.trans le) hs hr
  | no => exact h
theorem Post.bind {g : Gh} {r : R α} {k : α → Store → R γ} {Q : δ → Hp → Prop} {Q1 : β → Hp → Prop} {E : XK} (h : Post K mg g rel' (r.bind k) Q E)
    (f : ∀ g1 v H x st, Le g g1 → SR K g1 st H → rel g1 x v → Post K mg g1 rel' (k x st) Q E → Q1 v H) : Post K mg g rel r Q1 E := by
  cases r with
  | ok x st => exact fun g1 v H le hs hr => f g1 v H x st le hs hr (h.mono le)
  | ex x st => exact h
  | no => exact h
theorem Post.imp {g : Gh} {r : R α} {Q Q1 : β → Hp → Prop} {E : XK} (h : Post K mg g rel r Q E) (f : ∀ v H, Q v H → Q1 v H) : Post K mg g rel r Q1 E := by
  cases r with
  | ok x st => exact fun g1 v H le hs hr => f v H (h g1 v H le hs hr)
  | ex x st => exact h
  | no => exact h
theorem Post.ok {g : Gh} {x : α} {st : Store} {Q : β → Hp → Prop} {E : XK} {v : β} {H : Hp} (h : Post K mg g rel (.ok x st) Q E) (hs : SR K g st H) (hr : rel g x v) : Q v H := h g v H (Le.refl g) hs hr
theorem Post.ok' {g g' : Gh} {x : α} {st : Store} {Q : β → Hp → Prop} {E : XK} {v : β} {H : Hp} (h : Post K mg g rel (.ok x st) Q E) (e : Le g g') (hs : SR K g' st H) (hr : rel g' x v) : Q v H := h g' v H e hs hr
end

/-! ### what an expression, an argument list, a test computes -/
abbrev CE := Env → Store → R Val
abbrev CA := Env → Store → R (List Val)
abbrev CT := Env → Store → R Bool
abbrev eW (W : WXf) (σ : L2.St) : XK := fun c d H => W c d σ H
structure Cmp (X : Cx) (W : WXf) (e : Expr) (f : CE) : Prop where
  run : ∀ g σ H env st Q, SR X.K g st H → ER X.K g env σ → Post X.K X.mg g (VR X.K) (f env st) Q (eW W σ) → WE X e σ H Q
structure CmpA (X : Cx) (W : WXf) (es : List Expr) (f : CA) : Prop where
  run : ∀ g σ H env st Q, SR X.K g st H → ER X.K g env σ → Post X.K X.mg g (VRs X.K) (f env st) Q (eW W σ) → WA X es σ H Q
def relB : Gh → Bool → Bool → Prop := fun _ a b => a = b
structure CmpT (X : Cx) (W : WXf) (e : Expr) (f : CT) : Prop where
  run : ∀ g σ H env st Q, SR X.K g st H → ER X.K g env σ → Post X.K X.mg g relB (f env st) Q (eW W σ) → WT X e σ H Q
structure CmpB (X : Cx) (W : WXf) (e : Expr) (f : CT) : Prop where
  run : ∀ g σ H env st Q, SR X.K g st H → ER X.K g env σ → Post X.K X.mg g relB (f env st) Q (eW W σ) → WB X e σ H Q

section
variable {X : Cx} {W : WXf}
/-! names, constants -/
def bVar (i : Nat) : CE := fun env st => match env[i]? with
  | some (some x) => .ok x st
  | _ => .no
theorem c_var {i : Nat} {x : Str} {pos : Pos} (hN : X.N[i]? = some x) (hv : Vis X.env.scope x) (hd : (x == ("__debug__" : Str)) = false := by decide) (hcd : (x == ("__classdict__" : Str)) = false := by decide) : Cmp X W (.Name x pos) (bVar i) := by
  refine ⟨fun g σ H env st Q hs he h => ⟨_, pe_var hN hv hd hcd, ?_⟩⟩
  unfold bVar at h
  split at h
  · rename_i y hy
    obtain ⟨v, h1, h2⟩ := he.get i y hy
    exact ⟨v, h1, h.ok hs h2⟩
  · exact h.elim
def bC (x : PyData) : CE := fun _ st => .ok (.d x) st
theorem c_int {i : Int} {j} {pos : Pos} : Cmp X W (.Constant (.int i) j pos) (bC (.int i)) := ⟨fun g σ H env st Q hs he h => ⟨_, pe_int, h.ok hs (.d (.int i))⟩⟩
theorem c_bl {b : Bool} {j} {pos : Pos} : Cmp X W (.Constant (.bool b) j pos) (bC (.bool b)) := ⟨fun g σ H env st Q hs he h => ⟨_, pe_bl, h.ok hs (.d (.bl b))⟩⟩
theorem c_non {j} {pos : Pos} : Cmp X W (.Constant .none j pos) (bC .none) := ⟨fun g σ H env st Q hs he h => ⟨_, pe_non, h.ok hs (.d .non)⟩⟩
theorem c_str {x : Str} {j} {pos : Pos} : Cmp X W (.Constant (.str x) j pos) (bC (.str x)) := ⟨fun g σ H env st Q hs he h => ⟨_, pe_str, h.ok hs (.d (.str x))⟩⟩
/-- a constant of the module -/
def Kst (X : Cx) (u : Value) (x : PyData) : Prop := ∃ v, RelV v u ∧ ∀ F, Dx X.K F v x
theorem c_glob {x : Str} {u : Value} {y : PyData} {pos : Pos} (hg : Gl X x) (hm : X.mg x = some u) (hk : Kst X u y) (hd : (x == ("__debug__" : Str)) = false := by decide) : Cmp X W (.Name x pos) (bC y) := by
  obtain ⟨v, r, hv⟩ := hk
  exact ⟨fun g σ H env st Q hs he h => ⟨_, pe_glob hg hm r hd, h.ok hs (.d (hv _))⟩⟩

/-! argument lists -/
def bArgs : List CE → CA
  | [] => fun _ st => .ok [] st
  | f :: fs => fun env st => (f env st).bind fun x st1 => (bArgs fs env st1).bind fun xs st2 => .ok (x :: xs) st2
theorem c_nil : CmpA X W [] (bArgs []) := ⟨fun g σ H env st Q hs he h => ⟨_, pa_nil, h.ok hs .nil⟩⟩
theorem c_cons {e : Expr} {es : List Expr} {f : CE} {fs : List CE} (h1 : Cmp X W e f) (h2 : CmpA X W es (bArgs fs)) (hs : starEach (e :: es) X.env = (false, eval e X.env) :: starEach es X.env := by rfl) : CmpA X W (e :: es) (bArgs (f :: fs)) := by
  refine ⟨fun g σ H env st Q hS he h => ⟨_, pa_cons pe_W pa_W hs, ?_⟩⟩
  refine h1.run g σ H env st _ hS he (Post.bind h fun g1 v H1 x st1 le1 s1 r1 q1 => ?_)
  refine h2.run g1 σ H1 env st1 _ s1 (he.mono le1) (Post.bind q1 fun g2 vs H2 xs st2 le2 s2 r2 q2 => ?_)
  exact q2.ok s2 (.cons (r1.mono le2) r2)
end

/-! ### making lists and tuples -/
def lim : Nat := 1000000
theorem lim_line {n : Nat} (h : n ≤ lim) : n ≤ sizeLine := Nat.le_trans h (by decide)
theorem lim_line' {n : Nat} (h : n < lim) : n < sizeLine := Nat.lt_of_lt_of_le h (by decide)
/-- a new list: a cell (m), or frozen -/
def mkL (m : Bool) (xs : List Val) (st : Store) : R Val :=
  if xs.length ≤ lim then (if m then .ok (.c st.length) (st ++ [some xs]) else match allD xs with
    | some ds => .ok (.d (.list ds)) st
    | none => .no) else .no
def tupV (xs : List Val) : Val := match allD xs with
  | some ds => .d (.tuple ds)
  | none => .t xs
def mkT (xs : List Val) (st : Store) : R Val := if xs.length ≤ lim then .ok (tupV xs) st else .no
section
variable {K : PySem.W.Frag} {mg : Str → Option Value}
theorem mkL_ok {m : Bool} {xs : List Val} {vs : List V} {g : Gh} {st : Store} {H : Hp} {Q : VK} {E : XK} (hs : SR K g st H) (r : VRs K g xs vs) (h : Post K mg g (VR K) (mkL m xs st) Q E) :
    vs.length ≤ sizeLine ∧ ∀ p, H p = none → Q (.ref p) (upd H p (.lst vs)) := by
  unfold mkL at h
  split at h
  · rename_i hl
    refine ⟨by rw [← r.length]; exact lim_line hl, fun p hp => ?_⟩
    cases m with
    | true =>
      obtain ⟨le, s2, rv⟩ := hs.celled hp r
      exact h.ok' le s2 rv
    | false =>
      have h' : Post K mg g (VR K) (match allD xs with | some ds => R.ok (Val.d (.list ds)) st | none => .no) Q E := h
      split at h'
      · rename_i ds hd
        obtain ⟨le, s2⟩ := hs.frozen hp (.lst vs)
        exact h'.ok' le s2 (.d (.lst upd_same (dpAll_sub le.F (r.allD hd))))
      · exact h'.elim
  · exact h.elim
theorem tupV_ok {xs : List Val} {vs : List V} {g : Gh} {a : Addr} (ht : SqT K g.F a vs) (r : VRs K g xs vs) : VR K g (tupV xs) (.ref a) := by
  unfold tupV
  split
  · rename_i ds hd
    exact .d (.tup ht (r.allD hd))
  · exact .t ht r
theorem mkT_ok {xs : List Val} {vs : List V} {g : Gh} {st : Store} {H : Hp} {Q : VK} {E : XK} (hs : SR K g st H) (r : VRs K g xs vs) (h : Post K mg g (VR K) (mkT xs st) Q E) :
    vs.length ≤ sizeLine ∧ ∀ p, H p = none → Q (.ref p) (upd H p (.tup vs)) := by
  unfold mkT at h
  split at h
  · rename_i hl
    refine ⟨by rw [← r.length]; exact lim_line hl, fun p hp => ?_⟩
    obtain ⟨le, s2⟩ := hs.frozen hp (.tup vs)
    exact h.ok' le s2 (tupV_ok (.inl (.inl upd_same)) (r.mono le))
  · exact h.elim
end

/-! ### reading lists and tuples -/
inductive Sk where
  | l | t | s
/-- a value as a list (l), a tuple (t) of values, or the script (s) -/
def seqOf (st : Store) : Val → Option (Sk × List Val)
  | .d (.list xs) => some (.l, xs.map Val.d)
  | .d (.tuple xs) => some (.t, xs.map Val.d)
  | .c n => match st[n]? with
    | some (some xs) => some (.l, xs)
    | _ => none
  | .t xs => some (.t, xs)
  | .s ns => some (.s, ns.map fun n => Val.d (.int n))
  | _ => none
def Sq (K : PySem.W.Frag) (g : Gh) (H : Hp) (a : Addr) (vs : List V) : Sk → Prop
  | .l => H a = some (.lst vs)
  | .t => SqT K g.F a vs
  | .s => SqL K g.F a vs
theorem vrs_ints {K : PySem.W.Frag} {g : Gh} : ∀ ns : List Int, VRs K g (ns.map fun n => Val.d (.int n)) (ns.map V.int)
  | [] => .nil
  | n :: ns => .cons (.d (.int n)) (vrs_ints ns)
theorem seqOf_ok {K : PySem.W.Frag} {g : Gh} {st : Store} {H : Hp} {x : Val} {v : V} {k : Sk} {xs : List Val} (hs : SR K g st H) (r : VR K g x v) (h : seqOf st x = some (k, xs)) :
    ∃ a vs, v = .ref a ∧ Sq K g H a vs k ∧ VRs K g xs vs := by
  cases r with
  | d hd =>
    cases hd with
    | lst hq ha => cases h; exact ⟨_, _, rfl, hs.ext _ _ hq, VRs.ofDp ha⟩
    | tup hq ha => cases h; exact ⟨_, _, rfl, hq, VRs.ofDp ha⟩
    | _ => cases h
  | @c n a hc =>
    have h : (match st[n]? with | some (some xs) => some (Sk.l, xs) | _ => none) = some (k, xs) := h
    split at h
    · rename_i ys hy
      cases h
      obtain ⟨a', vs, h1, h2, h3, _⟩ := hs.live n _ hy
      have e := Option.some.inj (h1.symm.trans hc)
      subst e
      exact ⟨_, vs, rfl, h2, h3⟩
    · cases h
  | t hq ha => cases h; exact ⟨_, _, rfl, hq, ha⟩
  | s hq => cases h; exact ⟨_, _, rfl, hq, vrs_ints _⟩
theorem Sq.list {K : PySem.W.Frag} {g : Gh} {H : Hp} {a : Addr} {vs : List V} {k : Sk} (h : Sq K g H a vs k) (e : Sub g.F H) (n : k ≠ .t) : SqL K H a vs := by
  cases k with
  | l => exact SqL.of h
  | t => exact absurd rfl n
  | s => exact sqL_sub e h
theorem Sq.any {K : PySem.W.Frag} {g : Gh} {H : Hp} {a : Addr} {vs : List V} {k : Sk} (h : Sq K g H a vs k) (e : Sub g.F H) : SqL K H a vs ∨ SqT K H a vs := by
  cases k with
  | l => exact .inl (SqL.of h)
  | t => exact .inr (sqT_sub e h)
  | s => exact .inl (sqL_sub e h)
/-- a value as data all through -/
def mapO {α β : Type} (f : α → Option β) : List α → Option (List β)
  | [] => some []
  | x :: xs => match f x, mapO f xs with
    | some y, some ys => some (y :: ys)
    | _, _ => none
def deepV : Nat → Store → Val → Option PyData
  | _, _, .d x => some x
  | _, _, .s _ => none
  | 0, _, _ => none
  | k + 1, st, .c n => match st[n]? with
    | some (some xs) => match mapO (deepV k st) xs with
      | some ds => some (.list ds)
      | none => none
    | _ => none
  | k + 1, st, .t xs => match mapO (deepV k st) xs with
    | some ds => some (.tuple ds)
    | none => none
theorem deepV_d (k : Nat) (st : Store) (x : PyData) : deepV k st (.d x) = some x := by cases k <;> rfl
section
variable {K : PySem.W.Frag} {g : Gh} {st : Store} {H : Hp}
theorem mapO_ok {f : Val → Option PyData} (hf : ∀ x v d, VR K g x v → f x = some d → Dx K H v d) : ∀ {xs : List Val} {vs : List V} {ds : List PyData}, VRs K g xs vs → mapO f xs = some ds → DxAll K H vs ds := by
  intro xs
  induction xs with
  | nil => intro vs ds r h; cases r; cases h; exact .nil
  | cons x xs ih =>
    intro vs ds r h
    cases r with
    | cons r1 r2 =>
      unfold mapO at h
      split at h
      · rename_i y ys e1 e2
        cases h
        exact .cons (hf _ _ _ r1 e1) (ih r2 e2)
      · cases h
theorem deepV_ok (hs : SR K g st H) : ∀ (k : Nat) (x : Val) (v : V) (d : PyData), VR K g x v → deepV k st x = some d → Dx K H v d := by
  intro k
  induction k with
  | zero =>
    intro x v d r h
    cases x with
    | d y => rw [deepV_d] at h; cases h; cases r with | d hd => exact dp_sub hs.ext hd
    | c n => cases h
    | t xs => cases h
    | s xs => cases h
  | succ k ih =>
    intro x v d r h
    cases x with
    | d y => rw [deepV_d] at h; cases h; cases r with | d hd => exact dp_sub hs.ext hd
    | c n =>
      cases r with
      | c hc =>
        unfold deepV at h
        split at h
        · rename_i xs hx
          split at h
          · rename_i ds hd
            cases h
            obtain ⟨a', vs, h1, h2, h3, _⟩ := hs.live n _ hx
            have e := Option.some.inj (h1.symm.trans hc)
            subst e
            exact .lst h2 (mapO_ok (fun x v d => ih x v d) h3 hd)
          · cases h
        · cases h
    | t xs =>
      cases r with
      | t hq ha =>
        unfold deepV at h
        split at h
        · rename_i ds hd
          cases h
          exact .tup (sqT_sub hs.ext hq) (mapO_ok (fun x v d => ih x v d) ha hd)
        · cases h
    | s xs => cases h
end
end Z

namespace Z
open PySem PySem.Spec PyProof.Rows L2

/-! ### operators on values -/
def vInt2 (x y : Val) (k : Int → Int → R Val) : R Val := match x, y with
  | .d (.int i), .d (.int j) => k i j
  | _, _ => .no
def mulOk (i j : Int) : Prop := i.natAbs < 18446744073709551616 ∨ j.natAbs < 18446744073709551616 ∨ i.natAbs.log2 + j.natAbs.log2 < 1000000
instance (i j : Int) : Decidable (mulOk i j) := by unfold mulOk; infer_instance
def divOk (j : Int) : Prop := j ≠ 0 ∧ j.natAbs.log2 < 9000
instance (j : Int) : Decidable (divOk j) := by unfold divOk; infer_instance
def powOk (i j : Int) : Prop := 0 ≤ j ∧ j ≤ 1000000 ∧ i.natAbs < 18446744073709551616
instance (i j : Int) : Decidable (powOk i j) := by unfold powOk; infer_instance
def vCat (m : Bool) (st : Store) : Option (Sk × List Val) → Option (Sk × List Val) → R Val
  | some (.l, xs), some (.l, ys) => mkL m (xs ++ ys) st
  | some (.t, xs), some (.t, ys) => mkT (xs ++ ys) st
  | _, _ => .no
def vAdd (m : Bool) (x y : Val) (st : Store) : R Val := match x, y with
  | .d (.int i), .d (.int j) => .ok (.d (.int (i + j))) st
  | .d (.str a), .d (.str b) => if a.length + b.length ≤ lim then .ok (.d (.str (a ++ b))) st else .no
  | x, y => vCat m st (seqOf st x) (seqOf st y)
def vRep (m : Bool) (st : Store) (k : Int) : Option (Sk × List Val) → R Val
  | some (.l, xs) => if -1000000 ≤ k ∧ k ≤ 1000000 then mkL m (List.replicate k.toNat xs).flatten st else .no
  | some (.t, xs) => if xs ≠ [] ∧ 2 ≤ k ∧ k ≤ 1000 ∧ xs.length ≤ 1000 then mkT (List.replicate k.toNat xs).flatten st else .no
  | _ => .no
def vMul (m : Bool) (x y : Val) (st : Store) : R Val := match x, y with
  | .d (.int i), .d (.int j) => if mulOk i j then .ok (.d (.int (i * j))) st else .no
  | x, .d (.int k) => vRep m st k (seqOf st x)
  | _, _ => .no
def vBin (m : Bool) (op : Operator) (x y : Val) (st : Store) : R Val := match op with
  | .Add => vAdd m x y st
  | .Sub => vInt2 x y fun i j => .ok (.d (.int (i - j))) st
  | .Mult => vMul m x y st
  | .FloorDiv => vInt2 x y fun i j => if divOk j then .ok (.d (.int (i.fdiv j))) st else .no
  | .Mod => vInt2 x y fun i j => if j ≠ 0 then .ok (.d (.int (i.fmod j))) st else .no
  | .Pow => vInt2 x y fun i j => if powOk i j then .ok (.d (.int (i ^ j.toNat))) st else .no
  | .LShift => vInt2 x y fun i j => if powOk i j then .ok (.d (.int (i * 2 ^ j.toNat))) st else .no
  | .RShift => vInt2 x y fun i j => if 0 ≤ j then .ok (.d (.int (i / 2 ^ j.toNat))) st else .no
  | .BitAnd => vInt2 x y fun i j => .ok (.d (.int (Builtin.bitAnd i j))) st
  | _ => .no

section
variable {X : Cx}
theorem op_fdivA : OpR X (binaryOp .FloorDiv) (rI (fun _ j => divOk j) fun i j => .int (i.fdiv j)) := opI fun i j _ _ _ _ _ hc q => floordiv_int hc.1 q (.inl (PyProof.noPylong_of_log2 hc.2))
variable {mg : Str → Option Value} {g : Gh} {st : Store} {H : Hp} {Q : VK} {E : XK}
theorem vr_int {K : PySem.W.Frag} {i : Int} {v : V} (r : VR K g (.d (.int i)) v) : v = .int i := by
  cases r with
  | d h => cases h; rfl
theorem vr_str {K : PySem.W.Frag} {i : Str} {v : V} (r : VR K g (.d (.str i)) v) : v = .str i := by
  cases r with
  | d h => cases h; rfl
theorem vr_bl {K : PySem.W.Frag} {i : Bool} {v : V} (r : VR K g (.d (.bool i)) v) : v = .bl i := by
  cases r with
  | d h => cases h; rfl
theorem vr_non {K : PySem.W.Frag} {v : V} (r : VR K g (.d .none) v) : v = .non := by
  cases r with
  | d h => cases h; rfl
theorem vInt2_ok {K : PySem.W.Frag} {x y : Val} {v w : V} {k : Int → Int → R Val} (rx : VR K g x v) (ry : VR K g y w) (h : Post K mg g (VR K) (vInt2 x y k) Q E) :
    ∃ i j, v = .int i ∧ w = .int j ∧ Post K mg g (VR K) (k i j) Q E := by
  unfold vInt2 at h
  split at h
  · rename_i i j
    exact ⟨i, j, vr_int rx, vr_int ry, h⟩
  · exact h.elim
theorem mkT_okV {K : PySem.W.Frag} {xs : List Val} {vs : List V} (hs : SR K g st H) (r : VRs K g xs vs) (h : Post K mg g (VR K) (mkT xs st) Q E) :
    vs.length ≤ sizeLine ∧ (∀ p, SqT K g.F p vs → Q (.ref p) H) ∧ ∀ p, H p = none → Q (.ref p) (upd H p (.tup vs)) := by
  obtain ⟨h1, h2⟩ := mkT_ok hs r h
  refine ⟨h1, fun p hp => ?_, h2⟩
  unfold mkT at h
  split at h
  · exact h.ok hs (tupV_ok hp r)
  · exact h.elim
theorem vCat_ok {m : Bool} {x y : Val} {v w : V} (hs : SR X.K g st H) (rx : VR X.K g x v) (ry : VR X.K g y w) (h : Post X.K X.mg g (VR X.K) (vCat m st (seqOf st x) (seqOf st y)) Q E) : WO X (binaryOp .Add) v w H Q := by
  unfold vCat at h
  split at h
  · rename_i xs ys e1 e2
    obtain ⟨a, vs, rfl, h1, r1⟩ := seqOf_ok hs rx e1
    obtain ⟨b, ws, rfl, h2, r2⟩ := seqOf_ok hs ry e2
    obtain ⟨hz, q⟩ := mkL_ok hs (r1.append r2) h
    exact ⟨_, op_cat, a, b, vs, ws, rfl, rfl, h1, h2, by rw [← List.length_append]; exact hz, q⟩
  · rename_i xs ys e1 e2
    obtain ⟨a, vs, rfl, h1, r1⟩ := seqOf_ok hs rx e1
    obtain ⟨b, ws, rfl, h2, r2⟩ := seqOf_ok hs ry e2
    by_cases n1 : ws = []
    · subst n1
      cases r2
      obtain ⟨hz, q⟩ := mkT_okV hs (r1.append .nil) h
      rw [List.append_nil] at hz q
      refine ⟨_, op_catA, a, b, vs, [], rfl, rfl, sqT_sub hs.ext h1, sqT_sub hs.ext h2, hz, fun n2 => ?_, fun _ _ => q.1 a h1, fun _ z => absurd rfl z⟩
      subst n2
      cases r1
      exact q.1 b h2
    · by_cases n2 : vs = []
      · subst n2
        cases r1
        obtain ⟨hz, q⟩ := mkT_okV hs (VRs.append .nil r2) h
        refine ⟨_, op_catA, a, b, [], ws, rfl, rfl, sqT_sub hs.ext h1, sqT_sub hs.ext h2, by simpa using hz, fun _ => q.1 b h2, fun z => absurd rfl z, fun z => absurd rfl z⟩
      · obtain ⟨hz, q⟩ := mkT_okV hs (r1.append r2) h
        exact ⟨_, op_catA, a, b, vs, ws, rfl, rfl, sqT_sub hs.ext h1, sqT_sub hs.ext h2, by rw [← List.length_append]; exact hz, fun z => absurd z n2, fun _ z => absurd z n1, fun _ _ => q.2⟩
  · exact h.elim
theorem vRep_ok {m : Bool} {x : Val} {v : V} {k : Int} (hs : SR X.K g st H) (rx : VR X.K g x v) (h : Post X.K X.mg g (VR X.K) (vRep m st k (seqOf st x)) Q E) : WO X (binaryOp .Mult) v (.int k) H Q := by
  unfold vRep at h
  split at h
  · rename_i xs e1
    split at h
    · rename_i hk
      obtain ⟨a, vs, rfl, h1, r1⟩ := seqOf_ok hs rx e1
      obtain ⟨hz, q⟩ := mkL_ok hs (r1.rep k.toNat) h
      refine ⟨_, op_rep, a, k, vs, rfl, rfl, h1, by omega, by omega, ?_, q⟩
      rw [PyProof.Rows.lm_len_rep_flat, Nat.mul_comm] at hz
      exact hz
    · exact h.elim
  · rename_i xs e1
    split at h
    · rename_i hk
      obtain ⟨a, vs, rfl, h1, r1⟩ := seqOf_ok hs rx e1
      obtain ⟨hz, q⟩ := mkT_okV hs (r1.rep k.toNat) h
      refine ⟨_, op_repT, a, k, vs, rfl, rfl, sqT_sub hs.ext h1, ?_, hk.2.1, hk.2.2.1, by rw [← r1.length]; exact hk.2.2.2, q.2⟩
      intro z
      subst z
      cases r1
      exact hk.1 rfl
    · exact h.elim
  · exact h.elim
theorem bin_ok {m : Bool} {op : Operator} {x y : Val} {v w : V} (hs : SR X.K g st H) (rx : VR X.K g x v) (ry : VR X.K g y w) (h : Post X.K X.mg g (VR X.K) (vBin m op x y st) Q E) : WO X (binaryOp op) v w H Q := by
  have fin : ∀ {z : Int}, Post X.K X.mg g (VR X.K) (R.ok (Val.d (.int z)) st) Q E → Q (.int z) H := fun q => q.ok hs (.d (.int _))
  cases op with
  | Add =>
    replace h : Post X.K X.mg g (VR X.K) (vAdd m x y st) Q E := h
    unfold vAdd at h
    split at h
    · rename_i i j
      cases vr_int rx
      cases vr_int ry
      exact ⟨_, op_add, i, j, rfl, rfl, fin h⟩
    · rename_i a b
      split at h
      · rename_i hl
        cases vr_str rx
        cases vr_str ry
        exact ⟨_, op_add_str, a, b, rfl, rfl, lim_line hl, h.ok hs (.d (.str _))⟩
      · exact h.elim
    · exact vCat_ok hs rx ry h
  | Sub =>
    obtain ⟨i, j, rfl, rfl, q⟩ := vInt2_ok rx ry h
    exact ⟨_, op_sub, i, j, rfl, rfl, fin q⟩
  | Mult =>
    replace h : Post X.K X.mg g (VR X.K) (vMul m x y st) Q E := h
    unfold vMul at h
    split at h
    · rename_i i j
      cases vr_int rx
      cases vr_int ry
      split at h
      · rename_i hm
        rcases hm with hm | hm | hm
        · exact ⟨_, op_mul, i, j, rfl, rfl, .inl (by omega), fin h⟩
        · exact ⟨_, op_mul, i, j, rfl, rfl, .inr (by omega), fin h⟩
        · exact ⟨_, op_mulW, i, j, rfl, rfl, hm, fin h⟩
      · exact h.elim
    · rename_i k _
      cases vr_int ry
      exact vRep_ok hs rx h
    · exact h.elim
  | FloorDiv =>
    obtain ⟨i, j, rfl, rfl, q⟩ := vInt2_ok rx ry h
    split at q
    · rename_i hc
      exact ⟨_, op_fdivA, i, j, rfl, rfl, hc, fin q⟩
    · exact q.elim
  | Mod =>
    obtain ⟨i, j, rfl, rfl, q⟩ := vInt2_ok rx ry h
    split at q
    · rename_i hc
      exact ⟨_, op_modN, i, j, rfl, rfl, hc, fin q⟩
    · exact q.elim
  | Pow =>
    obtain ⟨i, j, rfl, rfl, q⟩ := vInt2_ok rx ry h
    split at q
    · rename_i hc
      exact ⟨_, op_pow, i, j, rfl, rfl, ⟨hc.1, hc.2.1, hc.2.2⟩, fin q⟩
    · exact q.elim
  | LShift =>
    obtain ⟨i, j, rfl, rfl, q⟩ := vInt2_ok rx ry h
    split at q
    · rename_i hc
      exact ⟨_, op_shl, i, j, rfl, rfl, ⟨hc.1, hc.2.1, hc.2.2⟩, fin q⟩
    · exact q.elim
  | RShift =>
    obtain ⟨i, j, rfl, rfl, q⟩ := vInt2_ok rx ry h
    split at q
    · rename_i hc
      exact ⟨_, op_shr, i, j, rfl, rfl, hc, fin q⟩
    · exact q.elim
  | BitAnd =>
    obtain ⟨i, j, rfl, rfl, q⟩ := vInt2_ok rx ry h
    exact ⟨_, op_and, i, j, rfl, rfl, fin q⟩
  | _ => exact h.elim
def bBin (m : Bool) (op : Operator) (f h : CE) : CE := fun env st => (f env st).bind fun x st1 => (h env st1).bind fun y st2 => vBin m op x y st2
theorem c_bin {W : WXf} (m : Bool) {op : Operator} {a b : Expr} {f h : CE} {pos : Pos} (ha : Cmp X W a f) (hb : Cmp X W b h) : Cmp X W (.BinOp a op b pos) (bBin m op f h) := by
  refine ⟨fun g σ H env st Q hs he q => ⟨_, pe_op op_W pe_W pe_W, ?_⟩⟩
  refine ha.run g σ H env st _ hs he (Post.bind q fun g1 v H1 x st1 le1 s1 r1 q1 => ?_)
  refine hb.run g1 σ H1 env st1 _ s1 (he.mono le1) (Post.bind q1 fun g2 w H2 y st2 le2 s2 r2 q2 => ?_)
  exact bin_ok s2 (r1.mono le2) r2 q2
def vNeg (x : Val) (st : Store) : R Val := match x with
  | .d (.int i) => .ok (.d (.int (-i))) st
  | _ => .no
def bNeg (f : CE) : CE := fun env st => (f env st).bind fun x st1 => vNeg x st1
theorem c_neg {W : WXf} {a : Expr} {f : CE} {pos : Pos} (ha : Cmp X W a f) : Cmp X W (.UnaryOp .USub a pos) (bNeg f) := by
  refine ⟨fun g σ H env st Q hs he q => ⟨_, pe_un un_neg pe_W, ?_⟩⟩
  refine ha.run g σ H env st _ hs he (Post.bind q fun g1 v H1 x st1 le1 s1 r1 q1 => ?_)
  unfold vNeg at q1
  split at q1
  · rename_i i
    exact ⟨i, vr_int r1, q1.ok s1 (.d (.int _))⟩
  · exact q1.elim

/-! ### comparisons -/
def depOk (d e : PyData) : Prop := min d.depth e.depth ≤ 60
instance (d e : PyData) : Decidable (depOk d e) := by unfold depOk; infer_instance
def vEqv (st : Store) (x y : Val) : Option Bool := match deepV 16 st x, deepV 16 st y with
  | some d, some e => if depOk d e then some (PyData.eqv d e) else none
  | _, _ => none
def vIn (st : Store) (x y : Val) : Option Bool := match deepV 16 st x, deepV 16 st y with
  | some d, some (.list es) => if min (PyData.depthAll es) d.depth ≤ 60 then some (es.any fun e => PyData.eqv e d) else none
  | some d, some (.tuple es) => if min (PyData.depthAll es) d.depth ≤ 60 then some (es.any fun e => PyData.eqv e d) else none
  | some (.str a), some (.str b) => some (!(Builtin.Str.occurrences b a 0 b.length 1).isEmpty)
  | _, _ => none
def cmpI (x y : Val) (k : Int → Int → Bool) : Option Bool := match x, y with
  | .d (.int i), .d (.int j) => some (k i j)
  | _, _ => none
def vIs (x y : Val) : Option Bool := match x, y with
  | .d .none, .d .none => some true
  | .d (.bool _), .d .none => some false
  | .d (.int _), .d .none => some false
  | .d (.str _), .d .none => some false
  | .d (.list _), .d .none => some false
  | .d (.tuple _), .d .none => some false
  | .c _, .d .none => some false
  | .t _, .d .none => some false
  | .d (.bool a), .d (.bool b) => some (decide (a = b))
  | _, _ => none
def vCmp (op : CmpOp) (x y : Val) (st : Store) : Option Bool := match op with
  | .Eq => vEqv st x y
  | .NotEq => (vEqv st x y).map (!·)
  | .Lt => cmpI x y fun i j => decide (i < j)
  | .LtE => cmpI x y fun i j => decide (i ≤ j)
  | .Gt => cmpI x y fun i j => decide (j < i)
  | .GtE => cmpI x y fun i j => decide (j ≤ i)
  | .Is => vIs x y
  | .IsNot => (vIs x y).map (!·)
  | .In => vIn st x y
  | .NotIn => (vIn st x y).map (!·)
mutual
theorem dp_plain {K : PySem.W.Frag} {H : Hp} : ∀ {v : V} {d : PyData}, Dp K H v d → d.plain = true
  | _, _, .non => by rw [PyData.plain]
  | _, _, .bl b => by rw [PyData.plain]
  | _, _, .int i => by rw [PyData.plain]
  | _, _, .str x => by rw [PyData.plain]
  | _, _, .lst h r => by rw [PyData.plain]; exact dpAll_plain r
  | _, _, .tup h r => by rw [PyData.plain]; exact dpAll_plain r
theorem dpAll_plain {K : PySem.W.Frag} {H : Hp} : ∀ {vs : List V} {ds : List PyData}, DpAll K H vs ds → PyData.plainAll ds = true
  | _, _, .nil => by rw [PyData.plainAll]
  | _, _, .cons h r => by rw [PyData.plainAll, dp_plain h, dpAll_plain r]; rfl
end
theorem op_eqP (hu : X.A.units + 64 < cLine) : OpR X (compareOp .Eq) fun x y H Q => ∃ d e, Dp X.K H x d ∧ Dp X.K H y e ∧ depOk d e ∧ Q (.bl (PyData.eqv d e)) H := by
  intro pins s σ H x y v u Q I rx ry h
  obtain ⟨d, e, hd, he, hk, q⟩ := h
  obtain ⟨as, r1⟩ := Dp.reads I d x v hd rx
  obtain ⟨bs, r2⟩ := Dp.reads I e y u he ry
  exact SeqAt.eq_plain r1 r2 (dp_plain hd) (dp_plain he) (by unfold depOk at hk; omega) ⟨.bl _, H, I, rfl, q⟩
theorem op_neP (hu : X.A.units + 64 < cLine) : OpR X (compareOp .NotEq) fun x y H Q => ∃ d e, Dp X.K H x d ∧ Dp X.K H y e ∧ depOk d e ∧ Q (.bl (!PyData.eqv d e)) H := by
  intro pins s σ H x y v u Q I rx ry h
  obtain ⟨d, e, hd, he, hk, q⟩ := h
  obtain ⟨as, r1⟩ := Dp.reads I d x v hd rx
  obtain ⟨bs, r2⟩ := Dp.reads I e y u he ry
  exact SeqAt.ne_plain r1 r2 (dp_plain hd) (dp_plain he) (by unfold depOk at hk; omega) ⟨.bl _, H, I, rfl, q⟩
theorem op_inP (hu : X.A.units + 64 < cLine) : OpR X (compareOp .In) fun x y H Q => ∃ d es, Dp X.K H x d ∧ (Dp X.K H y (.list es) ∨ Dp X.K H y (.tuple es)) ∧ min (PyData.depthAll es) d.depth ≤ 60 ∧ Q (.bl (es.any fun e => PyData.eqv e d)) H := by
  intro pins s σ H x y v u Q I rx ry h
  obtain ⟨d, es, hd, he, hk, q⟩ := h
  obtain ⟨as, r1⟩ := Dp.reads I d x v hd rx
  rcases he with he | he
  · obtain ⟨bs, r2⟩ := Dp.reads I _ y u he ry
    have hp := dp_plain he
    rw [PyData.plain] at hp
    exact SeqAt.in_list_data r2 r1 hp (dp_plain hd) (by omega) ⟨.bl _, H, I, rfl, q⟩
  · obtain ⟨bs, r2⟩ := Dp.reads I _ y u he ry
    have hp := dp_plain he
    rw [PyData.plain] at hp
    exact SeqAt.in_tuple_data r2 r1 hp (dp_plain hd) (by omega) ⟨.bl _, H, I, rfl, q⟩
theorem op_notInP (hu : X.A.units + 64 < cLine) : OpR X (compareOp .NotIn) fun x y H Q => ∃ d es, Dp X.K H x d ∧ (Dp X.K H y (.list es) ∨ Dp X.K H y (.tuple es)) ∧ min (PyData.depthAll es) d.depth ≤ 60 ∧ Q (.bl (!es.any fun e => PyData.eqv e d)) H := by
  intro pins s σ H x y v u Q I rx ry h
  obtain ⟨d, es, hd, he, hk, q⟩ := h
  obtain ⟨as, r1⟩ := Dp.reads I d x v hd rx
  rcases he with he | he
  · obtain ⟨bs, r2⟩ := Dp.reads I _ y u he ry
    have hp := dp_plain he
    rw [PyData.plain] at hp
    exact SeqAt.notIn_list_data r2 r1 hp (dp_plain hd) (by omega) ⟨.bl _, H, I, rfl, q⟩
  · obtain ⟨bs, r2⟩ := Dp.reads I _ y u he ry
    have hp := dp_plain he
    rw [PyData.plain] at hp
    exact SeqAt.notIn_tuple_data r2 r1 hp (dp_plain hd) (by omega) ⟨.bl _, H, I, rfl, q⟩
theorem vEqv_ok {x y : Val} {v w : V} {b : Bool} (hs : SR X.K g st H) (rx : VR X.K g x v) (ry : VR X.K g y w) (h : vEqv st x y = some b) : ∃ d e, Dp X.K H v d ∧ Dp X.K H w e ∧ depOk d e ∧ b = PyData.eqv d e := by
  unfold vEqv at h
  split at h
  · rename_i d e h1 h2
    split at h
    · rename_i hk
      cases h
      exact ⟨d, e, dx_dp (deepV_ok hs _ _ _ _ rx h1), dx_dp (deepV_ok hs _ _ _ _ ry h2), hk, rfl⟩
    · cases h
  · cases h
theorem dx_str {K : PySem.W.Frag} {H : Hp} {v : V} {a : Str} (h : Dx K H v (.str a)) : v = .str a := by cases h; rfl
theorem cmp_ok {op : CmpOp} {x y : Val} {v w : V} {b : Bool} (hu : X.A.units + 64 < cLine) (hs : SR X.K g st H) (rx : VR X.K g x v) (ry : VR X.K g y w) (h : vCmp op x y st = some b) (q : Q (.bl b) H) : WO X (compareOp op) v w H Q := by
  have hin : ∀ {k : Int → Int → Bool}, cmpI x y k = some b → ∃ i j, v = .int i ∧ w = .int j ∧ k i j = b := fun {k} e => by
    unfold cmpI at e
    split at e
    · rename_i i j
      cases e
      exact ⟨i, j, vr_int rx, vr_int ry, rfl⟩
    · cases e
  have isn : ∀ {c : Bool}, vIs x y = some c → (w = .non ∧ c = decide (v = .non)) ∨ ∃ i j, v = .bl i ∧ w = .bl j ∧ c = decide (i = j) := fun {c} e => by
    unfold vIs at e
    split at e
    · cases e; exact .inl ⟨vr_non ry, by rw [vr_non rx]; rfl⟩
    · cases e; exact .inl ⟨vr_non ry, by rw [vr_bl rx]; rfl⟩
    · cases e; exact .inl ⟨vr_non ry, by rw [vr_int rx]; rfl⟩
    · cases e; exact .inl ⟨vr_non ry, by rw [vr_str rx]; rfl⟩
    · cases e; refine .inl ⟨vr_non ry, ?_⟩; cases rx with | d h => cases h; rfl
    · cases e; refine .inl ⟨vr_non ry, ?_⟩; cases rx with | d h => cases h; rfl
    · cases e; refine .inl ⟨vr_non ry, ?_⟩; cases rx; rfl
    · cases e; refine .inl ⟨vr_non ry, ?_⟩; cases rx; rfl
    · cases e; exact .inr ⟨_, _, vr_bl rx, vr_bl ry, rfl⟩
    · cases e
  have inn : ∀ {c : Bool}, vIn st x y = some c → (∃ d es, Dp X.K H v d ∧ (Dp X.K H w (.list es) ∨ Dp X.K H w (.tuple es)) ∧ min (PyData.depthAll es) d.depth ≤ 60 ∧ c = es.any fun e => PyData.eqv e d) ∨
      ∃ a z, v = .str a ∧ w = .str z ∧ c = !(Builtin.Str.occurrences z a 0 z.length 1).isEmpty := fun {c} e => by
    unfold vIn at e
    split at e
    · rename_i d es h1 h2
      split at e
      · cases e; exact .inl ⟨d, es, dx_dp (deepV_ok hs _ _ _ _ rx h1), .inl (dx_dp (deepV_ok hs _ _ _ _ ry h2)), by assumption, rfl⟩
      · cases e
    · rename_i d es h1 h2
      split at e
      · cases e; exact .inl ⟨d, es, dx_dp (deepV_ok hs _ _ _ _ rx h1), .inr (dx_dp (deepV_ok hs _ _ _ _ ry h2)), by assumption, rfl⟩
      · cases e
    · rename_i a z h1 h2
      cases e
      exact .inr ⟨a, z, dx_str (deepV_ok hs _ _ _ _ rx h1), dx_str (deepV_ok hs _ _ _ _ ry h2), rfl⟩
    · cases e
  cases op with
  | Eq =>
    obtain ⟨d, e, h1, h2, h3, rfl⟩ := vEqv_ok hs rx ry h
    exact ⟨_, op_eqP hu, d, e, h1, h2, h3, q⟩
  | NotEq =>
    obtain ⟨c, hc, rfl⟩ := Option.map_eq_some_iff.mp (show (vEqv st x y).map (!·) = some b from h)
    obtain ⟨d, e, h1, h2, h3, rfl⟩ := vEqv_ok hs rx ry hc
    exact ⟨_, op_neP hu, d, e, h1, h2, h3, q⟩
  | Lt =>
    obtain ⟨i, j, rfl, rfl, rfl⟩ := hin h
    exact ⟨_, op_lt, i, j, rfl, rfl, q⟩
  | LtE =>
    obtain ⟨i, j, rfl, rfl, rfl⟩ := hin h
    exact ⟨_, op_le, i, j, rfl, rfl, q⟩
  | Gt =>
    obtain ⟨i, j, rfl, rfl, rfl⟩ := hin h
    exact ⟨_, op_gt, i, j, rfl, rfl, q⟩
  | GtE =>
    obtain ⟨i, j, rfl, rfl, rfl⟩ := hin h
    exact ⟨_, op_ge, i, j, rfl, rfl, q⟩
  | Is =>
    rcases isn h with ⟨rfl, rfl⟩ | ⟨i, j, rfl, rfl, rfl⟩
    · exact ⟨_, op_isN, rfl, q⟩
    · exact ⟨_, op_isBl, i, j, rfl, rfl, q⟩
  | IsNot =>
    obtain ⟨c, hc, rfl⟩ := Option.map_eq_some_iff.mp (show (vIs x y).map (!·) = some b from h)
    rcases isn hc with ⟨rfl, rfl⟩ | ⟨i, j, rfl, rfl, rfl⟩
    · exact ⟨_, op_notN, rfl, q⟩
    · exact ⟨_, op_notBl, i, j, rfl, rfl, q⟩
  | In =>
    rcases inn h with ⟨d, es, h1, h2, h3, rfl⟩ | ⟨a, z, rfl, rfl, rfl⟩
    · exact ⟨_, op_inP hu, d, es, h1, h2, h3, q⟩
    · exact ⟨_, op_in_str, a, z, rfl, rfl, q⟩
  | NotIn =>
    obtain ⟨c, hc, rfl⟩ := Option.map_eq_some_iff.mp (show (vIn st x y).map (!·) = some b from h)
    rcases inn hc with ⟨d, es, h1, h2, h3, rfl⟩ | ⟨a, z, rfl, rfl, rfl⟩
    · exact ⟨_, op_notInP hu, d, es, h1, h2, h3, q⟩
    · exact ⟨_, op_notIn_str, a, z, rfl, rfl, q⟩
end
end Z

namespace Z
open PySem PySem.Spec PyProof.Rows L2

section
variable {X : Cx} {W : WXf}
/-! ### comparisons as values, as tests -/
def rB (o : Option Bool) (st : Store) : R Bool := match o with
  | some b => .ok b st
  | none => .no
def toV (b : Bool) (st : Store) : R Val := .ok (.d (.bool b)) st
def bCmpT (op : CmpOp) (f h : CE) : CT := fun env st => (f env st).bind fun x st1 => (h env st1).bind fun y st2 => rB (vCmp op x y st2) st2
def bCmp (op : CmpOp) (f h : CE) : CE := fun env st => (f env st).bind fun x st1 => (h env st1).bind fun y st2 => (rB (vCmp op x y st2) st2).bind toV
theorem rB_some {o : Option Bool} {st : Store} {γ δ : Type} {K : PySem.W.Frag} {mg : Str → Option Value} {g : Gh} {rel : Gh → γ → δ → Prop} {k : Bool → Store → R γ} {Q : δ → Hp → Prop} {E : XK} (h : Post K mg g rel ((rB o st).bind k) Q E) :
    ∃ b, o = some b ∧ Post K mg g rel (k b st) Q E := by
  cases o with
  | some b => exact ⟨b, rfl, h⟩
  | none => exact h.elim
theorem rB_some0 {o : Option Bool} {st : Store} {K : PySem.W.Frag} {mg : Str → Option Value} {g : Gh} {Q : Bool → Hp → Prop} {E : XK} (h : Post K mg g relB (rB o st) Q E) : ∃ b, o = some b ∧ Post K mg g relB (R.ok b st) Q E := by
  cases o with
  | some b => exact ⟨b, rfl, h⟩
  | none => exact h.elim
theorem c_cmp {op : CmpOp} {a b : Expr} {f h : CE} {pos : Pos} (hu : X.A.units + 64 < cLine) (ha : Cmp X W a f) (hb : Cmp X W b h) (hm : behindInMarks op b = false) : Cmp X W (.Compare a [op] [b] pos) (bCmp op f h) := by
  refine ⟨fun g σ H env st Q hs he q => ⟨_, pe_cmpR op_W pe_W pe_W hm, ?_⟩⟩
  refine ha.run g σ H env st _ hs he (Post.bind q fun g1 v H1 x st1 le1 s1 r1 q1 => ?_)
  refine hb.run g1 σ H1 env st1 _ s1 (he.mono le1) (Post.bind q1 fun g2 w H2 y st2 le2 s2 r2 q2 => ?_)
  obtain ⟨k, hk, q3⟩ := rB_some q2
  exact cmp_ok hu s2 (r1.mono le2) r2 hk (q3.ok s2 (.d (.bl k)))
theorem t_cmp {op : CmpOp} {a b : Expr} {f h : CE} {pos : Pos} (hu : X.A.units + 64 < cLine) (ha : Cmp X W a f) (hb : Cmp X W b h) (hm : behindInMarks op b = false) : CmpT X W (.Compare a [op] [b] pos) (bCmpT op f h) := by
  refine ⟨fun g σ H env st Q hs he q => ⟨_, pt_cmpR op_W pe_W pe_W hm, ?_⟩⟩
  refine ha.run g σ H env st _ hs he (Post.bind q fun g1 v H1 x st1 le1 s1 r1 q1 => ?_)
  refine hb.run g1 σ H1 env st1 _ s1 (he.mono le1) (Post.bind q1 fun g2 w H2 y st2 le2 s2 r2 q2 => ?_)
  obtain ⟨k, hk, q3⟩ := rB_some0 q2
  exact cmp_ok hu s2 (r1.mono le2) r2 hk ⟨k, rfl, q3.ok s2 rfl⟩
/-- a < b < c -/
def bCh2T (op op' : CmpOp) (f h k : CE) : CT := fun env st => (f env st).bind fun x st1 => (h env st1).bind fun y st2 => (rB (vCmp op x y st2) st2).bind fun b st2 =>
  if b then (k env st2).bind fun z st3 => rB (vCmp op' y z st3) st3 else .ok false st2
def bCh2 (op op' : CmpOp) (f h k : CE) : CE := fun env st => (bCh2T op op' f h k env st).bind toV
theorem Post.bindA {α β γ δ ε : Type} {K : PySem.W.Frag} {mg : Str → Option Value} {g : Gh} {rel : Gh → α → β → Prop} {rel' : Gh → γ → δ → Prop} {r : R α} {k : α → Store → R ε} {k' : ε → Store → R γ} {Q : δ → Hp → Prop} {Q1 : β → Hp → Prop} {E : XK} (h : Post K mg g rel' ((r.bind k).bind k') Q E)
    (f : ∀ g1 v H x st, Le g g1 → SR K g1 st H → rel g1 x v → Post K mg g1 rel' ((k x st).bind k') Q E → Q1 v H) : Post K mg g rel r Q1 E := by
  cases r with
  | ok x st => exact fun g1 v H le hs hr => f g1 v H x st le hs hr (h.mono le)
  | ex x st => exact h
  | no => exact h
theorem c_ch2 {op op' : CmpOp} {a b c : Expr} {f h k : CE} {pos : Pos} (hu : X.A.units + 64 < cLine) (ha : Cmp X W a f) (hb : Cmp X W b h) (hc : Cmp X W c k) (hm : lastMarks [op, op'] [b, c] = false) : Cmp X W (.Compare a [op, op'] [b, c] pos) (bCh2 op op' f h k) := by
  refine ⟨fun g σ H env st Q hs he q => ⟨_, pe_chain op_W op_W pe_W pe_W pe_W hm, ?_⟩⟩
  refine ha.run g σ H env st _ hs he (Post.bindA q fun g1 v H1 x st1 le1 s1 r1 q1 => ?_)
  refine hb.run g1 σ H1 env st1 _ s1 (he.mono le1) (Post.bindA q1 fun g2 w H2 y st2 le2 s2 r2 q2 => ?_)
  cases hk : vCmp op x y st2 with
  | none => rw [hk] at q2; exact q2.elim
  | some d =>
    rw [hk] at q2
    refine cmp_ok hu s2 (r1.mono le2) r2 hk ⟨d, rfl, ?_⟩
    cases d with
    | false => exact iteF (q2.ok s2 (.d (.bl false)))
    | true =>
      refine iteT ?_
      refine hc.run g2 σ H2 env st2 _ s2 ((he.mono le1).mono le2) (Post.bindA q2 fun g3 u H3 z st3 le3 s3 r3 q3 => ?_)
      obtain ⟨k', hk', q4⟩ := rB_some q3
      exact cmp_ok hu s3 (r2.mono le3) r3 hk' (q4.ok s3 (.d (.bl k')))
theorem t_ch2 {op op' : CmpOp} {a b c : Expr} {f h k : CE} {pos : Pos} (hu : X.A.units + 64 < cLine) (ha : Cmp X W a f) (hb : Cmp X W b h) (hc : Cmp X W c k) (hm : lastMarks [op, op'] [b, c] = false) : CmpT X W (.Compare a [op, op'] [b, c] pos) (bCh2T op op' f h k) := by
  refine ⟨fun g σ H env st Q hs he q => ⟨_, pt_chain op_W op_W pe_W pe_W pe_W hm, ?_⟩⟩
  refine ha.run g σ H env st _ hs he (Post.bind q fun g1 v H1 x st1 le1 s1 r1 q1 => ?_)
  refine hb.run g1 σ H1 env st1 _ s1 (he.mono le1) (Post.bind q1 fun g2 w H2 y st2 le2 s2 r2 q2 => ?_)
  cases hk : vCmp op x y st2 with
  | none => rw [hk] at q2; exact q2.elim
  | some d =>
    rw [hk] at q2
    refine cmp_ok hu s2 (r1.mono le2) r2 hk ⟨d, rfl, ?_⟩
    cases d with
    | false => exact iteF ⟨false, rfl, q2.ok s2 rfl⟩
    | true =>
      refine iteT ?_
      refine hc.run g2 σ H2 env st2 _ s2 ((he.mono le1).mono le2) (Post.bind q2 fun g3 u H3 z st3 le3 s3 r3 q3 => ?_)
      obtain ⟨k', hk', q4⟩ := rB_some0 q3
      exact cmp_ok hu s3 (r2.mono le3) r3 hk' ⟨k', rfl, q4.ok s3 rfl⟩

/-! ### and, or, not, if -/
def bAndT : List CT → CT
  | [] => fun _ _ => .no
  | [f] => f
  | f :: fs => fun env st => (f env st).bind fun b st1 => if b then bAndT fs env st1 else .ok false st1
def bOrT : List CT → CT
  | [] => fun _ _ => .no
  | [f] => f
  | f :: fs => fun env st => (f env st).bind fun b st1 => if b then .ok true st1 else bOrT fs env st1
theorem b_and1 {a : Expr} {f : CT} {pos : Pos} (ha : CmpT X W a f) : CmpB X W (.BoolOp .And [a] pos) (bAndT [f]) := ⟨fun g σ H env st Q hs he q => ⟨_, pw_and1 pt_W, ha.run g σ H env st Q hs he q⟩⟩
theorem b_or1 {a : Expr} {f : CT} {pos : Pos} (ha : CmpT X W a f) : CmpB X W (.BoolOp .Or [a] pos) (bOrT [f]) := ⟨fun g σ H env st Q hs he q => ⟨_, pw_or1 pt_W, ha.run g σ H env st Q hs he q⟩⟩
theorem b_and {a b : Expr} {r : List Expr} {f f' : CT} {fs : List CT} {pos : Pos} (ha : CmpT X W a f) (hb : CmpB X W (.BoolOp .And (b :: r) pos) (bAndT (f' :: fs))) : CmpB X W (.BoolOp .And (a :: b :: r) pos) (bAndT (f :: f' :: fs)) := by
  refine ⟨fun g σ H env st Q hs he q => ⟨_, pw_and pt_W pw_W, ?_⟩⟩
  refine ha.run g σ H env st _ hs he (Post.bind (k := fun b st1 => if b then bAndT (f' :: fs) env st1 else .ok false st1) q fun g1 v H1 x st1 le1 s1 r1 q1 => ?_)
  cases r1
  cases v with
  | true => exact iteT (hb.run g1 σ H1 env st1 Q s1 (he.mono le1) q1)
  | false => exact iteF (q1.ok s1 rfl)
theorem b_or {a b : Expr} {r : List Expr} {f f' : CT} {fs : List CT} {pos : Pos} (ha : CmpT X W a f) (hb : CmpB X W (.BoolOp .Or (b :: r) pos) (bOrT (f' :: fs))) : CmpB X W (.BoolOp .Or (a :: b :: r) pos) (bOrT (f :: f' :: fs)) := by
  refine ⟨fun g σ H env st Q hs he q => ⟨_, pw_or pt_W pw_W, ?_⟩⟩
  refine ha.run g σ H env st _ hs he (Post.bind (k := fun b st1 => if b then .ok true st1 else bOrT (f' :: fs) env st1) q fun g1 v H1 x st1 le1 s1 r1 q1 => ?_)
  cases r1
  cases v with
  | true => exact iteT (q1.ok s1 rfl)
  | false => exact iteF (hb.run g1 σ H1 env st1 Q s1 (he.mono le1) q1)
theorem t_b {e : Expr} {f : CT} (h : CmpB X W e f) : CmpT X W e f := ⟨fun g σ H env st Q hs he q => ⟨_, pw_W.pt, h.run g σ H env st Q hs he q⟩⟩
def bNotT (f : CT) : CT := fun env st => (f env st).bind fun b st1 => .ok (!b) st1
theorem t_not {a : Expr} {f : CT} {pos : Pos} (ha : CmpT X W a f) : CmpT X W (.UnaryOp .Not a pos) (bNotT f) := by
  refine ⟨fun g σ H env st Q hs he q => ⟨_, pt_not pt_W, ?_⟩⟩
  refine ha.run g σ H env st _ hs he (Post.bind q fun g1 v H1 x st1 le1 s1 r1 q1 => ?_)
  cases r1
  exact q1.ok s1 rfl
/-- as values: bools -/
def asB (x : Val) (st : Store) (k : Bool → R Val) : R Val := match x with
  | .d (.bool b) => k b
  | _ => .no
def bAnd : List CE → CE
  | [] => fun _ _ => .no
  | [f] => f
  | f :: fs => fun env st => (f env st).bind fun x st1 => asB x st1 fun b => if b then bAnd fs env st1 else toV false st1
def bOr : List CE → CE
  | [] => fun _ _ => .no
  | [f] => f
  | f :: fs => fun env st => (f env st).bind fun x st1 => asB x st1 fun b => if b then toV true st1 else bOr fs env st1
theorem asB_ok {K : PySem.W.Frag} {mg : Str → Option Value} {g : Gh} {x : Val} {v : V} {st : Store} {k : Bool → R Val} {Q : VK} {E : XK} (r : VR K g x v) (h : Post K mg g (VR K) (asB x st k) Q E) : ∃ b, v = .bl b ∧ Post K mg g (VR K) (k b) Q E := by
  unfold asB at h
  split at h
  · rename_i b
    exact ⟨b, vr_bl r, h⟩
  · exact h.elim
theorem c_and1 {a : Expr} {f : CE} {pos : Pos} (ha : Cmp X W a f) : Cmp X W (.BoolOp .And [a] pos) (bAnd [f]) := ⟨fun g σ H env st Q hs he q => ⟨_, pe_one pe_W, ha.run g σ H env st Q hs he q⟩⟩
theorem c_or1 {a : Expr} {f : CE} {pos : Pos} (ha : Cmp X W a f) : Cmp X W (.BoolOp .Or [a] pos) (bOr [f]) := ⟨fun g σ H env st Q hs he q => ⟨_, pe_one pe_W, ha.run g σ H env st Q hs he q⟩⟩
theorem c_and {a b : Expr} {r : List Expr} {f f' : CE} {fs : List CE} {pos : Pos} (ha : Cmp X W a f) (hb : Cmp X W (.BoolOp .And (b :: r) pos) (bAnd (f' :: fs))) : Cmp X W (.BoolOp .And (a :: b :: r) pos) (bAnd (f :: f' :: fs)) := by
  refine ⟨fun g σ H env st Q hs he q => ⟨_, pe_and pe_W pe_W, ?_⟩⟩
  refine ha.run g σ H env st _ hs he (Post.bind (k := fun x st1 => asB x st1 fun b => if b then bAnd (f' :: fs) env st1 else toV false st1) q fun g1 v H1 x st1 le1 s1 r1 q1 => ?_)
  obtain ⟨b', rfl, q2⟩ := asB_ok r1 q1
  refine ⟨b', rfl, ?_⟩
  cases b' with
  | true => exact iteT (hb.run g1 σ H1 env st1 Q s1 (he.mono le1) q2)
  | false => exact iteF (q2.ok s1 (.d (.bl _)))
theorem c_or {a b : Expr} {r : List Expr} {f f' : CE} {fs : List CE} {pos : Pos} (ha : Cmp X W a f) (hb : Cmp X W (.BoolOp .Or (b :: r) pos) (bOr (f' :: fs))) : Cmp X W (.BoolOp .Or (a :: b :: r) pos) (bOr (f :: f' :: fs)) := by
  refine ⟨fun g σ H env st Q hs he q => ⟨_, pe_or pe_W pe_W, ?_⟩⟩
  refine ha.run g σ H env st _ hs he (Post.bind (k := fun x st1 => asB x st1 fun b => if b then toV true st1 else bOr (f' :: fs) env st1) q fun g1 v H1 x st1 le1 s1 r1 q1 => ?_)
  obtain ⟨b', rfl, q2⟩ := asB_ok r1 q1
  refine ⟨b', rfl, ?_⟩
  cases b' with
  | true => exact iteT (q2.ok s1 (.d (.bl _)))
  | false => exact iteF (hb.run g1 σ H1 env st1 Q s1 (he.mono le1) q2)
def bNot (f : CE) : CE := fun env st => (f env st).bind fun x st1 => asB x st1 fun b => toV (!b) st1
theorem c_not {a : Expr} {f : CE} {pos : Pos} (ha : Cmp X W a f) : Cmp X W (.UnaryOp .Not a pos) (bNot f) := by
  refine ⟨fun g σ H env st Q hs he q => ⟨_, pe_not pe_W, ?_⟩⟩
  refine ha.run g σ H env st _ hs he (Post.bind q fun g1 v H1 x st1 le1 s1 r1 q1 => ?_)
  obtain ⟨b', rfl, q2⟩ := asB_ok r1 q1
  exact ⟨b', rfl, q2.ok s1 (.d (.bl _))⟩
def bIf (t : CT) (f h : CE) : CE := fun env st => (t env st).bind fun b st1 => if b then f env st1 else h env st1
theorem c_if {c a b : Expr} {t : CT} {f h : CE} {pos : Pos} (hc : CmpT X W c t) (ha : Cmp X W a f) (hb : Cmp X W b h) : Cmp X W (.IfExp c a b pos) (bIf t f h) := by
  refine ⟨fun g σ H env st Q hs he q => ⟨_, pe_ifExp pt_W pe_W pe_W, ?_⟩⟩
  refine hc.run g σ H env st _ hs he (Post.bind q fun g1 v H1 x st1 le1 s1 r1 q1 => ?_)
  cases r1
  cases v with
  | true => exact iteT (ha.run g1 σ H1 env st1 Q s1 (he.mono le1) q1)
  | false => exact iteF (hb.run g1 σ H1 env st1 Q s1 (he.mono le1) q1)
/-- truth of any value -/
def vTru (st : Store) (x : Val) : Option Bool := match x with
  | .d .none => some false
  | .d (.bool b) => some b
  | .d (.int i) => some (i != 0)
  | x => match seqOf st x with
    | some (_, xs) => some (!xs.isEmpty)
    | none => none
def bTru (f : CE) : CT := fun env st => (f env st).bind fun x st1 => rB (vTru st1 x) st1
theorem vrs_empty {K : PySem.W.Frag} {g : Gh} {xs : List Val} {vs : List V} (r : VRs K g xs vs) : xs.isEmpty = vs.isEmpty := by cases r <;> rfl
theorem tru_val {g : Gh} {st : Store} {H : Hp} {x : Val} {v : V} {b : Bool} (hs : SR X.K g st H) (r : VR X.K g x v) (h : vTru st x = some b) : TruV X.K v H b := by
  unfold vTru at h
  split at h
  · cases h; rw [vr_non r]; exact rfl
  · cases h; rw [vr_bl r]; exact rfl
  · cases h; rw [vr_int r]; exact rfl
  · split at h
    · rename_i k xs e
      cases h
      obtain ⟨a, vs, rfl, h1, r1⟩ := seqOf_ok hs r e
      rw [vrs_empty r1]
      rcases h1.any hs.ext with q | q
      · exact .inl ⟨vs, q, rfl⟩
      · exact .inr (.inl ⟨vs, q, rfl⟩)
    · cases h
theorem t_tru {a : Expr} {f : CE} (ha : Cmp X W a f) (hw : ∀ whole, isTrue a X.env whole = (do let v ← whole; standAt a.pos; holding [v] (truthy v)) := by intro _; rfl) : CmpT X W a (bTru f) := by
  refine ⟨fun g σ H env st Q hs he q => ⟨_, pt_truth pe_W hw, ?_⟩⟩
  refine ha.run g σ H env st _ hs he (Post.bind q fun g1 v H1 x st1 le1 s1 r1 q1 => ?_)
  obtain ⟨b, hb, q2⟩ := rB_some0 q1
  exact ⟨b, tru_val s1 r1 hb, q2.ok s1 rfl⟩

/-! ### items, slices, displays -/
def ixG (x : Val) (st : Store) (i : Int) : R Val := match x with
  | .d (.str z) => if z.length ≤ lim then (match atI z.cps.toList i with
    | some c => .ok (.d (.str ⟨#[c]⟩)) st
    | none => .no) else .no
  | x => match seqOf st x with
    | some (_, xs) => match atI xs i with
      | some y => .ok y st
      | none => .no
    | none => .no
def vIx (x y : Val) (st : Store) : R Val := match y with
  | .d (.int i) => ixG x st i
  | _ => .no
theorem atI_vrs {K : PySem.W.Frag} {g : Gh} {xs : List Val} {vs : List V} {i : Int} {y : Val} (r : VRs K g xs vs) (h : atI xs i = some y) : ∃ v, atI vs i = some v ∧ VR K g y v := by
  unfold atI at h ⊢
  rw [← r.length]
  cases e : ixN xs.length i with
  | none => rw [e] at h; cases h
  | some j =>
    rw [e] at h
    exact r.get h
theorem ix_ok {g : Gh} {st : Store} {H : Hp} {Q : VK} {E : XK} {x y : Val} {v w : V} (hs : SR X.K g st H) (rx : VR X.K g x v) (ry : VR X.K g y w) (h : Post X.K X.mg g (VR X.K) (vIx x y st) Q E) : WX X v w H Q := by
  unfold vIx at h
  split at h
  · rename_i i
    cases vr_int ry
    unfold ixG at h
    split at h
    · rename_i z
      cases vr_str rx
      split at h
      · rename_i hl
        split at h
        · rename_i c hc
          exact ⟨_, ix_str, z, i, c, rfl, rfl, lim_line hl, hc, h.ok hs (.d (.str _))⟩
        · exact h.elim
      · exact h.elim
    · split at h
      · rename_i k xs e
        split at h
        · rename_i y' hy
          obtain ⟨a, vs, rfl, h1, r1⟩ := seqOf_ok hs rx e
          obtain ⟨u, hu, ru⟩ := atI_vrs r1 hy
          rcases h1.any hs.ext with q | q
          · exact ⟨_, ix_list, a, vs, i, u, rfl, rfl, q, hu, h.ok hs ru⟩
          · exact ⟨_, ix_tup, a, vs, i, u, rfl, rfl, q, hu, h.ok hs ru⟩
        · exact h.elim
      · exact h.elim
  · exact h.elim
def bIx (f h : CE) : CE := fun env st => (f env st).bind fun x st1 => (h env st1).bind fun y st2 => vIx x y st2
theorem c_ix {a b : Expr} {f h : CE} {pos : Pos} (ha : Cmp X W a f) (hb : Cmp X W b h) (hp : PlainIx b := by exact fun _ _ => rfl) : Cmp X W (.Subscript a b pos) (bIx f h) := by
  refine ⟨fun g σ H env st Q hs he q => ⟨_, pe_ix ix_W pe_W pe_W hp, ?_⟩⟩
  refine ha.run g σ H env st _ hs he (Post.bind q fun g1 v H1 x st1 le1 s1 r1 q1 => ?_)
  refine hb.run g1 σ H1 env st1 _ s1 (he.mono le1) (Post.bind q1 fun g2 w H2 y st2 le2 s2 r2 q2 => ?_)
  exact ix_ok s2 (r1.mono le2) r2 q2
/-- a slice's part -/
abbrev CO := Env → Store → R (Option Int)
def relO : Gh → Option Int → Option Int → Prop := fun _ a b => a = b
structure CmpO (X : Cx) (W : WXf) (e : Option Expr) (f : CO) : Prop where
  run : ∀ g σ H env st Q, SR X.K g st H → ER X.K g env σ → Post X.K X.mg g relO (f env st) Q (eW W σ) → WPt X e σ H Q
def oNo : CO := fun _ st => .ok none st
def oAt (f : CE) : CO := fun env st => (f env st).bind fun x st1 => match x with
  | .d (.int i) => .ok (some i) st1
  | _ => .no
theorem o_no : CmpO X W none oNo := ⟨fun g σ H env st Q hs he q => ⟨_, po_none, q.ok hs rfl⟩⟩
theorem o_at {e : Expr} {f : CE} (h : Cmp X W e f) : CmpO X W (some e) (oAt f) := by
  refine ⟨fun g σ H env st Q hs he q => ⟨_, po_some pe_W, ?_⟩⟩
  refine h.run g σ H env st _ hs he (Post.bind q fun g1 v H1 x st1 le1 s1 r1 q1 => ?_)
  split at q1
  · rename_i i
    exact ⟨i, vr_int r1, q1.ok s1 rfl⟩
  · exact q1.elim
def cutL {α : Type} (xs : List α) (lo hi : Option Int) : List α := (xs.drop (HT.sIx xs.length 0 lo)).take (HT.sIx xs.length xs.length hi - HT.sIx xs.length 0 lo)
theorem cutL_vrs {K : PySem.W.Frag} {g : Gh} {xs : List Val} {vs : List V} (r : VRs K g xs vs) (lo hi : Option Int) : VRs K g (cutL xs lo hi) (cutV vs lo hi) := by
  unfold cutL cutV
  rw [← r.length]
  exact (r.drop _).take _
def vSl (m : Bool) (x : Val) (lo hi : Option Int) (st : Store) : R Val := match x with
  | .d (.str z) => if z.length ≤ lim then .ok (.d (.str (cutS z lo hi))) st else .no
  | x => match seqOf st x with
    | some (.l, xs) => mkL m (cutL xs lo hi) st
    | some (.t, xs) => mkT (cutL xs lo hi) st
    | _ => .no
theorem sl_ok {m : Bool} {g : Gh} {st : Store} {H : Hp} {Q : VK} {E : XK} {x : Val} {v : V} {lo hi : Option Int} (hs : SR X.K g st H) (rx : VR X.K g x v) (h : Post X.K X.mg g (VR X.K) (vSl m x lo hi st) Q E) : WL X v lo hi H Q := by
  unfold vSl at h
  split at h
  · rename_i z
    cases vr_str rx
    split at h
    · rename_i hl
      exact ⟨_, sl_str, z, rfl, lim_line hl, h.ok hs (.d (.str _))⟩
    · exact h.elim
  · split at h
    · rename_i xs e
      obtain ⟨a, vs, rfl, h1, r1⟩ := seqOf_ok hs rx e
      obtain ⟨hz, q⟩ := mkL_ok hs (cutL_vrs r1 lo hi) h
      exact ⟨_, sl_list, a, vs, rfl, SqL.of h1, q⟩
    · rename_i xs e
      obtain ⟨a, vs, rfl, h1, r1⟩ := seqOf_ok hs rx e
      obtain ⟨hz, q1, q2⟩ := mkT_okV hs (cutL_vrs r1 lo hi) h
      refine ⟨_, sl_tupA, a, vs, rfl, sqT_sub hs.ext h1, fun z => q1 a ?_, fun _ => q2⟩
      have e1 : cutV vs lo hi = vs := by
        unfold cutV
        rw [z.1, z.2]
        exact List.take_length
      rw [e1]
      exact h1
    · exact h.elim
def bSl (m : Bool) (f : CE) (l h : CO) : CE := fun env st => (f env st).bind fun x st1 => (l env st1).bind fun lo st2 => (h env st2).bind fun hi st3 => vSl m x lo hi st3
theorem c_sl (m : Bool) {e : Expr} {lo hi : Option Expr} {f : CE} {l h : CO} {p2 pos : Pos} (ha : Cmp X W e f) (hl : CmpO X W lo l) (hh : CmpO X W hi h) : Cmp X W (.Subscript e (.Slice lo hi none p2) pos) (bSl m f l h) := by
  refine ⟨fun g σ H env st Q hs he q => ⟨_, pe_slice sl_W pe_W po_W po_W, ?_⟩⟩
  refine ha.run g σ H env st _ hs he (Post.bind q fun g1 v H1 x st1 le1 s1 r1 q1 => ?_)
  refine hl.run g1 σ H1 env st1 _ s1 (he.mono le1) (Post.bind q1 fun g2 a H2 lo' st2 le2 s2 r2 q2 => ?_)
  refine hh.run g2 σ H2 env st2 _ s2 ((he.mono le1).mono le2) (Post.bind q2 fun g3 b H3 hi' st3 le3 s3 r3 q3 => ?_)
  cases r2
  cases r3
  exact sl_ok s3 ((r1.mono le2).mono le3) q3
def vRev (m : Bool) (x : Val) (st : Store) : R Val := match seqOf st x with
  | some (.l, xs) => mkL m xs.reverse st
  | _ => .no
def bRevL (m : Bool) (f : CE) : CE := fun env st => (f env st).bind fun x st1 => vRev m x st1
theorem c_revL (m : Bool) {e : Expr} {f : CE} {k : Nat} {p1 p2 p3 pos : Pos} (ha : Cmp X W e f) : Cmp X W (.Subscript e (.Slice none none (some (.UnaryOp .USub (.Constant (.int 1) k p1) p2)) p3) pos) (bRevL m f) := by
  refine ⟨fun g σ H env st Q hs he q => ⟨_, pe_revL pe_W, ?_⟩⟩
  refine ha.run g σ H env st _ hs he (Post.bind q fun g1 v H1 x st1 le1 s1 r1 q1 => ?_)
  unfold vRev at q1
  split at q1
  · rename_i xs e
    obtain ⟨a, vs, rfl, h1, r2⟩ := seqOf_ok s1 r1 e
    obtain ⟨hz, q2⟩ := mkL_ok s1 r2.reverse q1
    exact ⟨a, vs, rfl, SqL.of h1, q2⟩
  · exact q1.elim
def bLst (m : Bool) (fs : List CE) : CE := fun env st => (bArgs fs env st).bind fun xs st1 => mkL m xs st1
def bTup (fs : List CE) : CE := fun env st => (bArgs fs env st).bind fun xs st1 => mkT xs st1
theorem c_lst (m : Bool) {es : List Expr} {fs : List CE} {pos : Pos} (ha : CmpA X W es (bArgs fs)) : Cmp X W (.List es pos) (bLst m fs) := by
  refine ⟨fun g σ H env st Q hs he q => ⟨_, pe_lst pa_W, ?_⟩⟩
  refine ha.run g σ H env st _ hs he (Post.bind q fun g1 v H1 x st1 le1 s1 r1 q1 => ?_)
  exact mkL_ok s1 r1 q1
theorem c_tup {es : List Expr} {fs : List CE} {x1 : Nat} {pos : Pos} (ha : CmpA X W es (bArgs fs)) : Cmp X W (.Tuple es x1 pos) (bTup fs) := by
  refine ⟨fun g σ H env st Q hs he q => ⟨_, pe_tup pa_W, ?_⟩⟩
  refine ha.run g σ H env st _ hs he (Post.bind q fun g1 v H1 x st1 le1 s1 r1 q1 => ?_)
  exact mkT_ok s1 r1 q1
end
end Z

namespace Z
open PySem PySem.Spec PyProof.Rows L2

section
variable {X : Cx} {W : WXf}
/-! ### built-in functions -/
def BOk (X : Cx) (v : Value) (sem : List Val → Store → R Val) : Prop :=
  ∀ g st H xs vs Q E, SR X.K g st H → VRs X.K g xs vs → Post X.K X.mg g (VR X.K) (sem xs st) Q E → WC X v vs H Q
def bCallB (sem : List Val → Store → R Val) (fs : List CE) : CE := fun env st => (bArgs fs env st).bind fun xs st1 => sem xs st1
theorem c_callB {x : Str} {p pos : Pos} {e : Expr} {es : List Expr} {id : String} {sem : List Val → Store → R Val} {fs : List CE} (hc : BOk X (.builtin id) sem) (hg : Gl X x) (hm : X.mg x = none) (hv : bootBuiltins x = some (.builtin id)) (ha : CmpA X W (e :: es) (bArgs fs))
    (hn : x ≠ "__name__" := by decide) (hdb : (x == ("__debug__" : Str)) = false := by decide)
    (he : starEach (e :: es) X.env = (false, eval e X.env) :: starEach es X.env := by rfl) (hpl : (backTo pos (starEach es X.env)).any (·.1) = false := by rfl) : Cmp X W (.Call (.Name x p) (e :: es) [] pos) (bCallB sem fs) := by
  refine ⟨fun g σ H env st Q hs hE q => ⟨_, pe_callB cl_W hg hm hv pa_W hn hdb he hpl, ?_⟩⟩
  refine ha.run g σ H env st _ hs hE (Post.bind q fun g1 v H1 x st1 le1 s1 r1 q1 => ?_)
  exact hc g1 st1 H1 x v Q _ s1 r1 q1
theorem c_callTy {x : Str} {p pos : Pos} {e : Expr} {es : List Expr} {T : String} {sem : List Val → Store → R Val} {fs : List CE} (hc : BOk X (.type T) sem) (hg : Gl X x) (hm : X.mg x = none) (hv : bootBuiltins x = some (.type T)) (ha : CmpA X W (e :: es) (bArgs fs))
    (hn : x ≠ "__name__" := by decide) (hdb : (x == ("__debug__" : Str)) = false := by decide)
    (he : starEach (e :: es) X.env = (false, eval e X.env) :: starEach es X.env := by rfl) (hpl : (backTo pos (starEach es X.env)).any (·.1) = false := by rfl) : Cmp X W (.Call (.Name x p) (e :: es) [] pos) (bCallB sem fs) := by
  refine ⟨fun g σ H env st Q hs hE q => ⟨_, pe_callTy cl_W hg hm hv pa_W hn hdb he hpl, ?_⟩⟩
  refine ha.run g σ H env st _ hs hE (Post.bind q fun g1 v H1 x st1 le1 s1 r1 q1 => ?_)
  exact hc g1 st1 H1 x v Q _ s1 r1 q1
theorem vrs1 {K : PySem.W.Frag} {g : Gh} {x : Val} {vs : List V} (r : VRs K g [x] vs) : ∃ v, vs = [v] ∧ VR K g x v := by
  cases r with
  | cons r t => cases t; exact ⟨_, rfl, r⟩
theorem vrs2 {K : PySem.W.Frag} {g : Gh} {x y : Val} {vs : List V} (r : VRs K g [x, y] vs) : ∃ v w, vs = [v, w] ∧ VR K g x v ∧ VR K g y w := by
  cases r with
  | cons r t =>
    obtain ⟨w, rfl, r2⟩ := vrs1 t
    exact ⟨_, w, rfl, r, r2⟩
theorem vrs3 {K : PySem.W.Frag} {g : Gh} {x y z : Val} {vs : List V} (r : VRs K g [x, y, z] vs) : ∃ v w u, vs = [v, w, u] ∧ VR K g x v ∧ VR K g y w ∧ VR K g z u := by
  cases r with
  | cons r t =>
    obtain ⟨w, u, rfl, r2, r3⟩ := vrs2 t
    exact ⟨_, w, u, rfl, r, r2, r3⟩
/-- len -/
def lenV (x : Val) (st : Store) : R Val := match x with
  | .d (.str z) => if z.length ≤ lim then .ok (.d (.int z.length)) st else .no
  | x => match seqOf st x with
    | some (_, xs) => .ok (.d (.int xs.length)) st
    | none => .no
def sLen (xs : List Val) (st : Store) : R Val := match xs with
  | [x] => lenV x st
  | _ => .no
theorem bo_len : BOk X (.builtin "len") sLen := by
  intro g st H xs vs Q E hs r h
  unfold sLen at h
  split at h
  · rename_i x
    obtain ⟨v, rfl, rv⟩ := vrs1 r
    unfold lenV at h
    split at h
    · rename_i z
      cases vr_str rv
      split at h
      · rename_i hl
        exact ⟨_, call_len_str, z, rfl, lim_line hl, h.ok hs (.d (.int _))⟩
      · exact h.elim
    · split at h
      · rename_i k ys e
        obtain ⟨a, ws, rfl, h1, r1⟩ := seqOf_ok hs rv e
        refine ⟨_, call_len_seq, a, ws, rfl, h1.any hs.ext, ?_⟩
        rw [← r1.length]
        exact h.ok hs (.d (.int _))
      · exact h.elim
  · exact h.elim
/-- abs, int, min, max of ints -/
def sAbs (xs : List Val) (st : Store) : R Val := match xs with
  | [.d (.int i)] => .ok (.d (.int (if i < 0 then -i else i))) st
  | _ => .no
theorem bo_abs : BOk X (.builtin "abs") sAbs := by
  intro g st H xs vs Q E hs r h
  unfold sAbs at h
  split at h
  · rename_i i
    obtain ⟨v, rfl, rv⟩ := vrs1 r
    cases vr_int rv
    exact ⟨_, call_abs, i, rfl, h.ok hs (.d (.int _))⟩
  · exact h.elim
def sInt (xs : List Val) (st : Store) : R Val := match xs with
  | [.d (.int i)] => .ok (.d (.int i)) st
  | [.d (.bool b)] => .ok (.d (.int (if b then 1 else 0))) st
  | _ => .no
theorem bo_int : BOk X (.type "int") sInt := by
  intro g st H xs vs Q E hs r h
  unfold sInt at h
  split at h
  · rename_i i
    obtain ⟨v, rfl, rv⟩ := vrs1 r
    cases vr_int rv
    exact ⟨_, call_int1, .inl ⟨i, rfl, h.ok hs (.d (.int _))⟩⟩
  · rename_i b
    obtain ⟨v, rfl, rv⟩ := vrs1 r
    cases vr_bl rv
    exact ⟨_, call_int1, .inr ⟨b, rfl, h.ok hs (.d (.int _))⟩⟩
  · exact h.elim
def sMax2 (xs : List Val) (st : Store) : R Val := match xs with
  | [.d (.int i), .d (.int j)] => .ok (.d (.int (if j > i then j else i))) st
  | _ => .no
theorem bo_max2 (hc : X.calm = true) : BOk X (.builtin "max") sMax2 := by
  intro g st H xs vs Q E hs r h
  unfold sMax2 at h
  split at h
  · rename_i i j
    obtain ⟨v, w, rfl, rv, rw'⟩ := vrs2 r
    cases vr_int rv
    cases vr_int rw'
    exact ⟨_, call_max2 hc, i, j, rfl, h.ok hs (.d (.int _))⟩
  · exact h.elim
def sMin2 (xs : List Val) (st : Store) : R Val := match xs with
  | [.d (.int i), .d (.int j)] => .ok (.d (.int (if j < i then j else i))) st
  | _ => .no
theorem bo_min2 (hc : X.calm = true) : BOk X (.builtin "min") sMin2 := by
  intro g st H xs vs Q E hs r h
  unfold sMin2 at h
  split at h
  · rename_i i j
    obtain ⟨v, w, rfl, rv, rw'⟩ := vrs2 r
    cases vr_int rv
    cases vr_int rw'
    exact ⟨_, call_min2 hc, i, j, rfl, h.ok hs (.d (.int _))⟩
  · exact h.elim
/-- a list of ints -/
def intsD : List Val → Option (List Int)
  | [] => some []
  | .d (.int i) :: xs => match intsD xs with
    | some ns => some (i :: ns)
    | none => none
  | _ => none
theorem intsD_map : ∀ ns : List Int, intsD (ns.map fun n => Val.d (.int n)) = some ns
  | [] => rfl
  | n :: ns => by
    show (match intsD (ns.map fun n => Val.d (.int n)) with | some ns => some (n :: ns) | none => none) = some (n :: ns)
    rw [intsD_map ns]
theorem intsD_ok {K : PySem.W.Frag} {g : Gh} : ∀ {xs : List Val} {vs : List V} {ns : List Int}, VRs K g xs vs → intsD xs = some ns → vs = ns.map V.int := by
  intro xs
  induction xs with
  | nil => intro vs ns r h; cases r; cases h; rfl
  | cons x xs ih =>
    intro vs ns r h
    cases r with
    | cons r1 r2 =>
      unfold intsD at h
      split at h
      · rename_i z; cases z
      · rename_i i ys z
        cases z
        split at h
        · rename_i ms hm
          cases h
          rw [vr_int r1, ih r2 hm]
          rfl
        · cases h
      · cases h
def sSum (xs : List Val) (st : Store) : R Val := match xs with
  | [x] => match seqOf st x with
    | some (.l, ys) => match intsD ys with
      | some ns => .ok (.d (.int ns.sum)) st
      | none => .no
    | some (.t, ys) => match intsD ys with
      | some ns => .ok (.d (.int ns.sum)) st
      | none => .no
    | _ => .no
  | _ => .no
theorem sum_rawT {prog : Program} {w : World} {A : Around} {E : Value → Shared → Prop} {s : Shared} {l : Addr} {its : List Value} {ns : List Int} {Q : Value → Shared → Prop} (hh : A.handled = none) (hl : s.heap.IsTuple l its.toArray) (hi : IntsAre its ns)
    (h : ∀ h' tk t', (∀ b o, s.heap.get? b = some o → h'.get? b = some o) → Q (.int ns.sum t') { s with heap := h', toks := tk }) : wpAny (model prog w) A (call (.builtin "sum") [.ref l]) Q E s := by
  obtain ⟨xs, e⟩ := hi.allInts.items
  have hn : numsOf (intItems xs).toList = ns := by rw [← e]; exact hi.numsOf
  rw [nums_intItems] at hn
  rw [e] at hl
  have hlt : l < s.heap.objs.size := by obtain ⟨_, e, _⟩ := id hl; exact Heap.lt_size e
  have hne : l ≠ s.heap.objs.size := Nat.ne_of_lt hlt
  refine PySem.call_sum_walkG (wpAny_pyIter_tuple hl ?_)
  refine ⟨_, _, _, _, _, _, numAt xs, rfl, Walks.tuple (A := A.in1) hh _ l hne (intItems xs), ⟨⟨_, Heap.get?_push_size _ rfl, rfl, rfl⟩, hl.push _⟩, fun b hb => ?_, (fun _ _ => intItems_at), fun h' tk t' hk => ?_⟩
  · show b < (s.heap.push _).objs.size
    rw [Heap.size_push]
    rcases List.mem_cons.mp hb with rfl | hb
    · exact Nat.lt_succ_self _
    · rcases List.mem_cons.mp hb with rfl | hb
      · exact Nat.lt_succ_of_lt hlt
      · cases hb
  · have := h h' tk t' fun b o e => by
      refine hk b o (fun hm => ?_) (Heap.get?_push_of_some _ e)
      rcases List.mem_cons.mp hm with e1 | hm
      · exact absurd (e1 ▸ Heap.lt_size e) (Nat.lt_irrefl _)
      · cases hm
    rw [← hn] at this
    have e2 : preSum (numAt xs) xs.size = (xs.toList.map (·.1)).sum := by rw [preSum_eq, List.take_of_length_le (by simp)]
    rw [← e2] at this
    simpa [intItems] using this
/-- sum(t) of a tuple of ints -/
def rSumT (K : PySem.W.Frag) : List V → Hp → VK → Prop := fun vs H Q => ∃ (a : Addr) (ns : List Int), vs = [V.ref a] ∧ SqT K H a (ns.map V.int) ∧ Q (.int ns.sum) H
theorem cr_sumT (hc : X.calm = true) : CallR X (.builtin "sum") (rSumT X.K) := by
  intro pins s σ H vs us Q I r h
  obtain ⟨a, ns, rfl, hs, q⟩ := h
  obtain ⟨its, rv, hl, _⟩ := I.tuple hs
  rw [Vals.ref1 r]
  exact sum_rawT (I.ok.hd hc) (show s.heap.IsTuple a its.toArray from hl) rv.ints fun h' tk t' hk => ⟨.int _, H, I.kept hk, ⟨_, rfl⟩, q⟩
theorem bo_sum (hc : X.calm = true) : BOk X (.builtin "sum") sSum := by
  intro g st H xs vs Q E hs r h
  unfold sSum at h
  split at h
  · rename_i x
    obtain ⟨v, rfl, rv⟩ := vrs1 r
    split at h
    · rename_i ys e
      obtain ⟨a, ws, rfl, h1, r1⟩ := seqOf_ok hs rv e
      split at h
      · rename_i ns hn
        have e2 := intsD_ok r1 hn
        subst e2
        exact ⟨_, cr_sum hc, a, ns, rfl, SqL.of h1, h.ok hs (.d (.int _))⟩
      · exact h.elim
    · rename_i ys e
      obtain ⟨a, ws, rfl, h1, r1⟩ := seqOf_ok hs rv e
      split at h
      · rename_i ns hn
        have e2 := intsD_ok r1 hn
        subst e2
        exact ⟨_, cr_sumT hc, a, ns, rfl, sqT_sub hs.ext h1, h.ok hs (.d (.int _))⟩
      · exact h.elim
    · exact h.elim
  · exact h.elim
/-- the greatest, the least of ints -/
def maxI : List Int → Int
  | [] => 0
  | [x] => x
  | x :: xs => if maxI xs > x then maxI xs else x
theorem maxI_ok : ∀ ns : List Int, ns ≠ [] → maxI ns ∈ ns ∧ ∀ y, y ∈ ns → y ≤ maxI ns
  | [], h => absurd rfl h
  | [x], _ => ⟨List.mem_singleton.mpr rfl, fun y hy => by rw [List.mem_singleton.mp hy]; exact Int.le_refl _⟩
  | x :: z :: xs, _ => by
    obtain ⟨h1, h2⟩ := maxI_ok (z :: xs) (by simp)
    show (if maxI (z :: xs) > x then maxI (z :: xs) else x) ∈ x :: z :: xs ∧ ∀ y, y ∈ x :: z :: xs → y ≤ (if maxI (z :: xs) > x then maxI (z :: xs) else x)
    split
    · rename_i hgt
      refine ⟨List.mem_cons_of_mem _ h1, fun y hy => ?_⟩
      rcases List.mem_cons.mp hy with e | hy
      · rw [e]; omega
      · exact h2 y hy
    · rename_i hle
      refine ⟨List.mem_cons_self, fun y hy => ?_⟩
      rcases List.mem_cons.mp hy with e | hy
      · rw [e]; exact Int.le_refl _
      · have := h2 y hy; omega
def sMaxL (xs : List Val) (st : Store) : R Val := match xs with
  | [x] => match seqOf st x with
    | some (.l, ys) => match intsD ys with
      | some ns => if ns ≠ [] then .ok (.d (.int (maxI ns))) st else .no
      | none => .no
    | _ => .no
  | _ => .no
theorem bo_maxL (hc : X.calm = true) : BOk X (.builtin "max") sMaxL := by
  intro g st H xs vs Q E hs r h
  unfold sMaxL at h
  split at h
  · rename_i x
    obtain ⟨v, rfl, rv⟩ := vrs1 r
    split at h
    · rename_i ys e
      obtain ⟨a, ws, rfl, h1, r1⟩ := seqOf_ok hs rv e
      split at h
      · rename_i ns hn
        have e2 := intsD_ok r1 hn
        subst e2
        split at h
        · rename_i hne
          refine ⟨_, cr_max hc, a, ns, rfl, SqL.of h1, List.length_pos_iff.mpr hne, fun m hm hle => ?_⟩
          obtain ⟨k1, k2⟩ := maxI_ok ns hne
          have em : m = maxI ns := Int.le_antisymm (k2 m hm) (hle _ k1)
          rw [em]
          exact h.ok hs (.d (.int _))
        · exact h.elim
      · exact h.elim
    · exact h.elim
  · exact h.elim
/-- all, any of a list of bools -/
def boolsD : List Val → Option (List Bool)
  | [] => some []
  | .d (.bool i) :: xs => match boolsD xs with
    | some ns => some (i :: ns)
    | none => none
  | _ => none
theorem boolsD_map : ∀ ns : List Bool, boolsD (ns.map fun n => Val.d (.bool n)) = some ns
  | [] => rfl
  | n :: ns => by
    show (match boolsD (ns.map fun n => Val.d (.bool n)) with | some ns => some (n :: ns) | none => none) = some (n :: ns)
    rw [boolsD_map ns]
theorem boolsD_ok {K : PySem.W.Frag} {g : Gh} : ∀ {xs : List Val} {vs : List V} {ns : List Bool}, VRs K g xs vs → boolsD xs = some ns → vs = ns.map V.bl := by
  intro xs
  induction xs with
  | nil => intro vs ns r h; cases r; cases h; rfl
  | cons x xs ih =>
    intro vs ns r h
    cases r with
    | cons r1 r2 =>
      unfold boolsD at h
      split at h
      · rename_i z; cases z
      · rename_i i ys z
        cases z
        split at h
        · rename_i ms hm
          cases h
          rw [vr_bl r1, ih r2 hm]
          rfl
        · cases h
      · cases h
def sAll (xs : List Val) (st : Store) : R Val := match xs with
  | [x] => match seqOf st x with
    | some (.l, ys) => match boolsD ys with
      | some ns => .ok (.d (.bool (ns.all id))) st
      | none => .no
    | _ => .no
  | _ => .no
def sAny (xs : List Val) (st : Store) : R Val := match xs with
  | [x] => match seqOf st x with
    | some (.l, ys) => match boolsD ys with
      | some ns => .ok (.d (.bool (ns.any id))) st
      | none => .no
    | _ => .no
  | _ => .no
theorem bo_all (hc : X.calm = true) : BOk X (.builtin "all") sAll := by
  intro g st H xs vs Q E hs r h
  unfold sAll at h
  split at h
  · rename_i x
    obtain ⟨v, rfl, rv⟩ := vrs1 r
    split at h
    · rename_i ys e
      obtain ⟨a, ws, rfl, h1, r1⟩ := seqOf_ok hs rv e
      split at h
      · rename_i ns hn
        have e2 := boolsD_ok r1 hn
        subst e2
        exact ⟨_, cr_all hc, a, ns, rfl, SqL.of h1, h.ok hs (.d (.bl _))⟩
      · exact h.elim
    · exact h.elim
  · exact h.elim
theorem bo_any (hc : X.calm = true) : BOk X (.builtin "any") sAny := by
  intro g st H xs vs Q E hs r h
  unfold sAny at h
  split at h
  · rename_i x
    obtain ⟨v, rfl, rv⟩ := vrs1 r
    split at h
    · rename_i ys e
      obtain ⟨a, ws, rfl, h1, r1⟩ := seqOf_ok hs rv e
      split at h
      · rename_i ns hn
        have e2 := boolsD_ok r1 hn
        subst e2
        exact ⟨_, cr_any hc, a, ns, rfl, SqL.of h1, h.ok hs (.d (.bl _))⟩
      · exact h.elim
    · exact h.elim
  · exact h.elim
/-- list(x), tuple(x) -/
def sList (m : Bool) (xs : List Val) (st : Store) : R Val := match xs with
  | [x] => match seqOf st x with
    | some (_, ys) => mkL m ys st
    | _ => .no
  | _ => .no
theorem bo_list (m : Bool) : BOk X (.type "list") (sList m) := by
  intro g st H xs vs Q E hs r h
  unfold sList at h
  split at h
  · rename_i x
    obtain ⟨v, rfl, rv⟩ := vrs1 r
    split at h
    · rename_i k ys e
      obtain ⟨a, ws, rfl, h1, r1⟩ := seqOf_ok hs rv e
      obtain ⟨hz, q⟩ := mkL_ok hs r1 h
      exact ⟨_, call_list_of, a, ws, rfl, h1.any hs.ext, q⟩
    · exact h.elim
  · exact h.elim
def sTuple (xs : List Val) (st : Store) : R Val := match xs with
  | [x] => match seqOf st x with
    | some (.s, _) => .no
    | some (_, ys) => mkT ys st
    | _ => .no
  | _ => .no
theorem bo_tuple : BOk X (.type "tuple") sTuple := by
  intro g st H xs vs Q E hs r h
  unfold sTuple at h
  split at h
  · rename_i x
    obtain ⟨v, rfl, rv⟩ := vrs1 r
    split at h
    · exact h.elim
    · rename_i k ys nk e
      obtain ⟨a, ws, rfl, h1, r1⟩ := seqOf_ok hs rv e
      obtain ⟨hz, q1, q2⟩ := mkT_okV hs r1 h
      cases k with
      | l => exact ⟨_, call_tuple_of, a, ws, rfl, .inl ⟨SqL.of h1, q2⟩⟩
      | t => exact ⟨_, call_tuple_of, a, ws, rfl, .inr ⟨sqT_sub hs.ext h1, q1 a h1⟩⟩
      | s => exact (nk rfl).elim
    · exact h.elim
  · exact h.elim

/-! ### isinstance -/
inductive Ty where
  | int | bool | str | list | tuple
def Ty.nm : Ty → String
  | .int => "int"
  | .bool => "bool"
  | .str => "str"
  | .list => "list"
  | .tuple => "tuple"
inductive Tg where
  | none | int | bool | str | list | tuple
def Tg.nm : Tg → String
  | .none => "NoneType"
  | .int => "int"
  | .bool => "bool"
  | .str => "str"
  | .list => "list"
  | .tuple => "tuple"
def tagOf : Val → Option Tg
  | .d .none => some .none
  | .d (.int _) => some .int
  | .d (.bool _) => some .bool
  | .d (.str _) => some .str
  | .d (.list _) => some .list
  | .d (.tuple _) => some .tuple
  | .c _ => some .list
  | .t _ => some .tuple
  | _ => none
def Tg.is : Tg → Ty → Bool
  | .int, .int => true
  | .bool, .int => true
  | .bool, .bool => true
  | .str, .str => true
  | .list, .list => true
  | .tuple, .tuple => true
  | _, _ => false
theorem tg_kit (t : Tg) (T : Ty) : kitB t.nm T.nm = some (t.is T) := by
  cases t <;> cases T <;> decide +kernel
theorem tyT {K : PySem.W.Frag} {H : Hp} {a : Addr} {vs : List V} (h : SqT K H a vs) : TyX K H (.ref a) (.type "tuple") := by
  rcases h with (h | ⟨o, h⟩) | ⟨o, its, n, h1, h2, _⟩
  · exact .base (.tup h)
  · exact .fTuple h
  · exact .kTuple h1 h2
theorem tag_ok {g : Gh} {st : Store} {H : Hp} {x : Val} {v : V} {t : Tg} (hs : SR X.K g st H) (r : VR X.K g x v) (h : tagOf x = some t) (live : ∀ n, x = .c n → ∃ xs, st[n]? = some (some xs)) : TyX X.K H v (.type t.nm) := by
  cases r with
  | d hd =>
    cases hd with
    | non => cases h; exact .base .non
    | bl b => cases h; exact .base (.bl b)
    | int i => cases h; exact .base (.int i)
    | str z => cases h; exact .base (.str z)
    | lst hq _ => cases h; exact .base (.lst (hs.ext _ _ hq))
    | tup hq _ => cases h; exact tyT (sqT_sub hs.ext hq)
  | @c n a hc =>
    cases h
    obtain ⟨xs, hx⟩ := live n rfl
    obtain ⟨a', vs, h1, h2, _⟩ := hs.live n xs hx
    have e := Option.some.inj (h1.symm.trans hc)
    subst e
    exact .base (.lst h2)
  | t hq _ => cases h; exact tyT (sqT_sub hs.ext hq)
  | s hq => cases h
def alive (st : Store) : Val → Bool
  | .c n => match st[n]? with
    | some (some _) => true
    | _ => false
  | _ => true
theorem alive_ok {st : Store} {x : Val} (h : alive st x = true) : ∀ n, x = .c n → ∃ xs, st[n]? = some (some xs) := fun n e => by
  subst e
  replace h : (match st[n]? with | some (some _) => true | _ => false) = true := h
  split at h
  · rename_i xs hx
    exact ⟨xs, hx⟩
  · cases h
def vInst (ts : List Ty) (x : Val) (st : Store) : R Bool := match tagOf x with
  | some t => if alive st x then .ok (ts.any fun T => t.is T) st else .no
  | none => .no
def bInstT (ts : List Ty) (f : CE) : CT := fun env st => (f env st).bind fun x st1 => vInst ts x st1
def bInst (ts : List Ty) (f : CE) : CE := fun env st => ((f env st).bind fun x st1 => vInst ts x st1).bind toV
theorem c_inst {x y : Str} {p p2 pos : Pos} {e : Expr} {T : Ty} {f : CE} (hx : x = ("isinstance" : Str)) (hg : Gl X x) (hm : X.mg x = none) (hv : bootBuiltins x = some (.builtin "isinstance"))
    (hg2 : Gl X y) (hm2 : X.mg y = none) (hv2 : bootBuiltins y = some (.type T.nm)) (ha : Cmp X W e f) (hn2 : y ≠ "__name__" := by decide) (hd2 : (y == ("__debug__" : Str)) = false := by decide)
    (he : starEach (e :: [.Name y p2]) X.env = (false, eval e X.env) :: starEach [.Name y p2] X.env := by rfl) (he2 : starEach [.Name y p2] X.env = (false, eval (.Name y p2) X.env) :: starEach [] X.env := by rfl)
    (hpl : (backTo pos (starEach [.Name y p2] X.env)).any (·.1) = false := by rfl) : Cmp X W (.Call (.Name x p) [e, .Name y p2] [] pos) (bInst [T] f) := by
  subst hx
  refine ⟨fun g σ H env st Q hs hE q => ⟨_, pe_callB call_isi hg hm hv (pa_cons pe_W (pa_cons (pe_bltn hg2 hm2 hv2 (v := .ty T.nm) rfl hn2 hd2) pa_nil he2) he) (by decide) (by decide) he hpl, ?_⟩⟩
  refine ha.run g σ H env st _ hs hE (Post.bindA q fun g1 v H1 z st1 le1 s1 r1 q1 => ?_)
  unfold vInst at q1
  split at q1
  · rename_i t ht
    split at q1
    · rename_i hl
      refine ⟨v, .ty T.nm, .type t.nm, .type T.nm, t.is T, rfl, .ty _, tag_ok s1 r1 ht (alive_ok hl), kit_ty (tg_kit t T), ?_⟩
      have e : ([T].any fun T => t.is T) = t.is T := by simp
      rw [e] at q1
      exact q1.ok s1 (.d (.bl _))
    · exact q1.elim
  · exact q1.elim
/-- isinstance(x, (T, U)) -/
theorem c_inst2 {x y z : Str} {p p2 p3 p4 pos : Pos} {kt : Nat} {e : Expr} {T U : Ty} {f : CE} (hx : x = ("isinstance" : Str)) (hg : Gl X x) (hm : X.mg x = none) (hv : bootBuiltins x = some (.builtin "isinstance"))
    (hg2 : Gl X y) (hm2 : X.mg y = none) (hv2 : bootBuiltins y = some (.type T.nm)) (hg3 : Gl X z) (hm3 : X.mg z = none) (hv3 : bootBuiltins z = some (.type U.nm)) (ha : Cmp X W e f)
    (hn2 : y ≠ "__name__" := by decide) (hd2 : (y == ("__debug__" : Str)) = false := by decide) (hn3 : z ≠ "__name__" := by decide) (hd3 : (z == ("__debug__" : Str)) = false := by decide)
    (he : starEach (e :: [.Tuple [.Name y p2, .Name z p3] kt p4]) X.env = (false, eval e X.env) :: starEach [.Tuple [.Name y p2, .Name z p3] kt p4] X.env := by rfl)
    (he1 : starEach [.Tuple [.Name y p2, .Name z p3] kt p4] X.env = (false, eval (.Tuple [.Name y p2, .Name z p3] kt p4) X.env) :: starEach [] X.env := by rfl)
    (he2 : starEach [.Name y p2, .Name z p3] X.env = (false, eval (.Name y p2) X.env) :: starEach [.Name z p3] X.env := by rfl) (he3 : starEach [.Name z p3] X.env = (false, eval (.Name z p3) X.env) :: starEach [] X.env := by rfl)
    (hpl : (backTo pos (starEach [.Tuple [.Name y p2, .Name z p3] kt p4] X.env)).any (·.1) = false := by rfl) : Cmp X W (.Call (.Name x p) [e, .Tuple [.Name y p2, .Name z p3] kt p4] [] pos) (bInst [T, U] f) := by
  subst hx
  refine ⟨fun g σ H env st Q hs hE q => ⟨_, pe_callB call_isiT hg hm hv (pa_cons pe_W (pa_cons (pe_tup (pa_cons (pe_bltn hg2 hm2 hv2 (v := .ty T.nm) rfl hn2 hd2) (pa_cons (pe_bltn hg3 hm3 hv3 (v := .ty U.nm) rfl hn3 hd3) pa_nil he3) he2)) pa_nil he1) he) (by decide) (by decide) he hpl, ?_⟩⟩
  refine ha.run g σ H env st _ hs hE (Post.bindA q fun g1 v H1 z st1 le1 s1 r1 q1 => ?_)
  refine ⟨by show 2 ≤ sizeLine; decide, fun tp htp => ?_⟩
  unfold vInst at q1
  split at q1
  · rename_i t ht
    split at q1
    · rename_i hl
      obtain ⟨le2, s2⟩ := s1.frozen htp (.tup [.ty T.nm, .ty U.nm])
      refine ⟨v, tp, [.ty T.nm, .ty U.nm], .type t.nm, [.type T.nm, .type U.nm], (t.is T || t.is U), rfl, upd_same, .cons (.ty _) (.cons (.ty _) .nil), tag_ok s2 (r1.mono le2) ht (alive_ok hl), ?_, ?_⟩
      · refine kitAny_cons (kit_ty (tg_kit t T)) (fun e => ?_) (fun e => by rw [e]; rfl)
        refine kitAny_cons (kit_ty (tg_kit t U)) (fun e2 => ?_) (fun e2 => by rw [e2, Bool.or_true])
        rw [e, e2]
        exact kitAny_nil
      · have e : ([T, U].any fun T => t.is T) = (t.is T || t.is U) := by simp
        rw [e] at q1
        exact q1.ok' le2 s2 (.d (.bl _))
    · exact q1.elim
  · exact q1.elim
end
end Z

namespace Z
open PySem PySem.Spec PyProof.Rows L2

/-! ### statements -/
inductive Fl where
  | nx (env : Env)
  | rt (v : Val)
  | bk (env : Env)
  | ct (env : Env)
abbrev CS := Env → Store → R Fl
/-- what is wanted behind a statement -/
def PostS (K : PySem.W.Frag) (mg : Str → Option Value) (g : Gh) (n : Nat) (r : R Fl) (D : Ends) (W : WXf) : Prop := match r with
  | .ok (.nx env) st => ∀ g' σ H, Le g g' → SR K g' st H → ER K g' env σ → σ.length = n → D.nx σ H
  | .ok (.bk env) st => ∀ g' σ H, Le g g' → SR K g' st H → ER K g' env σ → σ.length = n → D.bk σ H
  | .ok (.ct env) st => ∀ g' σ H, Le g g' → SR K g' st H → ER K g' env σ → σ.length = n → D.ct σ H
  | .ok (.rt x) st => ∀ g' v H, Le g g' → SR K g' st H → VR K g' x v → D.rt v H
  | .ex e st => ∀ g' cls d σ H, Le g g' → SR K g' st H → XR K mg g' H e cls d → σ.length = n → W cls d σ H
  | .no => False
structure CmpS (X : Cx) (W : WXf) (s : Stmt) (f : CS) : Prop where
  run : ∀ g σ H env st D, SR X.K g st H → ER X.K g env σ → PostS X.K X.mg g σ.length (f env st) D W → WS X s D σ H
structure CmpSs (X : Cx) (W : WXf) (s : List Stmt) (f : CS) : Prop where
  run : ∀ g σ H env st D, SR X.K g st H → ER X.K g env σ → PostS X.K X.mg g σ.length (f env st) D W → WSs X s D σ H
section
variable {K : PySem.W.Frag} {mg : Str → Option Value} {α β : Type} {rel : Gh → α → β → Prop}
theorem PostS.mono {g g' : Gh} {n : Nat} {r : R Fl} {D : Ends} {W : WXf} (h : PostS K mg g n r D W) (e : Le g g') : PostS K mg g' n r D W := by
  cases r with
  | ok x st =>
    cases x with
    | nx env => exact fun g2 σ H le => h g2 σ H (e.trans le)
    | bk env => exact fun g2 σ H le => h g2 σ H (e.trans le)
    | ct env => exact fun g2 σ H le => h g2 σ H (e.trans le)
    | rt v => exact fun g2 v H le => h g2 v H (e.trans le)
  | ex x st => exact fun g2 c d σ H le => h g2 c d σ H (e.trans le)
  | no => exact h
theorem PostS.bind {g : Gh} {σ : L2.St} {r : R α} {k : α → Store → R Fl} {D : Ends} {W : WXf} {Q1 : β → Hp → Prop} (h : PostS K mg g σ.length (r.bind k) D W)
    (f : ∀ g1 v H x st, Le g g1 → SR K g1 st H → rel g1 x v → PostS K mg g1 σ.length (k x st) D W → Q1 v H) : Post K mg g rel r Q1 (eW W σ) := by
  cases r with
  | ok x st => exact fun g1 v H le hs hr => f g1 v H x st le hs hr (h.mono le)
  | ex x st => exact fun g1 c d H le hs hx => h g1 c d σ H le hs hx rfl
  | no => exact h
end
section
variable {X : Cx} {W : WXf}
/-! blocks -/
def kNil : CS := fun env st => .ok (.nx env) st
def kSeq (a b : CS) : CS := fun env st => (a env st).bind fun fl st1 => match fl with
  | .nx env1 => b env1 st1
  | fl => .ok fl st1
theorem s_nil : CmpSs X W [] kNil := ⟨fun g σ H env st D hs he q => ⟨_, pss_nil, q g σ H (Le.refl g) hs he rfl⟩⟩
theorem PostS.seq {K : PySem.W.Frag} {mg : Str → Option Value} {g : Gh} {n : Nat} {r : R Fl} {b : CS} {D : Ends} {nx : L2.St → Hp → Prop}
    (h : PostS K mg g n (r.bind fun fl st1 => match fl with | .nx env1 => b env1 st1 | fl => .ok fl st1) D W)
    (f : ∀ g1 σ H env1 st1, Le g g1 → SR K g1 st1 H → ER K g1 env1 σ → σ.length = n → PostS K mg g1 n (b env1 st1) D W → nx σ H) : PostS K mg g n r { D with nx := nx } W := by
  cases r with
  | ok x st =>
    cases x with
    | nx env => exact fun g1 σ H le hs he hl => f g1 σ H env st le hs he hl (h.mono le)
    | bk env => exact h
    | ct env => exact h
    | rt v => exact h
  | ex x st => exact h
  | no => exact h
theorem s_cons {s : Stmt} {r : List Stmt} {a b : CS} (h1 : CmpS X W s a) (h2 : CmpSs X W r b) : CmpSs X W (s :: r) (kSeq a b) := by
  refine ⟨fun g σ H env st D hs he q => ⟨_, pss_cons ps_W pss_W, ?_⟩⟩
  refine h1.run g σ H env st _ hs he (PostS.seq q fun g1 σ1 H1 env1 st1 le s1 e1 hl q1 => ?_)
  exact h2.run g1 σ1 H1 env1 st1 D s1 e1 (by rw [hl]; exact q1)
theorem s_one {s : Stmt} {a : CS} (h1 : CmpS X W s a) : CmpSs X W [s] a := ⟨fun g σ H env st D hs he q => ⟨_, pss_one ps_W, h1.run g σ H env st D hs he q⟩⟩
theorem s_pass {pos : Pos} : CmpS X W (.Pass pos) kNil := ⟨fun g σ H env st D hs he q => ⟨_, ps_pass, q g σ H (Le.refl g) hs he rfl⟩⟩
def kBreak : CS := fun env st => .ok (.bk env) st
def kCont : CS := fun env st => .ok (.ct env) st
theorem s_break {pos : Pos} : CmpS X W (.Break pos) kBreak := ⟨fun g σ H env st D hs he q => ⟨_, ps_break, q g σ H (Le.refl g) hs he rfl⟩⟩
theorem s_cont {pos : Pos} : CmpS X W (.Continue pos) kCont := ⟨fun g σ H env st D hs he q => ⟨_, ps_continue, q g σ H (Le.refl g) hs he rfl⟩⟩
def kDrop (f : CE) : CS := fun env st => (f env st).bind fun _ st1 => .ok (.nx env) st1
theorem s_drop {e : Expr} {f : CE} {pos : Pos} (he : Cmp X W e f) (hw : swapsWith e none pos.line X.env = pure false := by rfl) : CmpS X W (.Expr e pos) (kDrop f) := by
  refine ⟨fun g σ H env st D hs hE q => ⟨_, ps_expr pe_W hw, ?_⟩⟩
  exact he.run g σ H env st _ hs hE (PostS.bind q fun g1 v H1 x st1 le1 s1 r1 q1 => q1 g1 σ H1 (Le.refl g1) s1 (hE.mono le1) rfl)
def kRet (f : CE) : CS := fun env st => (f env st).bind fun x st1 => .ok (.rt x) st1
theorem s_ret {e : Expr} {f : CE} {pos : Pos} (he : Cmp X W e f) : CmpS X W (.Return (some e) pos) (kRet f) := by
  refine ⟨fun g σ H env st D hs hE q => ⟨_, ps_ret pe_W, ?_⟩⟩
  exact he.run g σ H env st _ hs hE (PostS.bind q fun g1 v H1 x st1 le1 s1 r1 q1 => q1 g1 v H1 (Le.refl g1) s1 r1)
def kRetN : CS := fun _ st => .ok (.rt (.d .none)) st
theorem s_retN {pos : Pos} : CmpS X W (.Return none pos) kRetN := ⟨fun g σ H env st D hs hE q => ⟨_, ps_retN, q g .non H (Le.refl g) hs (.d .non)⟩⟩
def kIf (t : CT) (a b : CS) : CS := fun env st => (t env st).bind fun c st1 => if c then a env st1 else b env st1
theorem s_if {c : Expr} {p q : List Stmt} {t : CT} {a b : CS} {pos : Pos} (hc : CmpT X W c t) (ha : CmpSs X W p a) (hb : CmpSs X W q b) : CmpS X W (.If c p q pos) (kIf t a b) := by
  refine ⟨fun g σ H env st D hs hE q => ⟨_, ps_if pt_W pss_W pss_W, ?_⟩⟩
  refine hc.run g σ H env st _ hs hE (PostS.bind q fun g1 v H1 x st1 le1 s1 r1 q1 => ?_)
  cases r1
  cases v with
  | true => exact iteT (ha.run g1 σ H1 env st1 D s1 (hE.mono le1) q1)
  | false => exact iteF (hb.run g1 σ H1 env st1 D s1 (hE.mono le1) q1)
/-- what is never reached -/
def kNever : CS := fun _ _ => .no
theorem s_never {s : Stmt} : CmpS X W s kNever := ⟨fun g σ H env st D hs hE q => q.elim⟩

/-! ### targets -/
abbrev CG := Val → Env → Store → R Env
def PostG (K : PySem.W.Frag) (mg : Str → Option Value) (g : Gh) (n : Nat) (r : R Env) (Q : L2.St → Hp → Prop) (W : WXf) : Prop := match r with
  | .ok env st => ∀ g' σ H, Le g g' → SR K g' st H → ER K g' env σ → σ.length = n → Q σ H
  | .ex e st => ∀ g' cls d σ H, Le g g' → SR K g' st H → XR K mg g' H e cls d → σ.length = n → W cls d σ H
  | .no => False
structure CmpG (X : Cx) (W : WXf) (e : Expr) (f : CG) : Prop where
  run : ∀ g σ H env st x v Q, SR X.K g st H → ER X.K g env σ → VR X.K g x v → PostG X.K X.mg g σ.length (f x env st) Q W → WG X e v σ H Q
theorem PostG.mono {K : PySem.W.Frag} {mg : Str → Option Value} {g g' : Gh} {n : Nat} {r : R Env} {Q : L2.St → Hp → Prop} (h : PostG K mg g n r Q W) (e : Le g g') : PostG K mg g' n r Q W := by
  cases r with
  | ok x st => exact fun g2 σ H le => h g2 σ H (e.trans le)
  | ex x st => exact fun g2 c d σ H le => h g2 c d σ H (e.trans le)
  | no => exact h
theorem PostG.bind {K : PySem.W.Frag} {mg : Str → Option Value} {α β : Type} {rel : Gh → α → β → Prop} {g : Gh} {σ : L2.St} {r : R α} {k : α → Store → R Env} {Q : L2.St → Hp → Prop} {Q1 : β → Hp → Prop} (h : PostG K mg g σ.length (r.bind k) Q W)
    (f : ∀ g1 v H x st, Le g g1 → SR K g1 st H → rel g1 x v → PostG K mg g1 σ.length (k x st) Q W → Q1 v H) : Post K mg g rel r Q1 (eW W σ) := by
  cases r with
  | ok x st => exact fun g1 v H le hs hr => f g1 v H x st le hs hr (h.mono le)
  | ex x st => exact fun g1 c d H le hs hx => h g1 c d σ H le hs hx rfl
  | no => exact h
theorem PostG.bindG {K : PySem.W.Frag} {mg : Str → Option Value} {g : Gh} {n : Nat} {r : R Env} {k : Env → Store → R Env} {Q : L2.St → Hp → Prop} {Q1 : L2.St → Hp → Prop} (h : PostG K mg g n (r.bind k) Q W)
    (f : ∀ g1 σ H x st, Le g g1 → SR K g1 st H → ER K g1 x σ → σ.length = n → PostG K mg g1 n (k x st) Q W → Q1 σ H) : PostG K mg g n r Q1 W := by
  cases r with
  | ok x st => exact fun g1 σ H le hs hr hl => f g1 σ H x st le hs hr hl (h.mono le)
  | ex x st => exact h
  | no => exact h
theorem PostS.bindG {K : PySem.W.Frag} {mg : Str → Option Value} {g : Gh} {n : Nat} {r : R Env} {k : Env → Store → R Fl} {D : Ends} {Q1 : L2.St → Hp → Prop} (h : PostS K mg g n (r.bind k) D W)
    (f : ∀ g1 σ H x st, Le g g1 → SR K g1 st H → ER K g1 x σ → σ.length = n → PostS K mg g1 n (k x st) D W → Q1 σ H) : PostG K mg g n r Q1 W := by
  cases r with
  | ok x st => exact fun g1 σ H le hs hr hl => f g1 σ H x st le hs hr hl (h.mono le)
  | ex x st => exact h
  | no => exact h
def tgN (i : Nat) : CG := fun x env st => .ok (env.set i (some x)) st
theorem g_name {i : Nat} {x : Str} {pos : Pos} (hN : X.N.Nodup) (hi : X.N[i]? = some x) (hx : Loc X.env.scope x) (hf : X.fn x = true ∨ X.env.scope.names.lookup x = some .local := by first | exact .inl rfl | exact .inr rfl | assumption) : CmpG X W (.Name x pos) (tgN i) := by
  refine ⟨fun g σ H env st y v Q hs hE r q => ⟨_, pg_name hN hi hx hf, ?_⟩⟩
  exact q g _ H (Le.refl g) hs (hE.set i r) (by rw [List.length_set])
/-- several targets -/
def tgsAll : List CG → List Val → Env → Store → R Env
  | [], [], env, st => .ok env st
  | t :: ts, x :: xs, env, st => (t x env st).bind fun env1 st1 => tgsAll ts xs env1 st1
  | _, _, _, _ => .no
structure CmpGs (X : Cx) (W : WXf) (es : List Expr) (ts : List CG) : Prop where
  run : ∀ g σ H env st xs vs Q, SR X.K g st H → ER X.K g env σ → VRs X.K g xs vs → PostG X.K X.mg g σ.length (tgsAll ts xs env st) Q W → WGs X es vs σ H Q
theorem g_nil : CmpGs X W [] [] := by
  refine ⟨fun g σ H env st xs vs Q hs hE r q => ⟨_, pgs_nil, ?_⟩⟩
  cases r with
  | nil => exact ⟨rfl, q g σ H (Le.refl g) hs hE rfl⟩
  | cons _ _ => exact q.elim
theorem g_cons {e : Expr} {es : List Expr} {t : CG} {ts : List CG} (h1 : CmpG X W e t) (h2 : CmpGs X W es ts)
    (hs : (assignEach (e :: es) X.env).map (·.2) = assign e X.env :: (assignEach es X.env).map (·.2) := by rfl) : CmpGs X W (e :: es) (t :: ts) := by
  refine ⟨fun g σ H env st xs vs Q hS hE r q => ⟨_, pgs_cons pg_W pgs_W hs, ?_⟩⟩
  cases r with
  | nil => exact q.elim
  | cons r1 r2 =>
    refine ⟨_, _, rfl, ?_⟩
    refine h1.run g σ H env st _ _ _ hS hE r1 (PostG.bindG (r := t _ env st) (k := fun env1 st1 => tgsAll ts _ env1 st1) q fun g1 σ1 H1 env1 st1 le s1 e1 hl q1 => ?_)
    exact h2.run g1 σ1 H1 env1 st1 _ _ Q s1 e1 (r2.mono le) (by rw [hl]; exact q1)
def tgT (ts : List CG) : CG := fun x env st => match seqOf st x with
  | some (.t, xs) => tgsAll ts xs env st
  | some (_, xs) => tgsAll ts xs env st
  | none => .no
theorem tgsAll_len : ∀ {ts : List CG} {xs : List Val} {env : Env} {st : Store}, ts.length ≠ xs.length → tgsAll ts xs env st = .no ∨ ∃ e s, tgsAll ts xs env st = .ex e s
  | [], [], _, _, h => absurd rfl h
  | [], _ :: _, _, _, _ => .inl rfl
  | _ :: _, [], _, _, _ => .inl rfl
  | t :: ts, x :: xs, env, st, h => by
    show (t x env st).bind (fun env1 st1 => tgsAll ts xs env1 st1) = .no ∨ ∃ e s, (t x env st).bind (fun env1 st1 => tgsAll ts xs env1 st1) = .ex e s
    cases t x env st with
    | ok e s => exact tgsAll_len (ts := ts) (xs := xs) (env := e) (st := s) (by simpa using h)
    | ex e s => exact .inr ⟨e, s, rfl⟩
    | no => exact .inl rfl
/-- a target that raises nothing -/
def NoEx (t : CG) : Prop := ∀ x env st e s, t x env st ≠ .ex e s
theorem tgN_noEx (i : Nat) : NoEx (tgN i) := fun x env st e s h => by cases h
theorem tgsAll_noEx : ∀ {ts : List CG}, (∀ t ∈ ts, NoEx t) → ∀ xs env st e s, tgsAll ts xs env st ≠ .ex e s
  | [], _, [], _, _, _, _ => fun h => by cases h
  | [], _, _ :: _, _, _, _, _ => fun h => by cases h
  | _ :: _, _, [], _, _, _, _ => fun h => by cases h
  | t :: ts, hn, x :: xs, env, st, e, s => fun h => by
    replace h : (t x env st).bind (fun env1 st1 => tgsAll ts xs env1 st1) = .ex e s := h
    cases q : t x env st with
    | ok e1 s1 =>
      rw [q] at h
      exact tgsAll_noEx (fun t ht => hn t (List.mem_cons_of_mem _ ht)) xs e1 s1 e s h
    | ex e1 s1 => exact hn t List.mem_cons_self x env st e1 s1 q
    | no => rw [q] at h; cases h
theorem g_tup {es : List Expr} {k : Nat} {ts : List CG} {n : Nat} {pos : Pos} (hc : X.calm = true) (h : CmpGs X W es ts) (hln : ts.length = n) (hne : ∀ t ∈ ts, NoEx t)
    (hn : (assignEach es X.env).length = n := by rfl) (hst : (assignEach es X.env).findIdx? (·.1) = none := by rfl) : CmpG X W (.Tuple es k pos) (tgT ts) := by
  have both : ∀ g σ H env st (ys : List Val) (vs : List V) Q, SR X.K g st H → ER X.K g env σ → VRs X.K g ys vs → PostG X.K X.mg g σ.length (tgsAll ts ys env st) Q W → vs.length = n ∧ WGs X es vs σ H Q := fun g σ H env st ys vs Q hs hE r1 q => by
    have hl : ts.length = ys.length := Classical.byContradiction fun z => by
      rcases tgsAll_len (env := env) (st := st) z with e | ⟨e, s, e'⟩
      · rw [e] at q; exact q.elim
      · exact tgsAll_noEx hne ys env st e s e'
    exact ⟨by rw [← r1.length, ← hl, hln], h.run g σ H env st ys vs Q hs hE r1 q⟩
  refine ⟨fun g σ H env st y v Q hs hE r q => ?_⟩
  unfold tgT at q
  split at q
  · rename_i ys e
    obtain ⟨a, vs, rfl, h1, r1⟩ := seqOf_ok hs r e
    obtain ⟨b1, b2⟩ := both g σ H env st ys vs Q hs hE r1 q
    exact ⟨_, pg_tup hc pgs_W hn hst, a, vs, rfl, sqT_sub hs.ext h1, b1, b2⟩
  · rename_i kk ys nk e
    obtain ⟨a, vs, rfl, h1, r1⟩ := seqOf_ok hs r e
    obtain ⟨b1, b2⟩ := both g σ H env st ys vs Q hs hE r1 q
    exact ⟨_, pg_lst hc pgs_W hn hst, a, vs, rfl, h1.list hs.ext (fun z => by subst z; exact (nk rfl).elim), b1, b2⟩
  · exact q.elim
/-- o[i] = v, o a cell -/
def setC (x y v : Val) (st : Store) : Option Store := match x, y with
  | .c n, .d (.int i) => match st[n]? with
    | some (some xs) => match ixN xs.length i with
      | some j => some (st.set n (some (xs.set j v)))
      | none => none
    | _ => none
  | _, _ => none
def tgIx (f h : CE) : CG := fun x env st => (f env st).bind fun o st1 => (h env st1).bind fun i st2 => match setC o i x st2 with
  | some st3 => .ok env st3
  | none => .no
theorem g_ix {a b : Expr} {f h : CE} {pos : Pos} (ha : Cmp X W a f) (hb : Cmp X W b h) (hp : PG X (.Subscript a b pos) (gSub (WE X a) (WE X b) (WP X))) : CmpG X W (.Subscript a b pos) (tgIx f h) := by
  refine ⟨fun g σ H env st y v Q hs hE r q => ⟨_, hp, ?_⟩⟩
  refine ha.run g σ H env st _ hs hE (PostG.bind q fun g1 o H1 x st1 le1 s1 r1 q1 => ?_)
  refine hb.run g1 σ H1 env st1 _ s1 (hE.mono le1) (PostG.bind q1 fun g2 i H2 z st2 le2 s2 r2 q2 => ?_)
  cases e : setC x z y st2 with
  | none => rw [e] at q2; exact q2.elim
  | some st3 =>
    rw [e] at q2
    unfold setC at e
    split at e
    · rename_i n k
      split at e
      · rename_i xs hx
        split at e
        · rename_i j hj
          cases e
          cases vr_int r2
          cases r1 with
          | c hc =>
            obtain ⟨a', vs, h1, h2, h3, h4⟩ := s2.live n xs hx
            have ea := Option.some.inj (h1.symm.trans (le2.ρ _ _ hc))
            subst ea
            refine ⟨_, set_list, a', vs, k, j, rfl, rfl, h2, by rw [← h3.length]; exact hj, ?_⟩
            exact q2 g2 σ _ (Le.refl g2) (s2.written hx h1 (h3.set ((r.mono le1).mono le2) j)) ((hE.mono le1).mono le2) rfl
        · cases e
      · cases e
    · cases e

/-! ### assignments -/
def kAsg (f : CE) (t : CG) : CS := fun env st => (f env st).bind fun x st1 => (t x env st1).bind fun env1 st2 => .ok (.nx env1) st2
theorem PostS.fin {K : PySem.W.Frag} {mg : Str → Option Value} {g : Gh} {n : Nat} {r : R Env} {D : Ends} (h : PostS K mg g n (r.bind fun env1 st2 => .ok (.nx env1) st2) D W) : PostG K mg g n r D.nx W := by
  cases r with
  | ok x st => exact h
  | ex x st => exact h
  | no => exact h
theorem s_asg {tg e : Expr} {f : CE} {t : CG} {pos : Pos} (he : Cmp X W e f) (hg : CmpG X W tg t) (hs : swapsWithSole [tg] e pos.line X.env = pure false := by rfl) (hw : swappedStores [tg] e X.env = pure none := by rfl)
    (h1 : (assignEach [tg] X.env).map (·.2) = [assign tg X.env] := by rfl) : CmpS X W (.Assign [tg] e pos) (kAsg f t) := by
  refine ⟨fun g σ H env st D hS hE q => ⟨_, ps_asg pe_W pg_W hs hw h1, ?_⟩⟩
  refine he.run g σ H env st _ hS hE (PostS.bind q fun g1 v H1 x st1 le1 s1 r1 q1 => ?_)
  exact hg.run g1 σ H1 env st1 x v _ s1 (hE.mono le1) r1 (PostS.fin q1)
def kSet (i : Nat) (f : CE) : CS := fun env st => (f env st).bind fun x st1 => .ok (.nx (env.set i (some x))) st1
theorem s_set {i : Nat} {x : Str} {e : Expr} {f : CE} {pos pos' : Pos} (hN : X.N.Nodup) (hi : X.N[i]? = some x) (hx : Loc X.env.scope x) (he : Cmp X W e f) (hs : swapsWith e (some (.Name x pos')) pos.line X.env = pure false := by rfl)
    (hf : X.fn x = true ∨ X.env.scope.names.lookup x = some .local := by first | exact .inl rfl | exact .inr rfl | assumption) : CmpS X W (.Assign [.Name x pos'] e pos) (kSet i f) := by
  refine ⟨fun g σ H env st D hS hE q => ⟨_, ps_set hN hi hx pe_W hs hf, ?_⟩⟩
  exact he.run g σ H env st _ hS hE (PostS.bind q fun g1 v H1 x st1 le1 s1 r1 q1 => q1 g1 _ H1 (Le.refl g1) s1 ((hE.mono le1).set i r1) (by rw [List.length_set]))
/-- a, b = x, y with plain local names -/
def kPar (i j : Nat) (f h : CE) : CS := fun env st => (f env st).bind fun x st1 => (h env st1).bind fun y st2 => .ok (.nx ((env.set i (some x)).set j (some y))) st2
theorem s_par {i j : Nat} {x y : Str} {a b : Expr} {f h : CE} {px py pt pos : Pos} {kt k2 pt2} (hc : X.calm = true) (hN : X.N.Nodup) (hi : X.N[i]? = some x) (hj : X.N[j]? = some y) (hij : i ≠ j)
    (hx : X.env.scope.names.lookup x = some .local) (hy : X.env.scope.names.lookup y = some .local) (ha : Cmp X W a f) (hb : Cmp X W b h)
    (hw : swappedStores [.Tuple [.Name x px, .Name y py] kt pt] (.Tuple [a, b] k2 pt2) X.env = pure (some [x, y]))
    (hs : swapsWithSole [.Tuple [.Name x px, .Name y py] kt pt] (.Tuple [a, b] k2 pt2) pos.line X.env = pure false := by rfl)
    (hs1 : starEach [a, b] X.env = (false, eval a X.env) :: starEach [b] X.env := by rfl) (hs2 : starEach [b] X.env = (false, eval b X.env) :: starEach [] X.env := by rfl) :
    CmpS X W (.Assign [.Tuple [.Name x px, .Name y py] kt pt] (.Tuple [a, b] k2 pt2) pos) (kPar i j f h) := by
  refine ⟨fun g σ H env st D hS hE q => ⟨_, ps_par hc hN hi hj hij hx hy (pa_cons pe_W (pa_cons pe_W pa_nil hs2) hs1) hw hs, ?_⟩⟩
  refine ha.run g σ H env st _ hS hE (PostS.bind q fun g1 v H1 x st1 le1 s1 r1 q1 => ?_)
  refine hb.run g1 σ H1 env st1 _ s1 (hE.mono le1) (PostS.bind q1 fun g2 w H2 y st2 le2 s2 r2 q2 => ?_)
  exact ⟨v, w, rfl, q2 g2 _ H2 (Le.refl g2) s2 ((((hE.mono le1).mono le2).set i (r1.mono le2)).set j r2) (by rw [List.length_set, List.length_set])⟩
def kPar3 (i j l : Nat) (f h k : CE) : CS := fun env st => (f env st).bind fun x st1 => (h env st1).bind fun y st2 => (k env st2).bind fun z st3 => .ok (.nx (((env.set i (some x)).set j (some y)).set l (some z))) st3
theorem s_par3 {i j l : Nat} {x y z : Str} {a b c : Expr} {f h k : CE} {px py pz pt pos : Pos} {kt k2 pt2} (hc : X.calm = true) (hN : X.N.Nodup) (hi : X.N[i]? = some x) (hj : X.N[j]? = some y) (hl : X.N[l]? = some z) (hij : i ≠ j) (hil : i ≠ l) (hjl : j ≠ l)
    (hx : X.env.scope.names.lookup x = some .local) (hy : X.env.scope.names.lookup y = some .local) (hz : X.env.scope.names.lookup z = some .local) (ha : Cmp X W a f) (hb : Cmp X W b h) (hk : Cmp X W c k)
    (hw : swappedStores [.Tuple [.Name x px, .Name y py, .Name z pz] kt pt] (.Tuple [a, b, c] k2 pt2) X.env = pure (some [x, y, z]))
    (hs : swapsWithSole [.Tuple [.Name x px, .Name y py, .Name z pz] kt pt] (.Tuple [a, b, c] k2 pt2) pos.line X.env = pure false := by rfl)
    (hs0 : starEach [a, b, c] X.env = (false, eval a X.env) :: starEach [b, c] X.env := by rfl) (hs1 : starEach [b, c] X.env = (false, eval b X.env) :: starEach [c] X.env := by rfl) (hs2 : starEach [c] X.env = (false, eval c X.env) :: starEach [] X.env := by rfl) :
    CmpS X W (.Assign [.Tuple [.Name x px, .Name y py, .Name z pz] kt pt] (.Tuple [a, b, c] k2 pt2) pos) (kPar3 i j l f h k) := by
  refine ⟨fun g σ H env st D hS hE q => ⟨_, ps_par3 hc hN hi hj hl hij hil hjl hx hy hz (pa_cons pe_W (pa_cons pe_W (pa_cons pe_W pa_nil hs2) hs1) hs0) hw hs, ?_⟩⟩
  refine ha.run g σ H env st _ hS hE (PostS.bind q fun g1 v H1 x st1 le1 s1 r1 q1 => ?_)
  refine hb.run g1 σ H1 env st1 _ s1 (hE.mono le1) (PostS.bind q1 fun g2 w H2 y st2 le2 s2 r2 q2 => ?_)
  refine hk.run g2 σ H2 env st2 _ s2 ((hE.mono le1).mono le2) (PostS.bind q2 fun g3 u H3 z st3 le3 s3 r3 q3 => ?_)
  exact ⟨v, w, u, rfl, q3 g3 _ H3 (Le.refl g3) s3 ((((((hE.mono le1).mono le2).mono le3).set i ((r1.mono le2).mono le3)).set j (r2.mono le3)).set l r3) (by rw [List.length_set, List.length_set, List.length_set])⟩
/-- name += e, name -= e (ints) -/
def kAug (i : Nat) (k : Int → Int → Int) (f : CE) : CS := fun env st => match env[i]? with
  | some (some x) => (f env st).bind fun y st1 => match x, y with
    | .d (.int a), .d (.int b) => .ok (.nx (env.set i (some (.d (.int (k a b)))))) st1
    | _, _ => .no
  | _ => .no
theorem s_aug {i : Nat} {x : Str} {e : Expr} {f : CE} {op : Operator} {k : Int → Int → Int} {pos pos' : Pos} (hN : X.N.Nodup) (hi : X.N[i]? = some x) (hx : Loc X.env.scope x) (he : Cmp X W e f) (ho : PIp X op (ipI k))
    (hf : X.fn x = true ∨ X.env.scope.names.lookup x = some .local := by first | exact .inl rfl | exact .inr rfl | assumption) : CmpS X W (.AugAssign (.Name x pos') op e pos) (kAug i k f) := by
  refine ⟨fun g σ H env st D hS hE q => ⟨_, ps_aug hN hi hx pe_W ho hf, ?_⟩⟩
  unfold kAug at q
  split at q
  · rename_i y hy
    obtain ⟨v, h1, h2⟩ := hE.get i y hy
    refine ⟨v, h1, ?_⟩
    refine he.run g σ H env st _ hS hE (PostS.bind q fun g1 w H1 z st1 le1 s1 r1 q1 => ?_)
    split at q1
    · rename_i a b
      refine ⟨a, b, vr_int h2, vr_int r1, q1 g1 _ H1 (Le.refl g1) s1 ((hE.mono le1).set i (.d (.int _))) (by rw [List.length_set])⟩
    · exact q1.elim
  · exact q.elim
end
end Z

namespace Z
open PySem PySem.Spec PyProof.Rows L2

/-! ### what is walked -/
structure Wk where
  items : List Val
  gs : List (Nat × List Val)
/-- the cells that are walked stand as they stood -/
def Holds (gs : List (Nat × List Val)) (st : Store) : Prop := ∀ p ∈ gs, st[p.1]? = some (some p.2)
theorem holds_nil (st : Store) : Holds [] st := fun _ h => by cases h
noncomputable instance (gs : List (Nat × List Val)) (st : Store) : Decidable (Holds gs st) := Classical.propDecidable _
abbrev CI := Env → Store → R Wk
def ItOk (K : PySem.W.Frag) (g : Gh) (it : Wk) (J : It) : Prop :=
  ∀ g' st H, Le0 g g' → SR K g' st H → Holds it.gs st →
    (∀ i x, it.items[i]? = some x → J.go i H ∧ ∀ v H', J.yld i H v H' → ∃ g2, Le g' g2 ∧ SR K g2 st H' ∧ VR K g2 x v) ∧ ∀ i, it.items.length ≤ i → J.stop i H
structure CmpI (X : Cx) (W : WXf) (tg e : Expr) (f : CI) : Prop where
  run : ∀ g σ H env st R, SR X.K g st H → ER X.K g env σ → Post X.K X.mg g (ItOk X.K) (f env st) R (eW W σ) → WI X tg e σ H R
def gsOf (x : Val) (xs : List Val) : List (Nat × List Val) := match x with
  | .c n => [(n, xs)]
  | _ => []
section
variable {K : PySem.W.Frag}
theorem seq_stays {g g' : Gh} {st st' : Store} {H' : Hp} {x : Val} {v : V} {k : Sk} {xs : List Val} (r : VR K g x v) (h : seqOf st x = some (k, xs)) (le : Le0 g g') (hs : SR K g' st' H') (hh : Holds (gsOf x xs) st') :
    ∃ a vs, v = .ref a ∧ Sq K g' H' a vs k ∧ VRs K g' xs vs := by
  refine seqOf_ok hs (r.mono0 le) ?_
  cases x with
  | d y =>
    rw [← h]
    cases y <;> rfl
  | t ys => exact h
  | s ys => exact h
  | c n =>
    have e := hh (n, xs) (List.mem_singleton.mpr rfl)
    replace h : (match st[n]? with | some (some xs) => some (Sk.l, xs) | _ => none) = some (k, xs) := h
    split at h
    · cases h
      show (match st'[n]? with | some (some xs) => some (Sk.l, xs) | _ => none) = _
      rw [e]
    · cases h
theorem holds_app {a b : List (Nat × List Val)} {st : Store} (h : Holds (a ++ b) st) : Holds a st ∧ Holds b st :=
  ⟨fun p hp => h p (List.mem_append_left _ hp), fun p hp => h p (List.mem_append_right _ hp)⟩
/-- a list, a tuple that is walked -/
theorem it_list {g : Gh} {st : Store} {x : Val} {a : Addr} {k : Sk} {xs : List Val} (r : VR K g x (.ref a)) (h : seqOf st x = some (k, xs)) (hk : k ≠ .t) : ItOk K g ⟨xs, gsOf x xs⟩ (Itl K a) := by
  intro g' st' H' le hs hh
  obtain ⟨a', vs, e, h1, r1⟩ := seq_stays r h le hs hh
  cases e
  have hq := h1.list hs.ext hk
  refine ⟨fun i y hy => ?_, fun i hi => ⟨vs, hq, by rw [← r1.length]; exact hi⟩⟩
  obtain ⟨u, hu, ru⟩ := r1.get hy
  refine ⟨⟨vs, u, hq, hu⟩, fun v H2 hy2 => ?_⟩
  obtain ⟨rfl, hf⟩ := hy2
  have e2 := Option.some.inj ((hf vs hq).symm.trans hu)
  subst e2
  exact ⟨g', Le.refl _, hs, ru⟩
theorem it_tup {g : Gh} {st : Store} {x : Val} {a : Addr} {xs : List Val} (r : VR K g x (.ref a)) (h : seqOf st x = some (.t, xs)) : ItOk K g ⟨xs, gsOf x xs⟩ (Itt K a) := by
  intro g' st' H' le hs hh
  obtain ⟨a', vs, e, h1, r1⟩ := seq_stays r h le hs hh
  cases e
  have hq := sqT_sub hs.ext h1
  refine ⟨fun i y hy => ?_, fun i hi => ⟨vs, hq, by rw [← r1.length]; exact hi⟩⟩
  obtain ⟨u, hu, ru⟩ := r1.get hy
  refine ⟨⟨vs, u, hq, hu⟩, fun v H2 hy2 => ?_⟩
  obtain ⟨rfl, hf⟩ := hy2
  have e2 := Option.some.inj ((hf vs hq).symm.trans hu)
  subst e2
  exact ⟨g', Le.refl _, hs, ru⟩
/-- ints that are walked -/
def intsR (lo : Int) (n : Nat) : List Val := (List.range n).map fun i => Val.d (.int (lo + (i : Nat)))
def intsC (lo c : Int) (n : Nat) : List Val := (List.range n).map fun i => Val.d (.int (lo + (i : Nat) * c))
theorem it_rng {g : Gh} {lo : Int} {n : Nat} : ItOk K g ⟨intsR lo n, []⟩ (Itr lo n) := by
  intro g' st' H' le hs hh
  refine ⟨fun i y hy => ?_, fun i hi => (by simpa [intsR] using hi : n ≤ i)⟩
  unfold intsR at hy
  rw [List.getElem?_map] at hy
  obtain ⟨j, hj, rfl⟩ := Option.map_eq_some_iff.mp hy
  have hl : i < n := by simpa using (List.getElem?_eq_some_iff.mp hj).1
  rw [List.getElem?_range hl] at hj
  cases hj
  refine ⟨hl, fun v H2 hy2 => ?_⟩
  obtain ⟨rfl, rfl⟩ := hy2
  exact ⟨g', Le.refl _, hs, .d (.int _)⟩
theorem it_rngC {g : Gh} {lo c : Int} {n : Nat} : ItOk K g ⟨intsC lo c n, []⟩ (Itc lo c n) := by
  intro g' st' H' le hs hh
  refine ⟨fun i y hy => ?_, fun i hi => (by simpa [intsC] using hi : n ≤ i)⟩
  unfold intsC at hy
  rw [List.getElem?_map] at hy
  obtain ⟨j, hj, rfl⟩ := Option.map_eq_some_iff.mp hy
  have hl : i < n := by simpa using (List.getElem?_eq_some_iff.mp hj).1
  rw [List.getElem?_range hl] at hj
  cases hj
  refine ⟨hl, fun v H2 hy2 => ?_⟩
  obtain ⟨rfl, rfl⟩ := hy2
  exact ⟨g', Le.refl _, hs, .d (.int _)⟩
/-- a text's signs -/
def signs (z : Str) : List Val := z.cps.toList.map fun c => Val.d (.str ⟨#[c]⟩)
theorem it_str {g : Gh} {z : Str} : ItOk K g ⟨signs z, []⟩ (Its z) := by
  intro g' st' H' le hs hh
  refine ⟨fun i y hy => ?_, fun i hi => (by simpa [signs] using hi : z.cps.size ≤ i)⟩
  unfold signs at hy
  rw [List.getElem?_map] at hy
  obtain ⟨c, hc, rfl⟩ := Option.map_eq_some_iff.mp hy
  have hc' : z.cps[i]? = some c := by simpa using hc
  refine ⟨(Array.getElem?_eq_some_iff.mp hc').1, fun v H2 hy2 => ?_⟩
  obtain ⟨rfl, c', hc2, rfl⟩ := hy2
  rw [hc'] at hc2
  cases hc2
  exact ⟨g', Le.refl _, hs, .d (.str _)⟩
/-- items backwards -/
theorem it_rev {g : Gh} {st : Store} {x : Val} {a : Addr} {k : Sk} {xs : List Val} (r : VR K g x (.ref a)) (h : seqOf st x = some (k, xs)) (hk : k ≠ .t) : ItOk K g ⟨xs.reverse, gsOf x xs⟩ (Itv K a xs.length) := by
  intro g' st' H' le hs hh
  obtain ⟨a', vs, e, h1, r1⟩ := seq_stays r h le hs hh
  cases e
  have hq := h1.list hs.ext hk
  refine ⟨fun i y hy => ?_, fun i hi => (by simpa using hi : xs.length ≤ i)⟩
  have hi : i < xs.length := by simpa using (List.getElem?_eq_some_iff.mp hy).1
  rw [List.getElem?_reverse hi] at hy
  obtain ⟨u, hu, ru⟩ := r1.get hy
  refine ⟨⟨hi, vs, u, hq, hu⟩, fun v H2 hy2 => ?_⟩
  obtain ⟨rfl, hf⟩ := hy2
  have e2 := Option.some.inj ((hf vs hq).symm.trans hu)
  subst e2
  exact ⟨g', Le.refl _, hs, ru⟩
/-- places and items -/
def enums (xs : List Val) : List Val := (List.range xs.length).map fun i => tupV [Val.d (.int (i : Nat)), xs.getD i (.d .none)]
theorem it_enum {g : Gh} {st : Store} {x : Val} {a : Addr} {k : Sk} {xs : List Val} (r : VR K g x (.ref a)) (h : seqOf st x = some (k, xs)) (hk : k ≠ .t) : ItOk K g ⟨enums xs, gsOf x xs⟩ (Ite K a) := by
  intro g' st' H' le hs hh
  obtain ⟨a', vs, e, h1, r1⟩ := seq_stays r h le hs hh
  cases e
  have hq := h1.list hs.ext hk
  refine ⟨fun i y hy => ?_, fun i hi => ⟨vs, hq, by rw [← r1.length]; simpa [enums] using hi⟩⟩
  unfold enums at hy
  rw [List.getElem?_map] at hy
  obtain ⟨j, hj, rfl⟩ := Option.map_eq_some_iff.mp hy
  have hl : i < xs.length := by simpa using (List.getElem?_eq_some_iff.mp hj).1
  rw [List.getElem?_range hl] at hj
  cases hj
  have hx : xs[i]? = some (xs.getD i (.d .none)) := by rw [List.getD_eq_getElem?_getD, List.getElem?_eq_getElem hl]; rfl
  obtain ⟨u, hu, ru⟩ := r1.get hx
  refine ⟨⟨vs, u, hq, hu⟩, fun v H2 hy2 => ?_⟩
  obtain ⟨T, w, rfl, hT, rfl, hf⟩ := hy2
  have e2 := Option.some.inj ((hf vs hq).symm.trans hu)
  subst e2
  obtain ⟨le2, s2⟩ := hs.frozen hT (.tup [.int (i : Nat), w])
  exact ⟨_, le2, s2, tupV_ok (.inl (.inl upd_same)) (.cons (.d (.int _)) (.cons (ru.mono le2) .nil))⟩
/-- items in pairs -/
def zips (xs ys : List Val) : List Val := List.zipWith (fun x y => tupV [x, y]) xs ys
theorem it_zip {g : Gh} {st : Store} {x y : Val} {a b : Addr} {k k' : Sk} {xs ys : List Val} (r : VR K g x (.ref a)) (h : seqOf st x = some (k, xs)) (hk : k ≠ .t) (r' : VR K g y (.ref b)) (h' : seqOf st y = some (k', ys)) (hk' : k' ≠ .t) :
    ItOk K g ⟨zips xs ys, gsOf x xs ++ gsOf y ys⟩ (Itz K a b) := by
  intro g' st' H' le hs hh
  obtain ⟨hh1, hh2⟩ := holds_app hh
  obtain ⟨a', vs, e, h1, r1⟩ := seq_stays r h le hs hh1
  cases e
  obtain ⟨b', ws, e, h2, r2⟩ := seq_stays r' h' le hs hh2
  cases e
  have hq := h1.list hs.ext hk
  have hq' := h2.list hs.ext hk'
  refine ⟨fun i z hz => ?_, fun i hi => ⟨vs, ws, hq, hq', ?_⟩⟩
  · unfold zips at hz
    rw [List.getElem?_zipWith] at hz
    cases e1 : xs[i]? with
    | none => rw [e1] at hz; cases hz
    | some x1 =>
      cases e2 : ys[i]? with
      | none => rw [e1, e2] at hz; cases hz
      | some y1 =>
        rw [e1, e2] at hz
        cases hz
        obtain ⟨u, hu, ru⟩ := r1.get e1
        obtain ⟨w, hw, rw'⟩ := r2.get e2
        refine ⟨⟨vs, ws, u, w, hq, hq', hu, hw⟩, fun v H2 hy2 => ?_⟩
        obtain ⟨T, u2, w2, rfl, hT, rfl, hf, hf'⟩ := hy2
        have e3 := Option.some.inj ((hf vs hq).symm.trans hu)
        have e4 := Option.some.inj ((hf' ws hq').symm.trans hw)
        subst e3 e4
        obtain ⟨le2, s2⟩ := hs.frozen hT (.tup [u2, w2])
        exact ⟨_, le2, s2, tupV_ok (.inl (.inl upd_same)) (.cons (ru.mono le2) (.cons (rw'.mono le2) .nil))⟩
  · have hl : min xs.length ys.length ≤ i := by simpa [zips] using hi
    rw [← r1.length, ← r2.length]
    omega
theorem it_zipT {g : Gh} {st : Store} {x y : Val} {a b : Addr} {xs ys : List Val} (r : VR K g x (.ref a)) (h : seqOf st x = some (.t, xs)) (r' : VR K g y (.ref b)) (h' : seqOf st y = some (.t, ys)) :
    ItOk K g ⟨zips xs ys, gsOf x xs ++ gsOf y ys⟩ (RZ.ItzT K a b) := by
  intro g' st' H' le hs hh
  obtain ⟨hh1, hh2⟩ := holds_app hh
  obtain ⟨a', vs, e, h1, r1⟩ := seq_stays r h le hs hh1
  cases e
  obtain ⟨b', ws, e, h2, r2⟩ := seq_stays r' h' le hs hh2
  cases e
  have hq := sqT_sub hs.ext h1
  have hq' := sqT_sub hs.ext h2
  refine ⟨fun i z hz => ?_, fun i hi => ⟨vs, ws, hq, hq', ?_⟩⟩
  · unfold zips at hz
    rw [List.getElem?_zipWith] at hz
    cases e1 : xs[i]? with
    | none => rw [e1] at hz; cases hz
    | some x1 =>
      cases e2 : ys[i]? with
      | none => rw [e1, e2] at hz; cases hz
      | some y1 =>
        rw [e1, e2] at hz
        cases hz
        obtain ⟨u, hu, ru⟩ := r1.get e1
        obtain ⟨w, hw, rw'⟩ := r2.get e2
        refine ⟨⟨vs, ws, u, w, hq, hq', hu, hw⟩, fun v H2 hy2 => ?_⟩
        obtain ⟨T, u2, w2, rfl, hT, rfl, hf, hf'⟩ := hy2
        have e3 := Option.some.inj ((hf vs hq).symm.trans hu)
        have e4 := Option.some.inj ((hf' ws hq').symm.trans hw)
        subst e3 e4
        obtain ⟨le2, s2⟩ := hs.frozen hT (.tup [u2, w2])
        exact ⟨_, le2, s2, tupV_ok (.inl (.inl upd_same)) (.cons (ru.mono le2) (.cons (rw'.mono le2) .nil))⟩
  · have hl : min xs.length ys.length ≤ i := by simpa [zips] using hi
    rw [← r1.length, ← r2.length]
    omega
end

/-! ### the iterables' rules -/
section
variable {X : Cx} {W : WXf}
def itOf (x : Val) (st : Store) : R Wk := match x with
  | .d (.str z) => .ok ⟨signs z, []⟩ st
  | x => match seqOf st x with
    | some (_, xs) => .ok ⟨xs, gsOf x xs⟩ st
    | none => .no
def iSeq (f : CE) : CI := fun env st => (f env st).bind fun x st1 => itOf x st1
theorem i_seq {tg e : Expr} {f : CE} (h : Cmp X W e f) : CmpI X W tg e (iSeq f) := by
  refine ⟨fun g σ H env st R hs he q => ?_⟩
  unfold iSeq at q
  cases hf : f env st with
  | no => rw [hf] at q; exact q.elim
  | ex x st1 =>
    rw [hf] at q
    refine ⟨_, pi_list pe_W, h.run g σ H env st _ hs he ?_⟩
    rw [hf]
    exact q
  | ok x st1 =>
    rw [hf] at q
    replace q : Post X.K X.mg g (ItOk X.K) (itOf x st1) R (eW W σ) := q
    have run : ∀ Q1 : VK, (∀ g' v H, Le g g' → SR X.K g' st1 H → VR X.K g' x v → Q1 v H) → WE X e σ H Q1 := fun Q1 k => h.run g σ H env st Q1 hs he (by rw [hf]; exact k)
    unfold itOf at q
    split at q
    · rename_i z
      refine ⟨_, pi_str pe_W, run _ fun g' v H' le s1 r => ?_⟩
      exact ⟨z, vr_str r, q.ok' le s1 it_str⟩
    · split at q
      · rename_i k xs e1
        cases k with
        | t =>
          refine ⟨_, pi_tup pe_W, run _ fun g' v H' le s1 r => ?_⟩
          obtain ⟨a, vs, rfl, h1, r1⟩ := seqOf_ok s1 r e1
          exact ⟨a, rfl, ⟨vs, sqT_sub s1.ext h1⟩, q.ok' le s1 (it_tup r e1)⟩
        | l =>
          refine ⟨_, pi_list pe_W, run _ fun g' v H' le s1 r => ?_⟩
          obtain ⟨a, vs, rfl, h1, r1⟩ := seqOf_ok s1 r e1
          exact ⟨a, rfl, ⟨vs, SqL.of h1⟩, q.ok' le s1 (it_list r e1 (fun z => by cases z))⟩
        | s =>
          refine ⟨_, pi_list pe_W, run _ fun g' v H' le s1 r => ?_⟩
          obtain ⟨a, vs, rfl, h1, r1⟩ := seqOf_ok s1 r e1
          exact ⟨a, rfl, ⟨vs, sqL_sub s1.ext h1⟩, q.ok' le s1 (it_list r e1 (fun z => by cases z))⟩
      · exact q.elim
/-- range -/
def big : Int := 1000000000
def rng1 (xs : List Val) (st : Store) : R Wk := match xs with
  | [.d (.int n)] => if -1000000000 ≤ n ∧ n ≤ 1000000000 then .ok ⟨intsR 0 n.toNat, []⟩ st else .no
  | _ => .no
def rng2 (xs : List Val) (st : Store) : R Wk := match xs with
  | [.d (.int a), .d (.int b)] => if -1000000000 ≤ a ∧ a ≤ 1000000000 ∧ -1000000000 ≤ b ∧ b ≤ 1000000000 then .ok ⟨intsR a (b - a).toNat, []⟩ st else .no
  | _ => .no
def iRng (k : List Val → Store → R Wk) (fs : List CE) : CI := fun env st => (bArgs fs env st).bind fun xs st1 => k xs st1
theorem i_rng1 {tg a : Expr} {fs : List CE} {p pos : Pos} (hg : Gl X "range") (hm : X.mg "range" = none) (ha : CmpA X W [a] (bArgs fs)) (hs : starEach [a] X.env = [(false, eval a X.env)] := by rfl) : CmpI X W tg (.Call (.Name "range" p) [a] [] pos) (iRng rng1 fs) := by
  refine ⟨fun g σ H env st R hS he q => ⟨_, pi_range1 hg hm pa_W hs, ?_⟩⟩
  refine ha.run g σ H env st _ hS he (Post.bind q fun g1 v H1 x st1 le1 s1 r1 q1 => ?_)
  unfold rng1 at q1
  split at q1
  · rename_i n
    split at q1
    · rename_i hn
      obtain ⟨v', rfl, rv⟩ := vrs1 r1
      cases vr_int rv
      exact ⟨n, rfl, by omega, by omega, q1.ok s1 it_rng⟩
    · exact q1.elim
  · exact q1.elim
theorem i_rng2 {tg a b : Expr} {fs : List CE} {p pos : Pos} (hg : Gl X "range") (hm : X.mg "range" = none) (ha : CmpA X W [a, b] (bArgs fs)) (hs : starEach [a, b] X.env = [(false, eval a X.env), (false, eval b X.env)] := by rfl) (hs2 : starEach [b] X.env = [(false, eval b X.env)] := by rfl) :
    CmpI X W tg (.Call (.Name "range" p) [a, b] [] pos) (iRng rng2 fs) := by
  refine ⟨fun g σ H env st R hS he q => ⟨_, pi_range2 hg hm pa_W hs hs2, ?_⟩⟩
  refine ha.run g σ H env st _ hS he (Post.bind q fun g1 v H1 x st1 le1 s1 r1 q1 => ?_)
  unfold rng2 at q1
  split at q1
  · rename_i a b
    split at q1
    · rename_i hn
      obtain ⟨v', w', rfl, rv, rw'⟩ := vrs2 r1
      cases vr_int rv
      cases vr_int rw'
      exact ⟨a, b, rfl, ⟨by omega, by omega, by omega, by omega⟩, q1.ok s1 it_rng⟩
    · exact q1.elim
  · exact q1.elim
/-- range(a, b, -1) -/
def rng3 (xs : List Val) (st : Store) : R Wk := match xs with
  | [.d (.int a), .d (.int b), .d (.int c)] => if c = -1 ∧ -1000000000 ≤ a ∧ a ≤ 1000000000 ∧ -1000000000 ≤ b ∧ b ≤ 1000000000 then .ok ⟨intsC a (-1) (a - b).toNat, []⟩ st else .no
  | _ => .no
theorem i_rng3 {tg a b c : Expr} {fs : List CE} {p pos : Pos} (hg : Gl X "range") (hm : X.mg "range" = none) (ha : CmpA X W [a, b, c] (bArgs fs))
    (hp : ∀ t, PA X [a, b, c] t → PI X tg (.Call (.Name "range" p) [a, b, c] [] pos) (iRng3 t)) : CmpI X W tg (.Call (.Name "range" p) [a, b, c] [] pos) (iRng rng3 fs) := by
  refine ⟨fun g σ H env st R hS he q => ⟨_, hp _ pa_W, ?_⟩⟩
  refine ha.run g σ H env st _ hS he (Post.bind q fun g1 v H1 x st1 le1 s1 r1 q1 => ?_)
  unfold rng3 at q1
  split at q1
  · rename_i a b c
    split at q1
    · rename_i hn
      obtain ⟨v', w', u', rfl, rv, rw', ru⟩ := vrs3 r1
      cases vr_int rv
      cases vr_int rw'
      cases vr_int ru
      obtain ⟨rfl, h1, h2, h3, h4⟩ := hn
      exact ⟨a, b, -1, (a - b).toNat, rfl, RgC.neg (by omega) (by omega) (by omega) (by omega), q1.ok s1 it_rngC⟩
    · exact q1.elim
  · exact q1.elim
/-- reversed(range(a)) -/
def revR (xs : List Val) (st : Store) : R Wk := match xs with
  | [.d (.int n)] => if -1000000000 ≤ n ∧ n ≤ 1000000000 then .ok ⟨intsC ((n.toNat : Int) - 1) (-1) n.toNat, []⟩ st else .no
  | _ => .no
theorem i_revR {tg a : Expr} {f : CE} {p p2 pos pos2 : Pos} (hg : Gl X "reversed") (hm : X.mg "reversed" = none) (hg2 : Gl X "range") (hm2 : X.mg "range" = none) (ha : Cmp X W a f)
    (hs : starEach [.Call (.Name "range" p2) [a] [] pos2] X.env = (false, eval (.Call (.Name "range" p2) [a] [] pos2) X.env) :: starEach [] X.env := by rfl) (hs2 : starEach [a] X.env = (false, eval a X.env) :: starEach [] X.env := by rfl) :
    CmpI X W tg (.Call (.Name "reversed" p) [.Call (.Name "range" p2) [a] [] pos2] [] pos) (iRng revR [f]) := by
  refine ⟨fun g σ H env st R hS he q => ⟨_, pi_revR hg hm (prg_1 hg2 hm2 pe_W hs2) hs, ?_⟩⟩
  refine ha.run g σ H env st _ hS he ?_
  unfold iRng bArgs at q
  refine Post.bindA q fun g1 v H1 x st1 le1 s1 r1 q1 => ?_
  replace q1 : Post X.K X.mg g1 (ItOk X.K) (revR [x] st1) R (eW W σ) := q1
  unfold revR at q1
  split at q1
  · rename_i n e
    cases e
    split at q1
    · rename_i hn
      refine ⟨n, vr_int r1, by decide, by decide, by omega, by omega, ?_⟩
      rw [Int.sub_zero, Int.zero_add]
      exact q1.ok s1 it_rngC
    · exact q1.elim
  · exact q1.elim
/-- reversed(list) -/
def revL (xs : List Val) (st : Store) : R Wk := match xs with
  | [x] => match seqOf st x with
    | some (.l, ys) => .ok ⟨ys.reverse, gsOf x ys⟩ st
    | _ => .no
  | _ => .no
theorem i_revL {tg a : Expr} {fs : List CE} {p pos : Pos} (hg : Gl X "reversed") (hm : X.mg "reversed" = none) (ha : CmpA X W [a] (bArgs fs)) (hs : starEach [a] X.env = [(false, eval a X.env)] := by rfl) : CmpI X W tg (.Call (.Name "reversed" p) [a] [] pos) (iRng revL fs) := by
  refine ⟨fun g σ H env st R hS he q => ⟨_, pi_reversed hg hm pa_W hs, ?_⟩⟩
  refine ha.run g σ H env st _ hS he (Post.bind q fun g1 v H1 x st1 le1 s1 r1 q1 => ?_)
  unfold revL at q1
  split at q1
  · rename_i x
    obtain ⟨v', rfl, rv⟩ := vrs1 r1
    split at q1
    · rename_i ys e
      obtain ⟨a, vs, rfl, h1, r2⟩ := seqOf_ok s1 rv e
      refine ⟨a, vs, rfl, SqL.of h1, ?_⟩
      rw [← r2.length]
      exact q1.ok s1 (it_rev rv e (fun z => by cases z))
    · exact q1.elim
  · exact q1.elim
/-- enumerate(list) -/
def enumL (xs : List Val) (st : Store) : R Wk := match xs with
  | [x] => match seqOf st x with
    | some (.t, _) => .no
    | some (_, ys) => .ok ⟨enums ys, gsOf x ys⟩ st
    | none => .no
  | _ => .no
theorem i_enum {a : Expr} {fs : List CE} {p pos tpos : Pos} {elts : List Expr} {kk : Nat} (hg : Gl X "enumerate") (hm : X.mg "enumerate" = none) (ha : CmpA X W [a] (bArgs fs)) (hs : starEach [a] X.env = [(false, eval a X.env)] := by rfl) :
    CmpI X W (.Tuple elts kk tpos) (.Call (.Name "enumerate" p) [a] [] pos) (iRng enumL fs) := by
  refine ⟨fun g σ H env st R hS he q => ⟨_, pi_enum hg hm pa_W hs, ?_⟩⟩
  refine ha.run g σ H env st _ hS he (Post.bind q fun g1 v H1 x st1 le1 s1 r1 q1 => ?_)
  unfold enumL at q1
  split at q1
  · rename_i x
    obtain ⟨v', rfl, rv⟩ := vrs1 r1
    split at q1
    · exact q1.elim
    · rename_i k ys nk e
      have hk : k ≠ .t := fun z => by subst z; exact (nk rfl).elim
      obtain ⟨a, vs, rfl, h1, r2⟩ := seqOf_ok s1 rv e
      exact ⟨a, vs, rfl, h1.list s1.ext hk, q1.ok s1 (it_enum rv e hk)⟩
    · exact q1.elim
  · exact q1.elim
/-- zip of two lists, of two tuples -/
def zipL (xs : List Val) (st : Store) : R Wk := match xs with
  | [x, y] => match seqOf st x, seqOf st y with
    | some (.l, xs), some (.l, ys) => .ok ⟨zips xs ys, gsOf x xs ++ gsOf y ys⟩ st
    | some (.t, xs), some (.t, ys) => .ok ⟨zips xs ys, gsOf x xs ++ gsOf y ys⟩ st
    | _, _ => .no
  | _ => .no
theorem i_zip {a b : Expr} {fs : List CE} {p pos tpos : Pos} {elts : List Expr} {kk : Nat} (ha : CmpA X W [a, b] (bArgs fs))
    (hp : ∀ t, PA X [a, b] t → PI X (.Tuple elts kk tpos) (.Call (.Name "zip" p) [a, b] [] pos) (RZ.iZipA X.K t)) : CmpI X W (.Tuple elts kk tpos) (.Call (.Name "zip" p) [a, b] [] pos) (iRng zipL fs) := by
  refine ⟨fun g σ H env st R hS he q => ⟨_, hp _ pa_W, ?_⟩⟩
  refine ha.run g σ H env st _ hS he (Post.bind q fun g1 v H1 x st1 le1 s1 r1 q1 => ?_)
  unfold zipL at q1
  split at q1
  · rename_i x y
    obtain ⟨v', w', rfl, rv, rw'⟩ := vrs2 r1
    split at q1
    · rename_i xs ys e1 e2
      obtain ⟨a, vs, rfl, h1, r2⟩ := seqOf_ok s1 rv e1
      obtain ⟨b, ws, rfl, h2, r3⟩ := seqOf_ok s1 rw' e2
      exact ⟨a, b, vs, ws, rfl, .inl ⟨SqL.of h1, SqL.of h2, q1.ok s1 (it_zip rv e1 (fun z => by cases z) rw' e2 (fun z => by cases z))⟩⟩
    · rename_i xs ys e1 e2
      obtain ⟨a, vs, rfl, h1, r2⟩ := seqOf_ok s1 rv e1
      obtain ⟨b, ws, rfl, h2, r3⟩ := seqOf_ok s1 rw' e2
      exact ⟨a, b, vs, ws, rfl, .inr ⟨sqT_sub s1.ext h1, sqT_sub s1.ext h2, q1.ok s1 (it_zipT rv e1 rw' e2)⟩⟩
    · exact q1.elim
  · exact q1.elim
end
end Z

namespace Z
open PySem PySem.Spec PyProof.Rows L2
/-- for -/
noncomputable def forL (gs : List (Nat × List Val)) (t : CG) (b : CS) : List Val → Env → Store → R Fl
  | [], env, st => if Holds gs st then .ok (.nx env) st else .no
  | x :: xs, env, st => if Holds gs st then (t x env st).bind fun env1 st1 => (b env1 st1).bind fun fl st2 => match fl with
    | .nx e => forL gs t b xs e st2
    | .ct e => forL gs t b xs e st2
    | .bk e => .ok (.nx e) st2
    | .rt v => .ok (.rt v) st2
    else .no
noncomputable def kFor (fi : CI) (t : CG) (b : CS) : CS := fun env st => (fi env st).bind fun it st1 => forL it.gs t b it.items env st1
section
variable {X : Cx} {W : WXf}
theorem PostS.loop {K : PySem.W.Frag} {mg : Str → Option Value} {g : Gh} {n : Nat} {r : R Fl} {k : Env → Store → R Fl} {D : Ends} {N : L2.St → Hp → Prop}
    (h : PostS K mg g n (r.bind fun fl st2 => match fl with | .nx e => k e st2 | .ct e => k e st2 | .bk e => .ok (.nx e) st2 | .rt v => .ok (.rt v) st2) D W)
    (f : ∀ g1 σ H env1 st1, Le g g1 → SR K g1 st1 H → ER K g1 env1 σ → σ.length = n → PostS K mg g1 n (k env1 st1) D W → N σ H) : PostS K mg g n r { D with nx := N, ct := N, bk := D.nx } W := by
  cases r with
  | ok x st =>
    cases x with
    | nx env => exact fun g1 σ H le hs he hl => f g1 σ H env st le hs he hl (h.mono le)
    | ct env => exact fun g1 σ H le hs he hl => f g1 σ H env st le hs he hl (h.mono le)
    | bk env => exact h
    | rt v => exact h
  | ex x st => exact h
  | no => exact h
theorem s_for {tg iter : Expr} {body : List Stmt} {fi : CI} {t : CG} {b : CS} {pos : Pos} (hp : PassesOwn (model X.prog X.w) X.A X.env X.xe) (hc : X.calm = true) (hi : CmpI X W tg iter fi) (hg : CmpG X W tg t) (hb : CmpSs X W body b)
    (hs : ∀ x, foldedSetIterable iter X.env x = pure x := by intro _; rfl) : CmpS X W (.For tg iter body [] pos) (kFor fi t b) := by
  refine ⟨fun g σ H env st D hS hE q => ⟨_, ps_for hp hc pi_W pg_W pss_W hs, ?_⟩⟩
  refine hi.run g σ H env st _ hS hE (PostS.bind q fun g1 J H1 it st1 le1 s1 rJ q1 => ?_)
  refine ⟨fun i m σ' H' => m = it.items.length - i ∧ i ≤ it.items.length ∧ ∃ g' st' env', Le g1 g' ∧ SR X.K g' st' H' ∧ ER X.K g' env' σ' ∧ σ'.length = σ.length ∧ PostS X.K X.mg g' σ.length (forL it.gs t b (it.items.drop i) env' st') D W,
    ⟨it.items.length, by simp, Nat.zero_le _, g1, st1, env, Le.refl _, s1, hE.mono le1, rfl, q1⟩, ?_⟩
  rintro i m σ' H' ⟨rfl, hil, g', st', env', le', s', e', hl', q'⟩
  by_cases hlt : i < it.items.length
  · rw [List.drop_eq_getElem_cons hlt] at q'
    replace q' : PostS X.K X.mg g' σ.length (if Holds it.gs st' then (t it.items[i] env' st').bind fun env1 st1 => (b env1 st1).bind fun fl st2 => match fl with
      | .nx e => forL it.gs t b (it.items.drop (i + 1)) e st2
      | .ct e => forL it.gs t b (it.items.drop (i + 1)) e st2
      | .bk e => .ok (.nx e) st2
      | .rt v => .ok (.rt v) st2
      else .no) D W := q'
    split at q'
    · rename_i hh
      obtain ⟨k1, k2⟩ := rJ g' st' H' le'.toLe0 s' hh
      obtain ⟨go, yl⟩ := k1 i it.items[i] (List.getElem?_eq_getElem hlt)
      refine .inr ⟨go, fun σ2 H2 => ∃ m', m' < it.items.length - i ∧ (m' = it.items.length - (i + 1) ∧ i + 1 ≤ it.items.length ∧ ∃ g' st' env', Le g1 g' ∧ SR X.K g' st' H2 ∧ ER X.K g' env' σ2 ∧ σ2.length = σ.length ∧ PostS X.K X.mg g' σ.length (forL it.gs t b (it.items.drop (i + 1)) env' st') D W), fun _ _ h => h, fun v H2 hy => ?_⟩
      obtain ⟨g2, le2, s2, r2⟩ := yl v H2 hy
      refine hg.run g2 σ' H2 env' st' _ v _ s2 (e'.mono le2) r2 (PostS.bindG (by rw [hl']; exact q'.mono le2) fun g3 σ3 H3 env3 st3 le3 s3 e3 hl3 q3 => ?_)
      refine hb.run g3 σ3 H3 env3 st3 _ s3 e3 (PostS.loop (by rw [hl3]; exact q3) fun g4 σ4 H4 env4 st4 le4 s4 e4 hl4 q4 => ?_)
      exact ⟨it.items.length - (i + 1), by omega, rfl, hlt, g4, st4, env4, ((le'.trans le2).trans le3).trans le4, s4, e4, by rw [hl4, hl3, hl'], by rw [hl3, hl'] at q4; exact q4⟩
    · exact q'.elim
  · have e : i = it.items.length := by omega
    subst e
    rw [List.drop_length] at q'
    replace q' : PostS X.K X.mg g' σ.length (if Holds it.gs st' then .ok (.nx env') st' else .no) D W := q'
    split at q'
    · rename_i hh
      exact .inl ⟨(rJ g' st' H' le'.toLe0 s' hh).2 _ (Nat.le_refl _), q' g' σ' H' (Le.refl _) s' e' hl'⟩
    · exact q'.elim
end

/-! ### while -/
/-- so many turns at most -/
def whN (t : CT) (b : CS) : Nat → Env → Store → R Fl
  | 0, _, _ => .no
  | n + 1, env, st => (t env st).bind fun c st1 => if c then (b env st1).bind fun fl st2 => match fl with
    | .nx e => whN t b n e st2
    | .ct e => whN t b n e st2
    | .bk e => .ok (.nx e) st2
    | .rt v => .ok (.rt v) st2
    else .ok (.nx env) st1
open Classical in
/-- as many as it wants -/
noncomputable def kWhile (t : CT) (b : CS) : CS := fun env st => if h : ∃ n, whN t b n env st ≠ .no then whN t b (Classical.choose h) env st else .no
theorem bind_ne {α β : Type} {r r' : R α} {k k' : α → Store → R β} (h : r.bind k ≠ .no) (e : r = r') (hk : ∀ a st, k a st ≠ .no → k' a st = k a st) : r'.bind k' = r.bind k := by
  subst e
  cases r with
  | ok a st => exact hk a st h
  | ex e st => rfl
  | no => rfl
theorem whN_more (t : CT) (b : CS) : ∀ (n : Nat) (env : Env) (st : Store), whN t b n env st ≠ .no → whN t b (n + 1) env st = whN t b n env st := by
  intro n
  induction n with
  | zero => intro env st h; exact absurd rfl h
  | succ n ih =>
    intro env st h
    refine bind_ne h rfl fun c st1 h1 => ?_
    cases c with
    | false => rfl
    | true =>
      refine bind_ne h1 rfl fun fl st2 h2 => ?_
      cases fl with
      | nx e => exact ih e st2 h2
      | ct e => exact ih e st2 h2
      | bk e => rfl
      | rt v => rfl
theorem whN_le (t : CT) (b : CS) (env : Env) (st : Store) {n m : Nat} (hnm : n ≤ m) (h : whN t b n env st ≠ .no) : whN t b m env st = whN t b n env st := by
  induction hnm with
  | refl => rfl
  | step _ ih => rw [whN_more t b _ env st (by rw [ih]; exact h), ih]
theorem kWhile_eq {t : CT} {b : CS} {env : Env} {st : Store} (n : Nat) (h : whN t b n env st ≠ .no) : kWhile t b env st = whN t b n env st := by
  unfold kWhile
  have hx : ∃ n, whN t b n env st ≠ .no := ⟨n, h⟩
  rw [dif_pos hx]
  rcases Nat.le_total n (Classical.choose hx) with l | l
  · exact whN_le t b env st l h
  · exact (whN_le t b env st l (Classical.choose_spec hx)).symm
section
variable {X : Cx} {W : WXf}
theorem s_while {c : Expr} {body : List Stmt} {t : CT} {b : CS} {pos : Pos} (hp : PassesOwn (model X.prog X.w) X.A X.env X.xe) (hc : CmpT X W c t) (hb : CmpSs X W body b) : CmpS X W (.While c body [] pos) (kWhile t b) := by
  refine ⟨fun g σ H env st D hS hE q => ⟨_, ps_while hp pt_W pss_W, ?_⟩⟩
  have hx : ∃ n, whN t b n env st ≠ .no := Classical.byContradiction fun z => by
    unfold kWhile at q
    rw [dif_neg z] at q
    exact q
  obtain ⟨n, hn⟩ := hx
  rw [kWhile_eq n hn] at q
  refine ⟨fun m σ' H' => ∃ g' st' env', SR X.K g' st' H' ∧ ER X.K g' env' σ' ∧ σ'.length = σ.length ∧ PostS X.K X.mg g' σ.length (whN t b m env' st') D W, ⟨n, g, st, env, hS, hE, rfl, q⟩, ?_⟩
  rintro m σ' H' ⟨g', st', env', s', e', hl', q'⟩
  cases m with
  | zero => exact q'.elim
  | succ m =>
    refine hc.run g' σ' H' env' st' _ s' e' (PostS.bind (rel := relB) (k := fun c st1 => if c then (b env' st1).bind fun fl st2 => match fl with | .nx e => whN t b m e st2 | .ct e => whN t b m e st2 | .bk e => .ok (.nx e) st2 | .rt v => .ok (.rt v) st2 else .ok (.nx env') st1) (by rw [hl']; exact q') fun g1 v H1 x st1 le1 s1 r1 q1 => ?_)
    cases r1
    cases v with
    | true =>
      refine iteT ⟨fun σ2 H2 => ∃ g' st' env', SR X.K g' st' H2 ∧ ER X.K g' env' σ2 ∧ σ2.length = σ.length ∧ PostS X.K X.mg g' σ.length (whN t b m env' st') D W, fun σ2 H2 h => ⟨m, Nat.lt_succ_self m, h⟩, ?_⟩
      refine hb.run g1 σ' H1 env' st1 _ s1 (e'.mono le1) (PostS.loop (k := fun e st2 => whN t b m e st2) q1 fun g2 σ2 H2 env2 st2 le2 s2 e2 hl2 q2 => ?_)
      exact ⟨g2, st2, env2, s2, e2, by rw [hl2, hl'], by rw [hl'] at q2; exact q2⟩
    | false => exact iteF (q1 g1 σ' H1 (Le.refl _) s1 (e'.mono le1) rfl)
end

/-! ### comprehensions -/
/-- a comprehension's target: a name, a tuple of names -/
inductive LT where
  | n (i : Nat)
  | t (is : List Nat)
def setAll : List Nat → List Val → Env → Option Env
  | [], [], env => some env
  | i :: is, x :: xs, env => setAll is xs (env.set i (some x))
  | _, _, _ => none
def ltE (lt : LT) (x : Val) (env : Env) (st : Store) : Option Env := match lt with
  | .n i => some (env.set i (some x))
  | .t is => match seqOf st x with
    | some (.t, xs) => setAll is xs env
    | _ => none
def LT.slots : LT → List Nat
  | .n i => [i]
  | .t is => is
def gNs : List Nat → TGs
  | [] => gNil
  | i :: is => gCons (gName i) (gNs is)
def ltR (K : PySem.W.Frag) : LT → TG
  | .n i => gName i
  | .t is => gTup K is.length (gNs is)
def noEx {α : Type} : R α → R α
  | .ex _ _ => .no
  | r => r
noncomputable def lcL (gs : List (Nat × List Val)) (lt : LT) (tt : CT) (fe : CE) (env0 : Env) : List Val → List Val → Store → R (List Val)
  | [], acc, st => if Holds gs st then .ok acc st else .no
  | x :: xs, acc, st => if Holds gs st ∧ acc.length < lim then (match ltE lt x env0 st with
    | some env1 => (noEx (tt env1 st)).bind fun c st1 => if c then (noEx (fe env1 st1)).bind fun y st2 => lcL gs lt tt fe env0 xs (acc ++ [y]) st2 else lcL gs lt tt fe env0 xs acc st1
    | none => .no) else .no
noncomputable def bLc (m : Bool) (own : List Nat) (fi : CI) (lt : LT) (tt : CT) (fe : CE) : CE := fun env st => (fi env st).bind fun it st1 => (lcL it.gs lt tt fe (wipeE env own) it.items [] st1).bind fun xs st2 => mkL m xs st2
structure CmpTs (X : Cx) (W : WXf) (es : List Expr) (f : CT) : Prop where
  run : ∀ g σ H env st Q, SR X.K g st H → ER X.K g env σ → Post X.K X.mg g relB (f env st) Q (eW W σ) → ∃ t, PTs X es t ∧ t σ H Q
def tYesT : CT := fun _ st => .ok true st
section
variable {X : Cx} {W : WXf}
theorem ts_nil : CmpTs X W [] tYesT := ⟨fun g σ H env st Q hs he q => ⟨_, pts_nil, q.ok hs rfl⟩⟩
theorem ts_one {c : Expr} {t : CT} (h : CmpT X W c t) : CmpTs X W [c] t := ⟨fun g σ H env st Q hs he q => ⟨_, pts_one pt_W, h.run g σ H env st Q hs he q⟩⟩
theorem wipe_get {σ : L2.St} : ∀ {vs : List Nat} {i : Nat}, i ∈ vs → i < σ.length → (L2.wipe σ vs)[i]? = some none
  | [], i, h, _ => by cases h
  | v :: vs, i, h, hl => by
    show ((L2.wipe σ vs).set v none)[i]? = some none
    by_cases hv : v = i
    · subst hv
      rw [List.getElem?_set_self (by rw [L2.wipe_length]; exact hl)]
    · rw [List.getElem?_set_ne hv]
      rcases List.mem_cons.mp h with z | z
      · exact absurd z.symm hv
      · exact wipe_get z hl
theorem wipe_out' {σ : L2.St} {i : Nat} : ∀ {vs : List Nat}, i ∉ vs → (L2.wipe σ vs)[i]? = σ[i]?
  | [], _ => rfl
  | v :: vs, h => by
    show ((L2.wipe σ vs).set v none)[i]? = σ[i]?
    rw [List.getElem?_set_ne (fun z => h (by rw [z]; exact List.mem_cons_self)), wipe_out' (fun z => h (List.mem_cons_of_mem _ z))]
theorem wipe_set {σ : L2.St} {vs : List Nat} {i : Nat} {x : Option V} (h : i ∈ vs) : L2.wipe (σ.set i x) vs = L2.wipe σ vs := by
  apply List.ext_getElem?
  intro j
  by_cases hj : j ∈ vs
  · by_cases hl : j < σ.length
    · rw [wipe_get hj hl, wipe_get hj (by rw [List.length_set]; exact hl)]
    · rw [List.getElem?_eq_none (by rw [L2.wipe_length, List.length_set]; omega), List.getElem?_eq_none (by rw [L2.wipe_length]; omega)]
  · rw [wipe_out' hj, wipe_out' hj, List.getElem?_set_ne (fun z => hj (by rw [← z]; exact h))]
theorem wipe_idem {σ : L2.St} {vs : List Nat} : L2.wipe (L2.wipe σ vs) vs = L2.wipe σ vs := by
  apply List.ext_getElem?
  intro j
  by_cases hj : j ∈ vs
  · by_cases hl : j < σ.length
    · rw [wipe_get hj hl, wipe_get hj (by rw [L2.wipe_length]; exact hl)]
    · rw [List.getElem?_eq_none (by rw [L2.wipe_length, L2.wipe_length]; omega), List.getElem?_eq_none (by rw [L2.wipe_length]; omega)]
  · rw [wipe_out' hj]
theorem gNs_ok {K : PySem.W.Frag} {own : List Nat} {H : Hp} {σ0 : L2.St} : ∀ {is : List Nat} {xs : List Val} {vs : List V} {g : Gh} {env env' : Env} {σ : L2.St} {Q : L2.St → Hp → Prop}, (∀ i ∈ is, i ∈ own) → VRs K g xs vs → ER K g env σ → L2.wipe σ own = σ0 → setAll is xs env = some env' →
    (∀ σ2, ER K g env' σ2 → L2.wipe σ2 own = σ0 → σ2.length = σ.length → Q σ2 H) → gNs is vs σ H Q := by
  intro is
  induction is with
  | nil =>
    intro xs vs g env env' σ Q ho r e hw h q
    cases xs with
    | nil =>
      cases r
      cases h
      exact ⟨rfl, q σ e hw rfl⟩
    | cons _ _ => cases h
  | cons i is ih =>
    intro xs vs g env env' σ Q ho r e hw h q
    cases xs with
    | nil => cases h
    | cons x xs =>
      cases r with
      | cons r1 r2 =>
        refine ⟨_, _, rfl, ?_⟩
        refine ih (fun j hj => ho j (List.mem_cons_of_mem _ hj)) r2 (e.set i r1) (by rw [wipe_set (ho i List.mem_cons_self)]; exact hw) h fun σ2 e2 w2 l2 => q σ2 e2 w2 (by rw [l2, List.length_set])
theorem setAll_len : ∀ {is : List Nat} {xs : List Val} {env env' : Env}, setAll is xs env = some env' → xs.length = is.length
  | [], [], _, _, _ => rfl
  | [], _ :: _, _, _, h => by cases h
  | _ :: _, [], _, _, h => by cases h
  | _ :: is, _ :: xs, _, _, h => by
    rw [List.length_cons, List.length_cons, setAll_len (is := is) (xs := xs) h]
theorem ltR_ok {K : PySem.W.Frag} {own : List Nat} {lt : LT} {g : Gh} {st : Store} {H : Hp} {x : Val} {v : V} {env env' : Env} {σ : L2.St} {Q : L2.St → Hp → Prop} (ho : ∀ i ∈ lt.slots, i ∈ own) (hs : SR K g st H) (r : VR K g x v) (e : ER K g env (L2.wipe σ own)) (h : ltE lt x env st = some env')
    (q : ∀ σ2, ER K g env' σ2 → L2.wipe σ2 own = L2.wipe σ own → Q σ2 H) : ltR K lt v (L2.wipe σ own) H Q := by
  cases lt with
  | n i =>
    cases h
    exact q _ (e.set i r) (by rw [wipe_set (ho i (List.mem_singleton.mpr rfl)), wipe_idem])
  | t is =>
    replace h : (match seqOf st x with | some (.t, xs) => setAll is xs env | _ => none) = some env' := h
    split at h
    · rename_i xs e1
      obtain ⟨a, vs, rfl, h1, r1⟩ := seqOf_ok hs r e1
      refine ⟨a, vs, rfl, sqT_sub hs.ext h1, by rw [← r1.length, setAll_len h], ?_⟩
      exact gNs_ok ho r1 e wipe_idem h fun σ2 e2 w2 _ => q σ2 e2 w2
    · cases h
abbrev Blk (X : Cx) (scope : Scope) (P : Cx → Prop) : Prop := ∀ (s : Shared) (H : Hp) (C : Addr) (cl : List (Str × Addr)) (fp : List Addr), P (X.blk s H scope (compEnvC scope cl C X.env) fp)
abbrev noW : WXf := fun _ _ _ _ => False
theorem noEx_post {K : PySem.W.Frag} {mg : Str → Option Value} {α β γ δ : Type} {rel : Gh → α → β → Prop} {rel' : Gh → γ → δ → Prop} {g : Gh} {r : R α} {k : α → Store → R γ} {Q : δ → Hp → Prop} {Q1 : β → Hp → Prop} {E E' : XK} (h : Post K mg g rel' ((noEx r).bind k) Q E)
    (f : ∀ g1 v H x st, Le g g1 → SR K g1 st H → rel g1 x v → Post K mg g1 rel' (k x st) Q E → Q1 v H) : Post K mg g rel r Q1 E' := by
  cases r with
  | ok x st => exact fun g1 v H le hs hr => f g1 v H x st le hs hr (h.mono le)
  | ex x st => exact h.elim
  | no => exact h
theorem Le.keep {g g' : Gh} (h : Le g g') (P : Hp) : Le (g.keep P) (g'.keep P) := .mk' h.F h.ρ rfl
theorem noEx_postK {K : PySem.W.Frag} {mg : Str → Option Value} {α β γ δ : Type} {rel : Gh → α → β → Prop} {rel' : Gh → γ → δ → Prop} {g : Gh} {P : Hp} {r : R α} {k : α → Store → R γ} {Q : δ → Hp → Prop} {Q1 : β → Hp → Prop} {E E' : XK} (h : Post K mg (g.keep P) rel' ((noEx r).bind k) Q E)
    (f : ∀ g1 v H x st, Le g g1 → SR K g1 st H → rel g1 x v → Post K mg (g1.keep P) rel' (k x st) Q E → Q1 v H) : Post K mg g rel r Q1 E' := by
  cases r with
  | ok x st => exact fun g1 v H le hs hr => f g1 v H x st le hs hr (h.mono (le.keep P))
  | ex x st => exact h.elim
  | no => exact h
theorem mkL_kept {K : PySem.W.Frag} {mg : Str → Option Value} {m : Bool} {xs : List Val} {vs : List V} {g : Gh} {st : Store} {H P0 : Hp} {D : Addr} {Q : VK} {E : XK} (hs : SR K g st H) (e : g.P = upd P0 D (.lst vs)) (h0 : P0 D = none) (r : VRs K g xs vs)
    (h : Post K mg (g.keep P0) (VR K) (mkL m xs st) Q E) : Q (.ref D) H := by
  have hF : g.F D = none := hs.keptF D (by rw [e, upd_same]; exact fun z => by cases z)
  unfold mkL at h
  split at h
  · cases m with
    | true =>
      obtain ⟨s2, le2, rv⟩ := hs.moreCell e h0 r
      replace h : Post K mg (g.keep P0) (VR K) (R.ok (Val.c st.length) (st ++ [some xs])) Q E := h
      exact h.ok' (g' := (g.keep P0).cell D) (Le.mk' (Sub.refl _) (Pre.app _ _) rfl) s2 rv
    | false =>
      replace h : Post K mg (g.keep P0) (VR K) (match allD xs with | some ds => R.ok (Val.d (.list ds)) st | none => .no) Q E := h
      split at h
      · rename_i ds hd
        obtain ⟨s2, le2⟩ := hs.moreFrozen e h0
        exact h.ok' (Gh.put_le hF) s2 (.d (.lst upd_same (dpAll_sub le2.F (r.allD hd))))
      · exact h.elim
  · exact h.elim
theorem bind_assoc' {α β γ : Type} (r : R α) (k : α → Store → R β) (k' : β → Store → R γ) : (r.bind k).bind k' = r.bind fun a st => (k a st).bind k' := by cases r <;> rfl
abbrev slotsOf (own : List (Str × Nat)) : List Nat := own.map fun p => p.2
/-- the comprehension's reading -/
def ttA (X : Cx) (scope : Scope) (ifs : List Expr) : TT := fun σ H Q => ∀ (s : Shared) (H0 : Hp) (C : Addr) (cl : List (Str × Addr)) (fp : List Addr), ∃ t, PTs (X.blk s H0 scope (compEnvC scope cl C X.env) fp) ifs t ∧ t σ H Q
def teA (X : Cx) (scope : Scope) (elt : Expr) : TE := fun σ H Q => ∀ (s : Shared) (H0 : Hp) (C : Addr) (cl : List (Str × Addr)) (fp : List Addr), WE (X.blk s H0 scope (compEnvC scope cl C X.env) fp) elt σ H Q
theorem lc_tl (m : Bool) {elt tg iter : Expr} {ifs : List Expr} {scope : Scope} {own : List (Str × Nat)} {fi : CI} {lt : LT} {tt : CT} {fe : CE} (hi : CmpI X W tg iter fi)
    (ho : ∀ i ∈ lt.slots, i ∈ slotsOf own) (ht : Blk X scope fun Y => CmpTs Y noW ifs tt) (he : Blk X scope fun Y => Cmp Y noW elt fe)
    {g : Gh} {σ : L2.St} {H : Hp} {env : Env} {st : Store} {Q : VK} (hS : SR X.K g st H) (hE : ER X.K g env σ) (q : Post X.K X.mg g (VR X.K) (bLc m (slotsOf own) fi lt tt fe env st) Q (eW W σ)) :
    tLc (WI X tg iter) (ltR X.K lt) (ttA X scope ifs) (teA X scope elt) (slotsOf own) σ H Q := by
  refine hi.run g σ H env st _ hS hE (Post.bind q fun g1 J H1 it st1 le1 s1 rJ q1 => ?_)
  intro D hD
  have eW0 : ER X.K g1 (wipeE env (slotsOf own)) (L2.wipe σ (slotsOf own)) := (hE.mono le1).wipe _
  have sD := s1.more hD (.lst [])
  obtain ⟨hF, hP, hr⟩ := s1.newAt hD
  refine ⟨fun i mm H' => mm = it.items.length - i ∧ i ≤ it.items.length ∧ ∃ g' st' acc vs, Le0 g1 g' ∧ g'.P = upd g1.P D (.lst vs) ∧ SR X.K g' st' H' ∧ VRs X.K g' acc vs ∧
    Post X.K X.mg (g'.keep g1.P) (VR X.K) ((lcL it.gs lt tt fe (wipeE env (slotsOf own)) (it.items.drop i) acc st').bind fun xs st2 => mkL m xs st2) Q (eW W σ),
    ⟨it.items.length, by simp, Nat.zero_le _, g1.keep (upd g1.P D (.lst [])), st1, [], [], g1.keep_le0 _, rfl, sD, .nil, q1⟩, ?_⟩
  rintro i mm H' ⟨rfl, hil, g', st', acc, vs, le', eP, s', rA, q'⟩
  by_cases hlt : i < it.items.length
  · rw [List.drop_eq_getElem_cons hlt] at q'
    replace q' : Post X.K X.mg (g'.keep g1.P) (VR X.K) ((if Holds it.gs st' ∧ acc.length < lim then (match ltE lt it.items[i] (wipeE env (slotsOf own)) st' with
      | some env1 => (noEx (tt env1 st')).bind fun c st1 => if c then (noEx (fe env1 st1)).bind fun y st2 => lcL it.gs lt tt fe (wipeE env (slotsOf own)) (it.items.drop (i + 1)) (acc ++ [y]) st2 else lcL it.gs lt tt fe (wipeE env (slotsOf own)) (it.items.drop (i + 1)) acc st1
      | none => .no) else .no).bind fun xs st2 => mkL m xs st2) Q (eW W σ) := q'
    split at q'
    · rename_i hh
      obtain ⟨k1, k2⟩ := rJ g' st' H' le' s' hh.1
      obtain ⟨go, yl⟩ := k1 i it.items[i] (List.getElem?_eq_getElem hlt)
      split at q'
      · rename_i env1 hl
        rw [bind_assoc'] at q'
        refine .inr ⟨go, fun H2 => ∃ m', m' < it.items.length - i ∧ (m' = it.items.length - (i + 1) ∧ i + 1 ≤ it.items.length ∧ ∃ g' st' acc vs, Le0 g1 g' ∧ g'.P = upd g1.P D (.lst vs) ∧ SR X.K g' st' H2 ∧ VRs X.K g' acc vs ∧
          Post X.K X.mg (g'.keep g1.P) (VR X.K) ((lcL it.gs lt tt fe (wipeE env (slotsOf own)) (it.items.drop (i + 1)) acc st').bind fun xs st2 => mkL m xs st2) Q (eW W σ)), fun _ h => h, fun v H2 hy => ?_⟩
        obtain ⟨g2, le2, s2, r2⟩ := yl v H2 hy
        have le02 : Le0 g1 g2 := ⟨le'.F.trans le2.F, le'.ρ.trans le2.ρ⟩
        refine ltR_ok (env' := env1) (st := st') ho s2 r2 (eW0.mono0 le02) hl fun σ2 e2 w2 => ⟨w2, ?_⟩
        intro s H0 C cl fp
        refine (ht s H0 C cl fp).run g2 σ2 H2 env1 st' _ s2 e2 (noEx_postK (P := g1.P) (q'.mono (le2.keep g1.P)) fun g3 b H3 b' st3 le3 s3 r3 q3 => ?_)
        cases r3
        have eP3 : g3.P = upd g1.P D (.lst vs) := by rw [le3.P, le2.P, eP]
        cases b with
        | false =>
          refine iteF ?_
          exact ⟨it.items.length - (i + 1), by omega, rfl, hlt, g3, st3, acc, vs, ⟨le02.F.trans le3.F, le02.ρ.trans le3.ρ⟩, eP3, s3, (rA.mono le2).mono le3, q3⟩
        | true =>
          refine iteT ?_
          replace q3 : Post X.K X.mg (g3.keep g1.P) (VR X.K) (((noEx (fe env1 st3)).bind fun y st2 => lcL it.gs lt tt fe (wipeE env (slotsOf own)) (it.items.drop (i + 1)) (acc ++ [y]) st2).bind fun xs st2 => mkL m xs st2) Q (eW W σ) := q3
          rw [bind_assoc'] at q3
          intro s H0 C cl fp
          refine (he s H0 C cl fp).run g3 σ2 H3 env1 st3 _ s3 (e2.mono le3) (noEx_postK (P := g1.P) q3 fun g4 y H4 y' st4 le4 s4 r4 q4 => ?_)
          have eP4 : g4.P = upd g1.P D (.lst vs) := by rw [le4.P, eP3]
          have hD4 : H4 D = some (.lst vs) := s4.kept D _ (by rw [eP4, upd_same])
          have rA4 : VRs X.K g4 acc vs := ((rA.mono le2).mono le3).mono le4
          refine ⟨vs, hD4, by rw [← rA4.length]; exact lim_line' hh.2, ?_⟩
          refine ⟨it.items.length - (i + 1), by omega, rfl, hlt, g4.keep (upd g1.P D (.lst (vs ++ [y]))), st4, acc ++ [y'], vs ++ [y], ?_, rfl, s4.moreSet eP4 _, (rA4.append (.cons r4 .nil)).mono0 (g4.keep_le0 _), q4⟩
          exact ⟨(le02.F.trans le3.F).trans le4.F, (le02.ρ.trans le3.ρ).trans le4.ρ⟩
      · exact q'.elim
    · exact q'.elim
  · have e : i = it.items.length := by omega
    subst e
    rw [List.drop_length] at q'
    replace q' : Post X.K X.mg (g'.keep g1.P) (VR X.K) ((if Holds it.gs st' then .ok acc st' else .no : R (List Val)).bind fun xs st2 => mkL m xs st2) Q (eW W σ) := q'
    split at q'
    · rename_i hh
      exact .inl ⟨(rJ g' st' H' le' s' hh).2 _ (Nat.le_refl _), mkL_kept s' eP hP rA q'⟩
    · exact q'.elim
theorem pts_all {scope : Scope} {ifs : List Expr} (s : Shared) (H0 : Hp) (C : Addr) (cl : List (Str × Addr)) (fp : List Addr) : PTs (X.blk s H0 scope (compEnvC scope cl C X.env) fp) ifs (ttA X scope ifs) :=
  ⟨fun pins s' σ' H' Q' I h => let ⟨t, p, z⟩ := h s H0 C cl fp; p.run pins s' σ' H' Q' I z⟩
theorem pe_all {scope : Scope} {elt : Expr} (s : Shared) (H0 : Hp) (C : Addr) (cl : List (Str × Addr)) (fp : List Addr) : PE (X.blk s H0 scope (compEnvC scope cl C X.env) fp) elt (teA X scope elt) :=
  ⟨fun pins s' σ' H' Q' I h => pe_W.run pins s' σ' H' Q' I (h s H0 C cl fp)⟩
theorem c_lc (m : Bool) {elt tg iter : Expr} {ifs : List Expr} {scope : Scope} {own : List (Str × Nat)} {pos : Pos} {fi : CI} {lt : LT} {tt : CT} {fe : CE} (hc : X.calm = true) (hN : X.N.Nodup) (hi : CmpI X W tg iter fi) (ok : BlkOk X.N X.env.scope scope own)
    (hg : Blk X scope fun Y => PG Y tg (ltR Y.K lt)) (ho : ∀ i ∈ lt.slots, i ∈ slotsOf own) (ht : Blk X scope fun Y => CmpTs Y noW ifs tt) (he : Blk X scope fun Y => Cmp Y noW elt fe) {sl : List Nat} (hsl : slotsOf own = sl)
    (hs : ∀ x, foldedSetIterable iter X.env x = pure x := by intro _; rfl) : Cmp X W (.ListComp elt [⟨tg, iter, ifs, 0⟩] scope pos) (bLc m sl fi lt tt fe) := by
  subst hsl
  exact ⟨fun g σ H env st Q hS hE q => ⟨_, pe_lc (g := ltR X.K lt) hc hN pi_W ok (fun s H C cl fp => hg s H C cl fp) pts_all pe_all hs, lc_tl m hi ho ht he hS hE q⟩⟩
theorem s_setLc (m : Bool) {i : Nat} {y : Str} {py : Pos} {elt tg iter : Expr} {ifs : List Expr} {scope : Scope} {own : List (Str × Nat)} {pos spos : Pos} {fi : CI} {lt : LT} {tt : CT} {fe : CE} (hc : X.calm = true) (hN : X.N.Nodup) (hy : X.N[i]? = some y) (hyl : X.env.scope.names.lookup y = some .local)
    (hsw : swapsWith (.ListComp elt [⟨tg, iter, ifs, 0⟩] scope pos) (some (.Name y py)) spos.line X.env = pure true) (hi : CmpI X W tg iter fi) (ok : BlkOk X.N X.env.scope scope own)
    (hg : Blk X scope fun Y => PG Y tg (ltR Y.K lt)) (ho : ∀ i ∈ lt.slots, i ∈ slotsOf own) (ht : Blk X scope fun Y => CmpTs Y noW ifs tt) (he : Blk X scope fun Y => Cmp Y noW elt fe) {sl : List Nat} (hsl : slotsOf own = sl)
    (hs : ∀ x, foldedSetIterable iter X.env x = pure x := by intro _; rfl) : CmpS X W (.Assign [.Name y py] (.ListComp elt [⟨tg, iter, ifs, 0⟩] scope pos) spos) (kSet i (bLc m sl fi lt tt fe)) := by
  subst hsl
  refine ⟨fun g σ H env st D hS hE q => ⟨_, ps_setLc (g := ltR X.K lt) hc hN hy hyl hsw pi_W ok (fun s H C cl fp => hg s H C cl fp) pts_all pe_all hs, ?_⟩⟩
  exact lc_tl m hi ho ht he hS hE (PostS.bind q fun g1 v H1 x st1 le1 s1 r1 q1 => q1 g1 _ H1 (Le.refl g1) s1 ((hE.mono le1).set i r1) (by rw [List.length_set]))
end
end Z

namespace Z
open PySem PySem.Spec PyProof.Rows L2
section
variable {X : Cx} {W : WXf}
/-! ### methods of lists -/
def MOk (X : Cx) (id : String) (sem : Val → List Val → Store → R Val) : Prop :=
  ∀ g st H x v xs vs Q E, SR X.K g st H → VR X.K g x v → VRs X.K g xs vs → Post X.K X.mg g (VR X.K) (sem x xs st) Q E → WM X id v vs H Q
/-- the receiver is a cell that lives -/
def isCell (x : Val) (st : Store) : Prop := ∃ n xs, x = .c n ∧ st[n]? = some (some xs)
def cellB (x : Val) (st : Store) : Bool := match x with
  | .c n => match st[n]? with
    | some (some _) => true
    | _ => false
  | _ => false
theorem cellB_ok {x : Val} {st : Store} (h : cellB x st = true) : ∃ n xs, x = .c n ∧ st[n]? = some (some xs) := by
  cases x with
  | c n =>
    replace h : (match st[n]? with | some (some _) => true | _ => false) = true := h
    split at h
    · rename_i xs hx
      exact ⟨n, xs, rfl, hx⟩
    · cases h
  | d y => cases h
  | t y => cases h
  | s y => cases h
def bMeth (sem : Val → List Val → Store → R Val) (f : CE) (fs : List CE) : CE := fun env st => (f env st).bind fun x st1 => if cellB x st1 then (bArgs fs env st1).bind fun xs st2 => sem x xs st2 else .no
theorem tyV_cell {g : Gh} {st : Store} {H : Hp} {x : Val} {v : V} (hs : SR X.K g st H) (r : VR X.K g x v) (h : cellB x st = true) : tyV X.K "list" v H := by
  obtain ⟨n, xs, rfl, hx⟩ := cellB_ok h
  obtain ⟨a, vs, h1, h2, _⟩ := hs.live n xs hx
  cases r with
  | c hc =>
    have e := Option.some.inj (h1.symm.trans hc)
    subst e
    exact .inl ⟨rfl, vs, SqL.of h2⟩
theorem c_meth {o e : Expr} {es : List Expr} {name : Str} {id : String} {apos cpos : Pos} {sem : Val → List Val → Store → R Val} {f : CE} {fs : List CE} (hm : MOk X id sem)
    (hp : ∀ to t, PE X o to → PA X (e :: es) t → PE X (.Call (.Attribute o name apos) (e :: es) [] cpos) (tBM X.K "list" (WM X id) to t)) (ho : Cmp X W o f) (ha : CmpA X W (e :: es) (bArgs fs)) :
    Cmp X W (.Call (.Attribute o name apos) (e :: es) [] cpos) (bMeth sem f fs) := by
  refine ⟨fun g σ H env st Q hs he q => ⟨_, hp _ _ pe_W pa_W, ?_⟩⟩
  refine ho.run g σ H env st _ hs he (Post.bind q fun g1 v H1 x st1 le1 s1 r1 q1 => ?_)
  split at q1
  · rename_i hc
    refine ⟨tyV_cell s1 r1 hc, ?_⟩
    refine ha.run g1 σ H1 env st1 _ s1 (he.mono le1) (Post.bind q1 fun g2 vs H2 xs st2 le2 s2 r2 q2 => ?_)
    exact hm g2 st2 H2 x v xs vs Q _ s2 (r1.mono le2) r2 q2
  · exact q1.elim
theorem c_meth0 {o : Expr} {name : Str} {id : String} {apos cpos : Pos} {sem : Val → List Val → Store → R Val} {f : CE} (hm : MOk X id sem)
    (hp : ∀ to, PE X o to → PE X (.Call (.Attribute o name apos) [] [] cpos) (tBM0 X.K "list" (WM X id) to)) (ho : Cmp X W o f) : Cmp X W (.Call (.Attribute o name apos) [] [] cpos) (bMeth sem f []) := by
  refine ⟨fun g σ H env st Q hs he q => ⟨_, hp _ pe_W, ?_⟩⟩
  refine ho.run g σ H env st _ hs he (Post.bind q fun g1 v H1 x st1 le1 s1 r1 q1 => ?_)
  split at q1
  · rename_i hc
    exact ⟨tyV_cell s1 r1 hc, hm g1 st1 H1 x v [] [] Q _ s1 r1 .nil q1⟩
  · exact q1.elim
/-- the store behind a change of a cell -/
def upC (x : Val) (st : Store) (k : List Val → Option (List Val × Val)) : R Val := match x with
  | .c n => match st[n]? with
    | some (some xs) => match k xs with
      | some (ys, y) => .ok y (st.set n (some ys))
      | none => .no
    | _ => .no
  | _ => .no
theorem upC_ok {K : PySem.W.Frag} {mg : Str → Option Value} {g : Gh} {st : Store} {H : Hp} {x : Val} {v : V} {k : List Val → Option (List Val × Val)} {Q : VK} {E : XK} (hs : SR K g st H) (r : VR K g x v) (h : Post K mg g (VR K) (upC x st k) Q E) :
    ∃ a xs vs ys y, v = .ref a ∧ H a = some (.lst vs) ∧ VRs K g xs vs ∧ k xs = some (ys, y) ∧ ∀ ws w, VRs K g ys ws → VR K g y w → Q w (upd H a (.lst ws)) := by
  unfold upC at h
  split at h
  · rename_i n
    split at h
    · rename_i xs hx
      split at h
      · rename_i ys y hk
        obtain ⟨a, vs, h1, h2, h3, h4⟩ := hs.live n xs hx
        cases r with
        | c hc =>
          have e := Option.some.inj (h1.symm.trans hc)
          subst e
          exact ⟨a, xs, vs, ys, y, rfl, h2, h3, hk, fun ws w r1 r2 => h.ok (hs.written hx h1 r1) r2⟩
      · exact h.elim
    · exact h.elim
  · exact h.elim
def mAppend (x : Val) (xs : List Val) (st : Store) : R Val := match xs with
  | [y] => upC x st fun ys => if ys.length < lim then some (ys ++ [y], .d .none) else none
  | _ => .no
theorem mo_append : MOk X "list.append" mAppend := by
  intro g st H x v xs vs Q E hs r rs h
  unfold mAppend at h
  split at h
  · rename_i y
    obtain ⟨w, rfl, rw'⟩ := vrs1 rs
    obtain ⟨a, xs, vs, ys, z, rfl, h1, h2, h3, q⟩ := upC_ok hs r h
    split at h3
    · rename_i hl
      cases h3
      exact ⟨_, mt_append, a, vs, w, rfl, rfl, h1, by rw [← h2.length]; exact lim_line' hl, q _ _ (h2.append (.cons rw' .nil)) (.d .non)⟩
    · cases h3
  · exact h.elim
def mReverse (x : Val) (xs : List Val) (st : Store) : R Val := match xs with
  | [] => upC x st fun ys => some (ys.reverse, .d .none)
  | _ => .no
theorem mo_reverse : MOk X "list.reverse" mReverse := by
  intro g st H x v xs vs Q E hs r rs h
  unfold mReverse at h
  split at h
  · cases rs
    obtain ⟨a, xs, vs, ys, z, rfl, h1, h2, h3, q⟩ := upC_ok hs r h
    cases h3
    exact ⟨_, mt_reverse, a, vs, rfl, rfl, h1, q _ _ h2.reverse (.d .non)⟩
  · exact h.elim
def mClear (x : Val) (xs : List Val) (st : Store) : R Val := match xs with
  | [] => upC x st fun ys => some ([], .d .none)
  | _ => .no
theorem mo_clear : MOk X "list.clear" mClear := by
  intro g st H x v xs vs Q E hs r rs h
  unfold mClear at h
  split at h
  · cases rs
    obtain ⟨a, xs, vs, ys, z, rfl, h1, h2, h3, q⟩ := upC_ok hs r h
    cases h3
    exact ⟨_, mt_clear, a, vs, rfl, rfl, h1, q _ _ .nil (.d .non)⟩
  · exact h.elim
end

/-! ### defs -/
abbrev Fn := List Val → Store → R Val
def spOf (K : PySem.W.Frag) (mg : Str → Option Value) (n : Nat) (sem : Fn) : Sp := fun vs H Q E => vs.length = n ∧ ∃ g xs st, SR K g st H ∧ VRs K g xs vs ∧ Post K mg g (VR K) (sem xs st) Q E
/-- as FnOk, where no repr is under way -/
structure FnG (P : Program) (w : World) (K : PySem.W.Frag) (mg : Str → Option Value) (base : Heap) (CX : CXT) (k : Nat) (f : Addr) (fd : FuncData) (ps : List Str) (sp : Sp) : Prop where
  len : ∀ vs H Q E, sp vs H Q E → vs.length = ps.length
  run : ∀ (A : Around) (outer : List PySem.Env) (s : Shared) (H : Hp) (args : Args) (us : List Value) (vs : List V) (Q : VK) (E : XK), A.guards = some [] → Room k A → Env0 P w K mg base A outer s H → BindsTo s fd args (ps.zip us) → Vals vs us → sp vs H Q E →
    codeAny (model P w) A (.call (.ref f) args) (CR CX outer P w H s Q E) s
theorem FnG.mono {P : Program} {w : World} {K : PySem.W.Frag} {mg : Str → Option Value} {base : Heap} {CX : CXT} {j k : Nat} {f : Addr} {fd : FuncData} {ps : List Str} {sp : Sp} (F : FnG P w K mg base CX j f fd ps sp) (h : j ≤ k) :
    FnG P w K mg base CX k f fd ps sp := ⟨F.len, fun A outer s H args us vs Q E hg hr => F.run A outer s H args us vs Q E hg (hr.mono h)⟩
section
variable {X : Cx} {W : WXf} {CX : CXT}
def bCall (n : Nat) (sem : Fn) (fs : List CE) : CE := fun env st => (bArgs fs env st).bind fun xs st1 => if xs.length = n then sem xs st1 else .no
theorem c_call {k n : Nat} {f : Addr} {fd : FuncData} {ps : List Str} {sem : Fn} {x : Str} {p pos : Pos} {e : Expr} {es : List Expr} {fs : List CE} (F : FnG X.prog X.w X.K X.mg X.base CX k f fd ps (spOf X.K X.mg n sem)) (hG : X.A.guards = some []) (hr : Room k X.A) (hg : Gl X x) (hm : X.mg x = some (.ref f))
    (hk : PySem.W.keepIn X.K (.ref f) = true) (hb : Binds X.K fd ps []) (hx : ∀ σ, PassesAt CX X σ (eW W σ)) (ha : CmpA X W (e :: es) (bArgs fs))
    (hdb : (x == ("__debug__" : Str)) = false := by decide) (he : starEach (e :: es) X.env = (false, eval e X.env) :: starEach es X.env := by rfl) (hpl : (backTo pos (starEach es X.env)).any (·.1) = false := by rfl) :
    Cmp X W (.Call (.Name x p) (e :: es) [] pos) (bCall n sem fs) := by
  refine ⟨fun g σ H env st Q hs hE q => ?_⟩
  refine ⟨fun σ' H' Q' => σ' = σ ∧ WA X (e :: es) σ' H' fun vs H1 => spOf X.K X.mg n sem vs H1 Q' (eW W σ), ⟨fun pins s σ1 H1 Q1 I1 h => ?_⟩, rfl, ?_⟩
  · obtain ⟨rfl, h⟩ := h
    refine wpAny_Call_Name_kw (ld_glob I1 hg hm ?_ hdb)
    refine PySem.W.callWith_K (h₀ := X.base) I1.ok.mod.kin hk (thn (pa_W.run pos pins s σ1 H1 _ I1 h) fun us s2 ⟨vs, H2, I2, r2, q2⟩ => ⟨I2.kIn, ?_⟩) he hpl
    have hl : us.length = ps.length := by rw [← r2.length]; exact F.len _ _ _ _ q2
    have hbind := hb s2 us I2.kIn (by rw [List.append_nil]; exact hl)
    rw [List.append_nil] at hbind
    refine wpAny_call (codeAny_mono (F.run X.A X.stack s2 H2 ⟨us, []⟩ us vs Q1 _ hG hr I2.env0 hbind r2 q2) fun r s' hq => ?_)
    cases r with
    | error err => exact hx σ1 pins H2 s2 err s' I2 hq
    | ok fl =>
      cases fl with
      | ret u => exact I2.after hq
      | next => exact hq.elim
      | brk => exact hq.elim
      | cont => exact hq.elim
  · refine ha.run g σ H env st _ hs hE (Post.bind q fun g1 vs H1 xs st1 le1 s1 r1 q1 => ?_)
    split at q1
    · rename_i hl
      exact ⟨by rw [← r1.length]; exact hl, g1, xs, st1, s1, r1, q1⟩
    · exact q1.elim
theorem passes0 {σ : L2.St} {E : XK} : PassesAt CX0 X σ E := fun _ _ _ _ _ _ h => h.elim
end

/-! ### a value as data, its cells dead from now on -/
def frzs (f : Val → Store → Option (PyData × Store)) : List Val → Store → Option (List PyData × Store)
  | [], st => some ([], st)
  | x :: xs, st => match f x st with
    | some (d, st1) => match frzs f xs st1 with
      | some (ds, st2) => some (d :: ds, st2)
      | none => none
    | none => none
def frz : Nat → Val → Store → Option (PyData × Store)
  | _, .d x, st => some (x, st)
  | 0, _, _ => none
  | _, .s _, _ => none
  | k + 1, .c n, st => match st[n]? with
    | some (some xs) => match allD xs with
      | some ds => some (.list ds, st.set n none)
      | none => match frzs (frz k) xs st with
        | some (ds, st1) => match st1[n]? with
          | some (some _) => some (.list ds, st1.set n none)
          | _ => none
        | none => none
    | _ => none
  | k + 1, .t xs, st => match frzs (frz k) xs st with
    | some (ds, st1) => some (.tuple ds, st1)
    | none => none
theorem frz_d (k : Nat) (x : PyData) (st : Store) : frz k (.d x) st = some (x, st) := by cases k <;> rfl
section
variable {K : PySem.W.Frag}
/-- a live cell dies, its object is frozen as it stands -/
theorem SR.kill {g : Gh} {st : Store} {H : Hp} {n : Nat} {xs : List Val} (s : SR K g st H) (e : st[n]? = some (some xs)) {a : Addr} {vs : List V} (ha : g.ρ[n]? = some a) (hv : H a = some (.lst vs)) :
    Le g (g.put a (.lst vs)) ∧ SR K (g.put a (.lst vs)) (st.set n none) H := by
  obtain ⟨a', vs', h1, h2, h3, h4⟩ := s.live n xs e
  have ea := Option.some.inj (h1.symm.trans ha)
  subst ea
  have ev : vs' = vs := by rw [h2] at hv; cases hv; rfl
  subst ev
  have le : Le g (g.put a' (.lst vs')) := Gh.put_le h4
  refine ⟨le, ⟨fun b u q => ?_, s.kept, fun b q => ?_, s.keptρ, by rw [List.length_set]; exact s.len, s.inj, s.there, fun m zs q => ?_⟩⟩
  · by_cases hb : b = a'
    · subst hb
      have q' : upd g.F b (.lst vs') b = some u := q
      rw [upd_same] at q'
      rw [h2]
      exact q'
    · have q' : upd g.F a' (.lst vs') b = some u := q
      rw [upd_ne hb] at q'
      exact s.ext b u q'
  · show upd g.F a' (.lst vs') b = none
    rw [upd_ne (fun z => q (by rw [z]; exact s.keptρ n a' h1))]
    exact s.keptF b q
  · by_cases hm : n = m
    · subst hm
      rw [List.getElem?_set_self (List.getElem?_eq_some_iff.mp e).1] at q
      cases q
    · rw [List.getElem?_set_ne hm] at q
      obtain ⟨b, us, k1, k2, k3, k4⟩ := s.live m zs q
      refine ⟨b, us, k1, k2, k3.mono le, ?_⟩
      show upd g.F a' (.lst vs') b = none
      rw [upd_ne (fun z => hm (s.inj n m a' h1 (by rw [z] at k1; exact k1)))]
      exact k4
def FrzOk (K : PySem.W.Frag) (f : Val → Store → Option (PyData × Store)) : Prop := ∀ g st H x v d st', SR K g st H → VR K g x v → f x st = some (d, st') → ∃ g', Le g g' ∧ g'.ρ = g.ρ ∧ SR K g' st' H ∧ Dx K g'.F v d
theorem frzs_ok {f : Val → Store → Option (PyData × Store)} (hf : FrzOk K f) : ∀ (xs : List Val) (g : Gh) (st : Store) (H : Hp) (vs : List V) (ds : List PyData) (st' : Store), SR K g st H → VRs K g xs vs → frzs f xs st = some (ds, st') → ∃ g', Le g g' ∧ g'.ρ = g.ρ ∧ SR K g' st' H ∧ DxAll K g'.F vs ds := by
  intro xs
  induction xs with
  | nil =>
    intro g st H vs ds st' s r h
    cases r
    cases h
    exact ⟨g, Le.refl _, rfl, s, .nil⟩
  | cons x xs ih =>
    intro g st H vs ds st' s r h
    cases r with
    | cons r1 r2 =>
      unfold frzs at h
      split at h
      · rename_i d st1 h1
        split at h
        · rename_i ds' st2 h2
          cases h
          obtain ⟨g1, le1, e1, s1, d1⟩ := hf g st H x _ d st1 s r1 h1
          obtain ⟨g2, le2, e2, s2, d2⟩ := ih g1 st1 H _ ds' st' s1 (r2.mono le1) h2
          exact ⟨g2, le1.trans le2, e2.trans e1, s2, .cons (dp_sub le2.F d1) d2⟩
        · cases h
      · cases h
theorem frz_ok : ∀ k : Nat, FrzOk K (frz k) := by
  intro k
  induction k with
  | zero =>
    intro g st H x v d st' s r h
    cases x with
    | d y =>
      rw [frz_d] at h
      cases h
      cases r with
      | d hd => exact ⟨g, Le.refl _, rfl, s, hd⟩
    | c n => cases h
    | t y => cases h
    | s y => cases h
  | succ k ih =>
    intro g st H x v d st' s r h
    cases x with
    | d y =>
      rw [frz_d] at h
      cases h
      cases r with
      | d hd => exact ⟨g, Le.refl _, rfl, s, hd⟩
    | s y => cases h
    | t xs =>
      cases r with
      | t hq ha =>
        replace h : (match frzs (frz k) xs st with | some (ds, st1) => some (PyData.tuple ds, st1) | none => none) = some (d, st') := h
        split at h
        · rename_i ds st1 h1
          cases h
          obtain ⟨g1, le1, e1, s1, d1⟩ := frzs_ok ih xs g st H _ ds _ s ha h1
          exact ⟨g1, le1, e1, s1, .tup (sqT_sub le1.F hq) d1⟩
        · cases h
    | c n =>
      cases r with
      | @c _ a hc =>
        unfold frz at h
        split at h
        · rename_i xs hx
          obtain ⟨a', vs, h1, h2, h3, h4⟩ := s.live n xs hx
          have ea := Option.some.inj (h1.symm.trans hc)
          subst ea
          split at h
          · rename_i ds hd
            cases h
            obtain ⟨le, s'⟩ := s.kill hx h1 h2
            exact ⟨_, le, rfl, s', .lst (show upd g.F _ _ _ = _ from upd_same) (dpAll_sub le.F (h3.allD hd))⟩
          · split at h
            · rename_i ds st1 hf
              split at h
              · rename_i ys hy
                cases h
                obtain ⟨g1, le1, e1, s1, d1⟩ := frzs_ok ih xs g st H _ ds _ s h3 hf
                obtain ⟨le2, s2⟩ := s1.kill hy (by rw [e1]; exact h1) h2
                exact ⟨_, le1.trans le2, e1, s2, .lst (show upd g1.F _ _ _ = _ from upd_same) (dpAll_sub le2.F d1)⟩
              · cases h
            · cases h
        · cases h
end
def bFrz (f : CE) : CE := fun env st => (f env st).bind fun x st1 => match frz 8 x st1 with
  | some (d, st2) => .ok (.d d) st2
  | none => .no
theorem c_frz {X : Cx} {W : WXf} {e : Expr} {f : CE} (h : Cmp X W e f) : Cmp X W e (bFrz f) := by
  refine ⟨fun g σ H env st Q hs he q => ?_⟩
  refine h.run g σ H env st _ hs he (Post.bind q fun g1 v H1 x st1 le1 s1 r1 q1 => ?_)
  split at q1
  · rename_i d st2 hf
    obtain ⟨g2, le2, e2, s2, d2⟩ := frz_ok 8 g1 st1 H1 x v d st2 s1 r1 hf
    exact q1.ok' le2 s2 (.d d2)
  · exact q1.elim

/-! ### a def's body -/
/-- no cell from n on -/
def below (n : Nat) : Val → Prop
  | .c m => m < n
  | .t xs => ∀ x ∈ xs, (match x with | .d _ => True | .s _ => True | _ => False)
  | _ => True
def Closed (n : Nat) (st : Store) : Prop := ∀ xs, some xs ∈ st → ∀ x ∈ xs, below n x
noncomputable instance (n : Nat) (st : Store) : Decidable (Closed n st) := Classical.propDecidable _
/-- a def hands back: its own cells are dropped where what it hands back holds none -/
noncomputable def handB (n : Nat) (x : Val) (st : Store) : R Val := if st.length ≤ n then .ok x st else match x with
  | .d y => if Closed n (st.take n) then .ok (.d y) (st.take n) else .no
  | x => .ok x st
noncomputable def fnB (np nl : Nat) (body : CS) : Fn := fun xs st => if xs.length = np then (noEx (body (xs.map some ++ List.replicate nl none) st)).bind fun fl st1 => match fl with
  | .rt v => handB st.length v st1
  | .nx _ => handB st.length (.d .none) st1
  | _ => .no
  else .no
section
variable {K : PySem.W.Frag}
theorem vr_below {g g' : Gh} {n : Nat} (hF : g'.F = g.F) (hρ : g'.ρ = g.ρ.take n) {x : Val} {v : V} (h : below n x) (r : VR K g x v) : VR K g' x v := by
  cases r with
  | d hd => exact .d (by rw [hF]; exact hd)
  | c hc => exact .c (by rw [hρ, List.getElem?_take_of_lt h]; exact hc)
  | s hs => exact .s (by rw [hF]; exact hs)
  | t hq ha =>
    refine .t (by rw [hF]; exact hq) ?_
    have go : ∀ (xs : List Val) (vs : List V), (∀ x ∈ xs, (match x with | .d _ => True | .s _ => True | _ => False)) → VRs K g xs vs → VRs K g' xs vs := by
      intro xs
      induction xs with
      | nil => intro vs _ r; cases r; exact .nil
      | cons y ys ih =>
        intro vs hb r
        cases r with
        | cons r1 r2 =>
          refine .cons ?_ (ih _ (fun z hz => hb z (List.mem_cons_of_mem _ hz)) r2)
          have hy := hb y List.mem_cons_self
          cases r1 with
          | d hd => exact .d (by rw [hF]; exact hd)
          | s hs => exact .s (by rw [hF]; exact hs)
          | c _ => exact hy.elim
          | t _ _ => exact hy.elim
    exact go _ _ h ha
theorem vrs_below {g g' : Gh} {n : Nat} (hF : g'.F = g.F) (hρ : g'.ρ = g.ρ.take n) : ∀ {xs : List Val} {vs : List V}, (∀ x ∈ xs, below n x) → VRs K g xs vs → VRs K g' xs vs
  | _, _, _, .nil => .nil
  | _, _, h, .cons r t => .cons (vr_below hF hρ (h _ List.mem_cons_self) r) (vrs_below hF hρ (fun x hx => h x (List.mem_cons_of_mem _ hx)) t)
theorem SR.cut {g : Gh} {st : Store} {H : Hp} {n : Nat} (s : SR K g st H) (hc : Closed n (st.take n)) : SR K ⟨g.F, g.ρ.take n, g.P⟩ (st.take n) H := by
  have back : ∀ (m : Nat) (a : Addr), (g.ρ.take n)[m]? = some a → g.ρ[m]? = some a := fun m a e => by
    rw [List.getElem?_take] at e
    split at e
    · exact e
    · cases e
  refine ⟨s.ext, s.kept, s.keptF, fun m a e => s.keptρ m a (back m a e), ?_, fun m k a e1 e2 => s.inj m k a (back m a e1) (back k a e2), fun m a e => s.there m a (back m a e), fun m xs e => ?_⟩
  · show (g.ρ.take n).length = (st.take n).length
    rw [List.length_take, List.length_take, s.len]
  · have e' : st[m]? = some (some xs) ∧ m < n := by
      rw [List.getElem?_take] at e
      split at e
      · exact ⟨e, by assumption⟩
      · cases e
    obtain ⟨a, vs, h1, h2, h3, h4⟩ := s.live m xs e'.1
    refine ⟨a, vs, by show (g.ρ.take n)[m]? = some a; rw [List.getElem?_take_of_lt e'.2]; exact h1, h2, ?_, h4⟩
    exact vrs_below (g := g) (g' := ⟨g.F, g.ρ.take n, g.P⟩) (n := n) rfl rfl (hc xs (List.mem_of_getElem? e)) h3
theorem hand_ok {mg : Str → Option Value} {g g1 : Gh} {st st1 : Store} {H1 : Hp} {x : Val} {v : V} {Q : VK} {E : XK} (le : Le g g1) (hl : g.ρ.length = st.length) (s1 : SR K g1 st1 H1) (r : VR K g1 x v) (h : Post K mg g (VR K) (handB st.length x st1) Q E) : Q v H1 := by
  unfold handB at h
  split at h
  · exact h.ok' le s1 r
  · split at h
    · rename_i y
      split at h
      · rename_i hc
        refine h.ok' (g' := ⟨g1.F, g1.ρ.take st.length, g1.P⟩) (.mk' le.F (fun n a e => ?_) le.P) (s1.cut hc) ?_
        · have hn : n < st.length := by rw [← hl]; exact (List.getElem?_eq_some_iff.mp e).1
          show (g1.ρ.take st.length)[n]? = some a
          rw [List.getElem?_take_of_lt hn]
          exact le.ρ n a e
        · cases r with
          | d hd => exact .d hd
      · exact h.elim
    · exact h.ok' le s1 r
end
section
variable {P : Program} {w : World} {K : PySem.W.Frag} {mg : Str → Option Value} {base : Heap}
theorem start_er {g : Gh} {N : List Str} {xs : List Val} {vs : List V} (r : VRs K g xs vs) (nl : Nat) (hn : N.length = xs.length + nl) : ER K g (xs.map some ++ List.replicate nl none) (L2.start N vs) := by
  unfold L2.start
  have hl := r.length
  refine ⟨by simp; omega, fun i x e => ?_⟩
  by_cases hi : i < xs.length
  · rw [List.getElem?_append_left (by simpa using hi), List.getElem?_map] at e
    obtain ⟨y, hy, hy2⟩ := Option.map_eq_some_iff.mp e
    cases hy2
    obtain ⟨v, hv, rv⟩ := r.get hy
    exact ⟨v, by rw [List.getElem?_append_left (by simp; omega), List.getElem?_map, hv]; rfl, rv⟩
  · rw [List.getElem?_append_right (by simpa using hi), List.getElem?_replicate] at e
    split at e
    · cases e
    · cases e
/-- THE RULE for a def (nothing is raised out of it) -/
theorem fn_ok {x qual : Str} {stm : Stmt} {f : Addr} {fd : FuncData} {N ps : List Str} {k np nl : Nat} {body : CS} (F : Fun K x qual stm f fd) (S : FnScope N ps (defScope stm)) (hp : ps.length = np) (hN : N.length = np + nl)
    (hbody : ∀ (cdv : Value) (A : Around) (outer : List PySem.Env) (s : Shared) (H : Hp) (E : XK), A.guards = some [] → Room k (A.deeper (envOfC qual (defScope stm) s.heap.objs.size f cdv)) →
      CmpSs (cxOf CX0 P w K mg base N qual (defScope stm) f cdv A outer s H E).nox (fun _ _ _ _ => False) (defBody stm) body) : FnG P w K mg base CX0 (k + 1) f fd ps (spOf K mg np (fnB np nl body)) := by
  obtain ⟨oc, od, kV, doc, pm, an, cdv, ct, osl, rfl, lk, hcd⟩ := F.ex
  refine ⟨fun vs H Q E h => by rw [h.1, hp], fun A outer s H args us vs Q E hG hr e0 hb r hsp => ?_⟩
  obtain ⟨hvl, g, xs, st, hs, hr2, hq⟩ := hsp
  have hx : xs.length = np := by rw [hr2.length, hvl]
  have KH : K.In s.heap := e0.mod.kin.keeps fun b o e => (e0.bs b o e).1
  have noL : s.heap.NoLimit := e0.mod.nolimit.keeps fun b o e => (e0.bs b o e).1
  have kinds : ∀ y ∈ ps.zip us, (defScope stm).names.lookup y.1 = some .local ∨ ((defScope stm).names.lookup y.1 = some .cell ∧ ((cellsFrom (s.heap.objs.size + 1) (defScope stm).names []).lookup y.1).isSome = true) := fun ⟨n, v⟩ hy =>
    (S.par n (List.of_mem_zip hy).1).elim .inl fun q => .inr ⟨q, PySem.W.cellsFrom_some _ _ _ (.inl q)⟩
  refine codeAny_call_function hr.depth (KH _ _ lk) rfl S.co S.gen rfl (PySem.W.codeRec_of KH hcd) (hb _ _ _ _ ?_)
  refine wpAny_newFunctionEnv_cells S.kind kinds fun env eEnv s1 x1 => ?_
  subst eEnv
  refine ⟨noL.keeps x1.toInCall.keep, codeAny_func ?_⟩
  have I : Inv (cxOf CX0 P w K mg base N qual (defScope stm) f cdv A outer s H E) [] (L2.start N vs) H s1 := inv_start S hr.hd e0 (by rw [hvl, hp]) r x1
  have cb := hbody cdv A outer s H E hG (hr.deeper _)
  have er : ER K g (xs.map some ++ List.replicate nl none) (L2.start N vs) := start_er hr2 nl (by rw [hN, hx])
  unfold fnB at hq
  rw [if_pos hx] at hq
  obtain ⟨t, ht, hr3⟩ := cb.run g (L2.start N vs) H _ st { nx := fun _ H' => Q .non H', rt := Q } hs er (by
    cases hf : body (xs.map some ++ List.replicate nl none) st with
    | no => rw [hf] at hq; exact hq.elim
    | ex e s2 => rw [hf] at hq; exact hq.elim
    | ok fl s2 =>
      rw [hf] at hq
      cases fl with
      | nx e2 => exact fun g1 σ H1 le s3 e3 _ => hand_ok le hs.len s3 (.d .non) hq
      | rt y => exact fun g1 v H1 le s3 r3 => hand_ok le hs.len s3 r3 hq
      | bk e2 => exact hq.elim
      | ct e2 => exact hq.elim)
  refine wpAny_mono (ht.nox.run [] s1 (L2.start N vs) H _ I hr3) (fun fl s' hfl => ?_) fun e s' he => he
  have fin : ∀ {σ' : L2.St} {H' : Hp} {v : V} {u : Value}, Inv (cxOf CX0 P w K mg base N qual (defScope stm) f cdv A outer s H E) [] σ' H' s' → RelV v u → Q v H' → L2.CE outer P w H s Q u s' :=
    fun {σ' H' v u} J rv q => ⟨v, H', J.os, J.bare, J.base, J.hok, rv, q⟩
  cases fl with
  | ret u =>
    obtain ⟨v, σ', H', J, rv, q⟩ := hfl
    exact fin J rv q
  | next =>
    obtain ⟨σ', H', J, q⟩ := hfl
    exact fin (v := V.non) (u := Value.none) J rfl q
  | brk =>
    obtain ⟨_, _, _, q⟩ := hfl
    exact False.elim q
  | cont =>
    obtain ⟨_, _, _, q⟩ := hfl
    exact False.elim q
end
end Z

namespace Z
open PySem PySem.Spec PyProof.Rows L2
section
variable {P : Program} {w : World} {K : PySem.W.Frag} {mg mb : Str → Option Value}
/-- the law's call, from its promise at the caller's own place -/
theorem law_run {k : Nat} {fa sc : Addr} {fd : FuncData} {x : Str} {sp : Sp} {s1 : Shared} {us : List Value} {ns : List Int}
    (hK : K.In s1.heap) (hgl : s1.heap.Ns mainGlobals mg) (hbn : s1.heap.Ns builtinsNs mb) (hbt : ∀ y : Str, y ≠ "__name__" → mb y = bootBuiltins y) (hno : s1.heap.NoLimit) (hgen : s1.gens = #[])
    (hsc : s1.heap.get? sc = some { cls := .type "list", data := .seq us.toArray }) (hin : IntsAre us ns) (hlen : ns.length ≤ sizeLine) (hr : Room k callerA)
    (F : ∀ base : Heap, K.In base → base.Ns mainGlobals mg → FnG P w K mg base CX0 k fa fd [x] sp) (hbd : ∀ (s : Shared) (u : Value), BindsTo s fd ⟨[u], []⟩ [(x, u)])
    (hsp : ∀ H : Hp, Only H → SqL K H sc (ns.map V.int) → sp [.ref sc] H (fun v _ => v = .bl true) fun _ _ _ => False) :
    codeAny (model P w) callerA (.call (.ref fa) ⟨[.ref sc], []⟩) (fun r s' => r = .ok (.ret (.bool true)) ∧ OldK s1.heap s'.heap ∧ s'.os = s1.os ∧ AllBare s'.gens) s1 := by
  have rel := vals_ints hin
  have eqLen := hin.length
  have main : ∀ H : Hp, Only H → SqL K H sc (ns.map V.int) → HOk P w H s1.heap → (∀ b, H b ≠ none → b = sc) → (H sc ≠ none → K.lookup sc = none) →
      codeAny (model P w) callerA (.call (.ref fa) ⟨[.ref sc], []⟩) (fun r s' => r = .ok (.ret (.bool true)) ∧ OldK s1.heap s'.heap ∧ s'.os = s1.os ∧ AllBare s'.gens) s1 := by
    intro H only hq hok one hnk
    have stay : ∀ {b : Addr} {o : Obj}, s1.heap.get? b = some o → H b = none → (hidT s1.heap H).get? b = some o := fun e n => hidT_get e n
    have dictNo : ∀ {b : Addr} {o : Obj} {es : Array DictEntry} {ep : Nat}, s1.heap.get? b = some o → o.data = .dict es ep → H b = none := fun {b o es ep} e d => by
      cases z : H b with
      | none => rfl
      | some u =>
        have hb := one b (by rw [z]; simp)
        subst hb
        rw [hsc] at e
        cases e
        have d2 : Data.seq us.toArray _ = Data.dict es ep := d
        cases d2
    have nsStay : ∀ {b : Addr} {m : Str → Option Value}, s1.heap.Ns b m → (hidT s1.heap H).Ns b m := fun {b m} ⟨o, es, ep, e, d, r⟩ => ⟨o, es, ep, stay e (dictNo e d), d, r⟩
    have kStay : K.In (hidT s1.heap H) := fun b o e => stay (hK b o e) (by
      cases z : H b with
      | none => rfl
      | some u =>
        have hb := one b (by rw [z]; simp)
        subst hb
        rw [hnk (by rw [z]; simp)] at e
        cases e)
    have hmod : Mod K mg (hidT s1.heap H) := ⟨kStay, nsStay hgl, ⟨mb, nsStay hbn, hbt⟩, let ⟨mc, h1, h2⟩ := hno; ⟨mc, nsStay h1, h2⟩⟩
    have env0 : Env0 P w K mg (hidT s1.heap H) callerA [] s1 H := ⟨rfl, hmod, fun b o e => of_hidT e, Nat.le_of_eq (hidT_size _ _), trivial, fun b hb => absurd (show b ∈ ([] : List Addr) from hb) (by simp), hok, .of_eq hgen⟩
    refine codeAny_mono ((F _ kStay (nsStay hgl)).run callerA [] s1 H ⟨[.ref sc], []⟩ [.ref sc] [.ref sc] _ _ rfl hr env0 (hbd s1 (.ref sc)) (.cons rfl .nil) (hsp H only hq)) fun r s' hres => ?_
    cases r with
    | error e => exact hres.elim
    | ok fl =>
      cases fl with
      | ret u =>
        obtain ⟨v, H2, hos, hbare, hun, hok2, hv, hval⟩ := hres
        have hval2 : v = .bl true := hval
        subst hval2
        obtain rfl : u = Value.bool true := hv
        refine ⟨rfl, OldK.of_keep fun b o e => ?_, hos, hbare⟩
        cases z : H b with
        | none => exact hun.keep b o e z (by intro y; exact absurd (show b ∈ ([] : List Addr) from y) (by simp)) (by simp)
        | some u =>
          rcases only b with y | ⟨ob, xs, y⟩
          · rw [z] at y; cases y
          · obtain ⟨e1, _⟩ := hok b _ y
            obtain ⟨e2, _⟩ := hok2 b _ (hun.frzs b ob _ y)
            rw [e] at e1
            cases e1
            exact e2
      | next => exact hres.elim
      | brk => exact hres.elim
      | cont => exact hres.elim
  cases hk : K.lookup sc with
  | some o =>
    have e := hK sc o hk
    rw [hsc] at e
    cases e
    exact main (fun _ => none) (fun _ => .inl rfl) (.inr ⟨_, us.toArray, _, hk, rfl, rfl, rfl, by rw [List.size_toArray, eqLen]; exact hlen, by simpa using rel⟩) (fun b u z => by cases (show (none : Option HO) = some u from z)) (fun b z => absurd rfl z) fun z => absurd rfl z
  | none =>
    refine main (fun b => if b = sc then some (.frz { cls := .type "list", data := .seq us.toArray } (.lst (ns.map V.int))) else none) (fun b => ?_) (.inl (.inr ⟨{ cls := .type "list", data := .seq us.toArray }, if_pos rfl⟩)) (fun b u z => ?_) (fun b z => ?_) fun _ => hk
    · by_cases hb : b = sc
      · exact .inr ⟨_, _, if_pos hb⟩
      · exact .inl (if_neg hb)
    · by_cases hb : b = sc
      · cases (if_pos hb).symm.trans z
        subst hb
        exact ⟨hsc, by rw [List.length_map]; exact hlen, us, _, rel, hsc⟩
      · cases (if_neg hb).symm.trans z
    · by_cases hb : b = sc
      · exact hb
      · exact absurd (if_neg hb) z
/-- the law's own promise: True at every script -/
def lawSp (K : PySem.W.Frag) (mg : Str → Option Value) (sem : Fn) : Sp := spOf K mg 1 sem
theorem law_sp {sem : Fn} {ns : List Int} {H : Hp} {a : Addr} (h : SqL K H a (ns.map V.int)) (hs : ∃ st, sem [.s ns] [] = .ok (.d (.bool true)) st) : spOf K mg 1 sem [.ref a] H (fun v _ => v = .bl true) fun _ _ _ => False := by
  obtain ⟨st, e⟩ := hs
  refine ⟨rfl, ⟨H, [], fun _ => none⟩, [.s ns], [], ⟨Sub.refl _, fun _ _ z => (by cases z), fun _ z => absurd rfl z, fun _ _ z => (by cases z), rfl, fun _ _ _ z => (by cases z), fun _ _ z => (by cases z), fun _ _ z => (by cases z)⟩, .cons (.s h) .nil, ?_⟩
  rw [e]
  exact fun g' v H' _ _ r => vr_bl r
end
/-- THE END: the goal that k_head leaves, from the law's semantic function -/
theorem walk_end {l : PySem.W.OpenLaw} {n k : Nat} {q : Program} {loose : List Str} {XP : (Str → Option Value) → Heap → Prop} {YP : World → Heap → Prop} {d : DefRec} {K : Params → PySem.W.Frag} {x : Str} {sem : Fn}
    (hn : l.most = some n) (hn2 : n ≤ sizeLine) (hdf : d.params.defaults = []) (hr : Room k callerA) (hY : ∀ (w : World) (h : Heap), YP w h → (K w.params).In h)
    (F : ∀ (w : World) (mg : Str → Option Value) (fa : Addr) (h : Heap), (K w.params).In h → h.Ns mainGlobals mg → mg d.name = some (.ref fa) →
      ∃ fd : FuncData, (∀ (s : Shared) (u : Value), BindsTo s fd ⟨[u], []⟩ [(x, u)]) ∧ ∀ base : Heap, (K w.params).In base → base.Ns mainGlobals mg → FnG l.prog w (K w.params) mg base CX0 k fa fd [x] (spOf (K w.params) mg 1 sem))
    (hlaw : ∀ ns : List Int, ns.length ≤ n → ∃ st, sem [.s ns] [] = .ok (.d (.bool true)) st) : PySem.W.WalkO q loose XP YP l.row.toRowW d [] (fun f vs => PySem.call f vs) := by
  refine Att.attach_callB hn hdf fun w s₀ s1 mg mb fa o pm cd doc a us ns G Y ho hd hcd hmg hobj hints hlen hbits hg => ?_
  obtain ⟨fd, hb, hF⟩ := F w mg fa _ (hY w _ Y) G.T.g hmg
  exact law_run (hY w _ Y) G.T.g G.T.b G.T.builtins G.T.nolimit hg hobj hints (Nat.le_trans hlen hn2) hr hF hb fun H _ hq => law_sp hq (hlaw ns hlen)
end Z

namespace Z
open PySem PySem.Spec PyProof.Rows L2
section
variable {X : Cx} {W : WXf}
/-! ### repr, str -/
def shOk (d : PyData) : Prop := d.showable = true ∧ d.depth ≤ 60 ∧ d.shown.length ≤ sizeLine
instance (d : PyData) : Decidable (shOk d) := by unfold shOk; infer_instance
theorem dp_nodict : ∀ (d : PyData), d.plain = true → d.hasDict = false := by
  have all : ∀ (n : Nat) (d : PyData), sizeOf d < n → d.plain = true → d.hasDict = false := by
    intro n
    induction n with
    | zero => intro d h; exact absurd h (Nat.not_lt_zero _)
    | succ n ih =>
      intro d hn hp
      have allD : ∀ xs : List PyData, (∀ x ∈ xs, sizeOf x < n) → PyData.plainAll xs = true → PyData.hasDictAll xs = false := by
        intro xs
        induction xs with
        | nil => intro _ _; rw [PyData.hasDictAll]
        | cons x xs ihx =>
          intro hs hp
          rw [PyData.plainAll, Bool.and_eq_true] at hp
          rw [PyData.hasDictAll, ih x (hs x List.mem_cons_self) hp.1, ihx (fun y hy => hs y (List.mem_cons_of_mem _ hy)) hp.2]
          rfl
      cases d with
      | none => rw [PyData.hasDict]
      | bool b => rw [PyData.hasDict]
      | int i => rw [PyData.hasDict]
      | str s => rw [PyData.hasDict]
      | list xs =>
        rw [PyData.hasDict]
        rw [PyData.plain] at hp
        refine allD xs (fun x hx => ?_) hp
        have h1 := List.sizeOf_lt_of_mem hx
        have h2 : sizeOf (PyData.list xs) = 1 + sizeOf xs := by rw [PyData.list.sizeOf_spec]
        omega
      | tuple xs =>
        rw [PyData.hasDict]
        rw [PyData.plain] at hp
        refine allD xs (fun x hx => ?_) hp
        have h1 := List.sizeOf_lt_of_mem hx
        have h2 : sizeOf (PyData.tuple xs) = 1 + sizeOf xs := by rw [PyData.tuple.sizeOf_spec]
        omega
      | dict kvs => rw [PyData.plain] at hp; cases hp
  exact fun d hp => all (sizeOf d + 1) d (Nat.lt_succ_self _) hp
theorem call_reprP (hG : X.A.guards = some []) (hu : X.A.units + 64 < cLine) : CallR X (.builtin "repr") fun xs H Q => ∃ a d, xs = [.ref a] ∧ Dp X.K H (.ref a) d ∧ shOk d ∧ Q (.str d.shown) H := by
  intro pins s σ H xs us Q I r h
  obtain ⟨a, d, rfl, hd, ⟨h1, h2, h3⟩, q⟩ := h
  obtain ⟨u, rfl, rv⟩ := vals1 r
  cases rv
  obtain ⟨as, hr⟩ := Dp.reads I d (.ref a) (.ref a) hd rfl
  exact PySem.repr_of_reads' hr h1 (fun e => by rw [dp_nodict d (dp_plain hd)] at e; cases e) hG (by omega) (fun b o e => e) (fun h' u tk hk => ⟨.str d.shown, H, I.kept hk, ⟨u, rfl⟩, q⟩) h3
theorem call_strP (hG : X.A.guards = some []) (hu : X.A.units + 64 < cLine) : CallR X (.type "str") fun xs H Q => ∃ a d, xs = [.ref a] ∧ Dp X.K H (.ref a) d ∧ shOk d ∧ Q (.str d.shown) H := by
  intro pins s σ H xs us Q I r h
  obtain ⟨a, d, rfl, hd, ⟨h1, h2, h3⟩, q⟩ := h
  obtain ⟨u, rfl, rv⟩ := vals1 r
  cases rv
  obtain ⟨as, hr⟩ := Dp.reads I d (.ref a) (.ref a) hd rfl
  exact PySem.str_of_reads hr h1 (fun e => by rw [dp_nodict d (dp_plain hd)] at e; cases e) hG (by omega) (fun b o e => e) (fun h' u tk hk => ⟨.str d.shown, H, I.kept hk, ⟨u, rfl⟩, q⟩) h3
def sRepr (xs : List Val) (st : Store) : R Val := match xs with
  | [x] => match deepV 16 st x with
    | some d => if shOk d then .ok (.d (.str d.shown)) st else .no
    | none => .no
  | _ => .no
theorem bo_repr (hG : X.A.guards = some []) (hu : X.A.units + 64 < cLine) : BOk X (.builtin "repr") sRepr := by
  intro g st H xs vs Q E hs r h
  unfold sRepr at h
  split at h
  · rename_i x
    obtain ⟨v, rfl, rv⟩ := vrs1 r
    split at h
    · rename_i d hd
      have dx := deepV_ok hs 16 x v d rv hd
      split at h
      · rename_i hk
        have q : Q (.str d.shown) H := h.ok hs (.d (.str _))
        cases dx with
        | non =>
          refine ⟨fun xs H Q => xs = [.non] ∧ Q (.str (PyData.shown .none)) H, fun pins s σ H xs us Q I r h => ?_, rfl, q⟩
          obtain ⟨rfl, q⟩ := h
          obtain ⟨u, rfl, rfl⟩ := vals1 r
          exact PySem.P.repr_of_none ⟨.str _, H, I.tok _, ⟨_, by rw [PyData.shown]⟩, q⟩
        | bl b =>
          refine ⟨fun xs H Q => xs = [.bl b] ∧ Q (.str (PyData.shown (.bool b))) H, fun pins s σ H xs us Q I r h => ?_, rfl, q⟩
          obtain ⟨rfl, q⟩ := h
          obtain ⟨u, rfl, rfl⟩ := vals1 r
          exact PySem.P.repr_of_bool ⟨.str _, H, I.tok _, ⟨_, by rw [PyData.shown]⟩, q⟩
        | int i =>
          have h1 := hk.1
          rw [PyData.showable] at h1
          refine ⟨fun xs H Q => xs = [.int i] ∧ Q (.str (PyData.shown (.int i))) H, fun pins s σ H xs us Q I r h => ?_, rfl, q⟩
          obtain ⟨rfl, q⟩ := h
          obtain ⟨u, rfl, t, rfl⟩ := vals1 r
          exact PySem.P.repr_of_int (of_decide_eq_true h1) ⟨.str _, H, I.tok _, ⟨_, by rw [PyData.shown]⟩, q⟩
        | str z =>
          have h1 := hk.2.2
          rw [PyData.shown] at h1
          refine ⟨fun xs H Q => xs = [.str z] ∧ Q (.str (PyData.shown (.str z))) H, fun pins s σ H xs us Q I r h => ?_, rfl, q⟩
          obtain ⟨rfl, q⟩ := h
          obtain ⟨u, rfl, t, rfl⟩ := vals1 r
          exact PySem.P.repr_of_str ⟨.str _, H, I.tok _, ⟨_, by rw [PyData.shown]⟩, q⟩ h1
        | lst hq ha => exact ⟨_, call_reprP hG hu, _, _, rfl, .lst (SqL.of hq) (dxAll_dp ha), hk, q⟩
        | tup hq ha => exact ⟨_, call_reprP hG hu, _, _, rfl, .tup hq (dxAll_dp ha), hk, q⟩
      · exact h.elim
    · exact h.elim
  · exact h.elim
/-- str: of a text itself -/
def strD : PyData → Str
  | .str z => z
  | d => d.shown
def sStr (xs : List Val) (st : Store) : R Val := match xs with
  | [x] => match deepV 16 st x with
    | some d => if shOk d then .ok (.d (.str (strD d))) st else .no
    | none => .no
  | _ => .no
theorem bo_str (hG : X.A.guards = some []) (hu : X.A.units + 64 < cLine) : BOk X (.type "str") sStr := by
  intro g st H xs vs Q E hs r h
  unfold sStr at h
  split at h
  · rename_i x
    obtain ⟨v, rfl, rv⟩ := vrs1 r
    split at h
    · rename_i d hd
      have dx := deepV_ok hs 16 x v d rv hd
      split at h
      · rename_i hk
        have q : Q (.str (strD d)) H := h.ok hs (.d (.str _))
        cases dx with
        | non =>
          refine ⟨fun xs H Q => xs = [.non] ∧ Q (.str (PyData.shown .none)) H, fun pins s σ H xs us Q I r h => ?_, rfl, q⟩
          obtain ⟨rfl, q⟩ := h
          obtain ⟨u, rfl, rfl⟩ := vals1 r
          exact PySem.P.str_of_none ⟨.str _, H, I.tok _, ⟨_, by rw [PyData.shown]⟩, q⟩
        | bl b =>
          refine ⟨fun xs H Q => xs = [.bl b] ∧ Q (.str (PyData.shown (.bool b))) H, fun pins s σ H xs us Q I r h => ?_, rfl, q⟩
          obtain ⟨rfl, q⟩ := h
          obtain ⟨u, rfl, rfl⟩ := vals1 r
          exact PySem.P.str_of_bool ⟨.str _, H, I.tok _, ⟨_, by rw [PyData.shown]⟩, q⟩
        | int i =>
          have h1 := hk.1
          rw [PyData.showable] at h1
          refine ⟨fun xs H Q => xs = [.int i] ∧ Q (.str (PyData.shown (.int i))) H, fun pins s σ H xs us Q I r h => ?_, rfl, q⟩
          obtain ⟨rfl, q⟩ := h
          obtain ⟨u, rfl, t, rfl⟩ := vals1 r
          exact PySem.P.str_of_int (of_decide_eq_true h1) ⟨.str _, H, I.tok _, ⟨_, by rw [PyData.shown]⟩, q⟩
        | str z =>
          refine ⟨fun xs H Q => xs = [.str z] ∧ Q (.str z) H, fun pins s σ H xs us Q I r h => ?_, rfl, q⟩
          obtain ⟨rfl, q⟩ := h
          obtain ⟨u, rfl, t, rfl⟩ := vals1 r
          exact PySem.P.str_of_str ⟨.str z, H, I, ⟨t, rfl⟩, q⟩
        | lst hq ha => exact ⟨_, call_strP hG hu, _, _, rfl, .lst (SqL.of hq) (dxAll_dp ha), hk, q⟩
        | tup hq ha => exact ⟨_, call_strP hG hu, _, _, rfl, .tup hq (dxAll_dp ha), hk, q⟩
      · exact h.elim
    · exact h.elim
  · exact h.elim
end
end Z

namespace Z
open PySem PySem.Spec PyProof.Rows L2
section
variable {X : Cx} {W : WXf} {CX : CXT}
/-! ### min of three, list.count, list(range) -/
def sMin3 (xs : List Val) (st : Store) : R Val := match xs with
  | [.d (.int i), .d (.int j), .d (.int k)] => .ok (.d (.int (if j < i then (if k < j then k else j) else (if k < i then k else i)))) st
  | _ => .no
theorem call_min3 (hc : X.calm = true) : CallR X (.builtin "min") fun xs H Q => ∃ i j k, xs = [.int i, .int j, .int k] ∧ Q (.int (if j < i then (if k < j then k else j) else (if k < i then k else i))) H := by
  intro pins s σ H xs us Q I r h
  obtain ⟨i, j, k, rfl, q⟩ := h
  cases r with
  | cons r1 r2 =>
    obtain ⟨u2, u3, rfl, ⟨t2, rfl⟩, ⟨t3, rfl⟩⟩ := vals2 r2
    obtain ⟨t1, rfl⟩ := r1
    refine min_three_ints (I.ok.hd hc) fun h' tk kp => ⟨_, H, I.kept kp, ?_, q⟩
    split
    · split
      · exact ⟨_, rfl⟩
      · exact ⟨_, rfl⟩
    · split
      · exact ⟨_, rfl⟩
      · exact ⟨_, rfl⟩
theorem bo_min3 (hc : X.calm = true) : BOk X (.builtin "min") sMin3 := by
  intro g st H xs vs Q E hs r h
  unfold sMin3 at h
  split at h
  · rename_i i j k
    obtain ⟨v, w, u, rfl, rv, rw', ru⟩ := vrs3 r
    cases vr_int rv
    cases vr_int rw'
    cases vr_int ru
    exact ⟨_, call_min3 hc, i, j, k, rfl, h.ok hs (.d (.int _))⟩
  · exact h.elim
/-- list.count, by data -/
theorem mt_cntD (hu : X.A.units + 64 < cLine) : MtR X "list.count" fun x xs H Q => ∃ (p : Addr) (ds : List PyData) (y : V) (e : PyData), x = .ref p ∧ xs = [y] ∧ Dp X.K H (.ref p) (.list ds) ∧ Dp X.K H y e ∧ min (PyData.depthAll ds) e.depth ≤ 50 ∧ Q (.int (ds.countP fun d => PyData.eqv d e)) H := by
  intro pins s σ H x xs v us Q I rx rxs h
  obtain ⟨p, ds, y, e, rfl, rfl, hd, he, hk, q⟩ := h
  cases rx
  obtain ⟨u, rfl, ru⟩ := rxs.one
  obtain ⟨bs, rb⟩ := Dp.reads I e y u he ru
  have pe := dp_plain he
  cases hd with
  | lst hq ha =>
    obtain ⟨its, rv, ⟨⟨cls, dd, data, sl⟩, n, ho, hc, hdn, hdt⟩, hlen⟩ := I.list hq
    simp only at hc hdt
    subst hc hdt
    obtain ⟨as, ra⟩ := Dp.readsAll I ds _ its ha rv
    have pd := dpAll_plain ha
    have hi : ∀ z ∈ its, SeqAt.EqAt X.A.in1 s z u (PyData.eqv (SeqAt.readOf s.heap z) e) := fun z hz => by
      obtain ⟨d, cs, rd, pl, dep⟩ := SeqAt.readsAll_mem_plain ds its as pd ra z hz
      rw [SeqAt.readOf_plain pl rd]
      exact SeqAt.eqAt_plain d e _ s z u cs bs rd rb pl pe (by show X.A.units + 1 + min d.depth e.depth < cLine; omega)
    refine call_meets PySem.F.slot_list_count ⟨_, ho, rfl⟩ PySem.F.entry_list_count (PySem.F.args_list_count_2 _ _)
      (SeqAt.list_countAt p its.toArray n dd sl u fun z => PyData.eqv (SeqAt.readOf s.heap z) e) ⟨ho, fun z hz => hi z (by simpa using hz), ?_⟩
    have ec : its.countP (fun z => PyData.eqv (SeqAt.readOf s.heap z) e) = ds.countP fun d => PyData.eqv d e := by
      have em := SeqAt.readsAll_map_plain ds its as pd ra
      rw [← em, List.countP_map]
      rfl
    refine ⟨.int (ds.countP fun d => PyData.eqv d e), H, I.tok _, ⟨s.toks, ?_⟩, q⟩
    show Value.int ((its.countP fun z => PyData.eqv (SeqAt.readOf s.heap z) e : Nat) : Int) s.toks = _
    rw [ec]
def mCount (x : Val) (xs : List Val) (st : Store) : R Val := match xs with
  | [y] => match deepV 16 st x, deepV 16 st y with
    | some (.list ds), some e => if min (PyData.depthAll ds) e.depth ≤ 50 then .ok (.d (.int (ds.countP fun d => PyData.eqv d e))) st else .no
    | _, _ => .no
  | _ => .no
/-- a method that only reads: the receiver a list of any kind -/
def isLst (x : Val) (st : Store) : Bool := match x with
  | .d (.list _) => true
  | x => cellB x st
def bMethR (sem : Val → List Val → Store → R Val) (f : CE) (fs : List CE) : CE := fun env st => (f env st).bind fun x st1 => if isLst x st1 then (bArgs fs env st1).bind fun xs st2 => sem x xs st2 else .no
theorem tyV_lst {g : Gh} {st : Store} {H : Hp} {x : Val} {v : V} (hs : SR X.K g st H) (r : VR X.K g x v) (h : isLst x st = true) : tyV X.K "list" v H := by
  unfold isLst at h
  split at h
  · cases r with
    | d hd =>
      cases hd with
      | lst hq _ => exact .inl ⟨rfl, _, SqL.of (hs.ext _ _ hq)⟩
  · exact tyV_cell hs r h
theorem c_methR {o e : Expr} {es : List Expr} {name : Str} {id : String} {apos cpos : Pos} {sem : Val → List Val → Store → R Val} {f : CE} {fs : List CE} (hm : MOk X id sem)
    (hp : ∀ to t, PE X o to → PA X (e :: es) t → PE X (.Call (.Attribute o name apos) (e :: es) [] cpos) (tBM X.K "list" (WM X id) to t)) (ho : Cmp X W o f) (ha : CmpA X W (e :: es) (bArgs fs)) :
    Cmp X W (.Call (.Attribute o name apos) (e :: es) [] cpos) (bMethR sem f fs) := by
  refine ⟨fun g σ H env st Q hs he q => ⟨_, hp _ _ pe_W pa_W, ?_⟩⟩
  refine ho.run g σ H env st _ hs he (Post.bind q fun g1 v H1 x st1 le1 s1 r1 q1 => ?_)
  split at q1
  · rename_i hc
    refine ⟨tyV_lst s1 r1 hc, ?_⟩
    refine ha.run g1 σ H1 env st1 _ s1 (he.mono le1) (Post.bind q1 fun g2 vs H2 xs st2 le2 s2 r2 q2 => ?_)
    exact hm g2 st2 H2 x v xs vs Q _ s2 (r1.mono le2) r2 q2
  · exact q1.elim
theorem mo_count (hu : X.A.units + 64 < cLine) : MOk X "list.count" mCount := by
  intro g st H x v xs vs Q E hs r rs h
  unfold mCount at h
  split at h
  · rename_i y
    obtain ⟨w, rfl, rw'⟩ := vrs1 rs
    split at h
    · rename_i ds e h1 h2
      split at h
      · rename_i hk
        have d1 := dx_dp (deepV_ok hs 16 x v _ r h1)
        have d2 := dx_dp (deepV_ok hs 16 y w _ rw' h2)
        have q : Q (.int (ds.countP fun d => PyData.eqv d e)) H := h.ok hs (.d (.int _))
        cases d1 with
        | lst hq ha => exact ⟨_, mt_cntD hu, _, ds, w, e, rfl, rfl, .lst hq ha, d2, hk, q⟩
      · exact h.elim
    · exact h.elim
  · exact h.elim
/-- list(range(a, b)) -/
def sLrg (m : Bool) (xs : List Val) (st : Store) : R Val := match xs with
  | [.d (.int a), .d (.int b)] => if -1000000 ≤ a ∧ a ≤ 1000000 ∧ -1000000 ≤ b ∧ b ≤ 1000000 then mkL m (intsR a (b - a).toNat) st else .no
  | _ => .no
theorem rgV_eq (a b : Int) : (rgV a b) = (List.range (b - a).toNat).map fun i => V.int (a + (i : Nat)) := rfl
theorem vrs_intsR {K : PySem.W.Frag} {g : Gh} (a : Int) : ∀ l : List Nat, VRs K g (l.map fun i => Val.d (.int (a + (i : Nat)))) (l.map fun i => V.int (a + (i : Nat)))
  | [] => .nil
  | _ :: l => .cons (.d (.int _)) (vrs_intsR a l)
theorem c_lrg (m : Bool) {a b : Expr} {f h : CE} {p p2 pos pos2 : Pos} (hc : X.calm = true) (hg : Gl X "list") (hm : X.mg "list" = none) (hg2 : Gl X "range") (hm2 : X.mg "range" = none) (ha : Cmp X W a f) (hb : Cmp X W b h)
    (hp : PE X (.Call (.Name "list" p) [.Call (.Name "range" p2) [a, b] [] pos2] [] pos) (tLstRg (tRg2 (WE X a) (WE X b)))) : Cmp X W (.Call (.Name "list" p) [.Call (.Name "range" p2) [a, b] [] pos2] [] pos) (bCallB (sLrg m) [f, h]) := by
  refine ⟨fun g σ H env st Q hS he q => ⟨_, hp, ?_⟩⟩
  refine ha.run g σ H env st _ hS he ?_
  unfold bCallB bArgs bArgs at q
  refine Post.bindA q fun g1 v H1 x st1 le1 s1 r1 q1 => ?_
  refine hb.run g1 σ H1 env st1 _ s1 (he.mono le1) ?_
  rw [bind_assoc'] at q1
  refine Post.bindA q1 fun g2 w H2 y st2 le2 s2 r2 q2 => ?_
  replace q2 : Post X.K X.mg g2 (VR X.K) (sLrg m [x, y] st2) Q (eW W σ) := q2
  unfold sLrg at q2
  split at q2
  · rename_i i j e
    cases e
    split at q2
    · rename_i hn
      refine ⟨i, j, vr_int (r1.mono le2), vr_int r2, ⟨by omega, by omega, by omega, by omega, by omega⟩, ?_⟩
      rw [rgV_eq]
      exact (mkL_ok s2 (vrs_intsR i _) q2).2
    · exact q2.elim
  · exact q2.elim
/-! ### a def of the text, for its callers -/
structure Cal (P : Program) (w : World) (K : PySem.W.Frag) (mg : Str → Option Value) (base : Heap) (k : Nat) (x : Str) (n : Nat) (sem : Fn) : Prop where
  ex : ∃ f fd ps, FnG P w K mg base CX0 k f fd ps (spOf K mg n sem) ∧ mg x = some (.ref f) ∧ PySem.W.keepIn K (.ref f) = true ∧ Binds K fd ps []
theorem c_cal {k n : Nat} {sem : Fn} {x : Str} {p pos : Pos} {e : Expr} {es : List Expr} {fs : List CE} (C : Cal X.prog X.w X.K X.mg X.base k x n sem) (hG : X.A.guards = some []) (hr : Room k X.A) (hg : Gl X x) (hx : ∀ σ, PassesAt CX0 X σ (eW W σ)) (ha : CmpA X W (e :: es) (bArgs fs))
    (hdb : (x == ("__debug__" : Str)) = false := by decide) (he : starEach (e :: es) X.env = (false, eval e X.env) :: starEach es X.env := by rfl) (hpl : (backTo pos (starEach es X.env)).any (·.1) = false := by rfl) :
    Cmp X W (.Call (.Name x p) (e :: es) [] pos) (bCall n sem fs) := by
  obtain ⟨f, fd, ps, F, hm, hk, hb⟩ := C.ex
  exact c_call F hG hr hg hm hk hb hx ha hdb he hpl
end
/-- a def that is never asked -/
theorem fn_none {P : Program} {w : World} {K : PySem.W.Frag} {mg : Str → Option Value} {base : Heap} {k n : Nat} {f : Addr} {fd : FuncData} {ps : List Str} (hp : ps.length = n) : FnG P w K mg base CX0 k f fd ps (spOf K mg n fun _ _ => .no) :=
  ⟨fun vs H Q E h => by rw [h.1, hp], fun A outer s H args us vs Q E hG hr e0 hb r h => by obtain ⟨_, _, _, _, _, _, z⟩ := h; exact z.elim⟩
theorem noEx_mem (is : List Nat) : ∀ t ∈ is.map tgN, NoEx t := fun t ht => by
  obtain ⟨i, _, rfl⟩ := List.mem_map.mp ht
  exact tgN_noEx i
theorem c_pv {X : Cx} {W : WXf} (i : Nat) {x : Str} {pos : Pos} (hN : X.N[i]? = some x := by rfl) (hv : Vis X.env.scope x := by first | exact Or.inl rfl | exact Or.inr (Or.inl rfl) | exact Or.inr (Or.inr rfl)) (hd : (x == ("__debug__" : Str)) = false := by decide)
    (hcd : (x == ("__classdict__" : Str)) = false := by decide) : Cmp X W (.Name x pos) (bVar i) := c_var hN hv hd hcd
/-! ### parts of the text -/
def kidE : Expr → Nat → Expr
  | .ListComp e _ _ _, 0 => e
  | .ListComp _ (⟨_, i, _, _⟩ :: _) _ _, 1 => i
  | .ListComp _ (⟨_, _, c :: _, _⟩ :: _) _ _, 2 => c
  | .Call _ as _ _, n => as.getD n (.Name "" ⟨0, 0, 0, 0⟩)
  | .BoolOp _ vs _, n => vs.getD n (.Name "" ⟨0, 0, 0, 0⟩)
  | .Compare l _ _ _, 0 => l
  | .Compare _ _ rs _, n + 1 => rs.getD n (.Name "" ⟨0, 0, 0, 0⟩)
  | .Tuple es _ _, n => es.getD n (.Name "" ⟨0, 0, 0, 0⟩)
  | .List es _, n => es.getD n (.Name "" ⟨0, 0, 0, 0⟩)
  | .BinOp a _ _ _, 0 => a
  | .BinOp _ _ b _, 1 => b
  | .UnaryOp _ a _, 0 => a
  | .Subscript a _ _, 0 => a
  | .Subscript _ b _, 1 => b
  | .IfExp t _ _ _, 0 => t
  | .IfExp _ a _ _, 1 => a
  | .IfExp _ _ b _, 2 => b
  | e, _ => e
def lcScope : Expr → Scope
  | .ListComp _ _ s _ => s
  | _ => { kind := .function, names := [], isGenerator := false, isCoroutine := false }
/-- a statement's expression (value, test, iterable), its body, its other body -/
def stE : Stmt → Expr
  | .Return (some e) _ => e
  | .Assign _ e _ => e
  | .AugAssign _ _ e _ => e
  | .Expr e _ => e
  | .If t _ _ _ => t
  | .While t _ _ _ => t
  | .For _ i _ _ _ => i
  | _ => .Name "" ⟨0, 0, 0, 0⟩
def stB : Stmt → List Stmt
  | .If _ b _ _ => b
  | .While _ b _ _ => b
  | .For _ _ b _ _ => b
  | s => defBody s
def stO : Stmt → List Stmt
  | .If _ _ b _ => b
  | _ => []
def nthS (l : List Stmt) (i : Nat) : Stmt := l.getD i (.Pass ⟨0, 0, 0, 0⟩)
end Z

/-! the combinators' equations, for simp; loops -/
namespace Z
open PySem L2
theorem ixN_cast' (n k : Nat) (h : k < n) : ixN n (k : Int) = some k := by
  unfold ixN
  rw [if_pos (Int.natCast_nonneg k), if_pos (by omega)]
  simp
theorem seqOf_c {st : Store} {n : Nat} {xs : List Val} (h : st[n]? = some (some xs)) : seqOf st (.c n) = some (.l, xs) := by
  have e : seqOf st (.c n) = (match st[n]? with | some (some xs) => some (Sk.l, xs) | _ => none) := rfl
  rw [e, h]
section
variable (env : Env) (st : Store)
@[simp] theorem e_bind_ok {α β : Type} (a : α) (st : Store) (k : α → Store → R β) : (R.ok a st).bind k = k a st := rfl
@[simp] theorem e_bind_no {α β : Type} (k : α → Store → R β) : (R.no : R α).bind k = .no := rfl
@[simp] theorem e_noEx_ok {α : Type} (x : α) (st : Store) : noEx (R.ok x st) = R.ok x st := rfl
@[simp] theorem e_noEx_no {α : Type} : noEx (R.no : R α) = R.no := rfl
@[simp] theorem e_var (i : Nat) : bVar i env st = match env[i]? with | some (some x) => .ok x st | _ => .no := rfl
@[simp] theorem e_c (x : PyData) : bC x env st = .ok (.d x) st := rfl
@[simp] theorem e_args0 : bArgs [] env st = .ok [] st := rfl
@[simp] theorem e_args (f : CE) (fs : List CE) : bArgs (f :: fs) env st = (f env st).bind fun x st1 => (bArgs fs env st1).bind fun xs st2 => .ok (x :: xs) st2 := rfl
@[simp] theorem e_bin (m : Bool) (op : Operator) (f h : CE) : bBin m op f h env st = (f env st).bind fun x st1 => (h env st1).bind fun y st2 => vBin m op x y st2 := rfl
@[simp] theorem e_add (m : Bool) (i j : Int) : vBin m .Add (.d (.int i)) (.d (.int j)) st = .ok (.d (.int (i + j))) st := rfl
@[simp] theorem e_sub (m : Bool) (i j : Int) : vBin m .Sub (.d (.int i)) (.d (.int j)) st = .ok (.d (.int (i - j))) st := rfl
@[simp] theorem e_mul (m : Bool) (i j : Int) : vBin m .Mult (.d (.int i)) (.d (.int j)) st = if mulOk i j then .ok (.d (.int (i * j))) st else .no := rfl
@[simp] theorem e_fdiv (m : Bool) (i j : Int) : vBin m .FloorDiv (.d (.int i)) (.d (.int j)) st = if divOk j then .ok (.d (.int (i.fdiv j))) st else .no := rfl
@[simp] theorem e_mod (m : Bool) (i j : Int) : vBin m .Mod (.d (.int i)) (.d (.int j)) st = if j ≠ 0 then .ok (.d (.int (i.fmod j))) st else .no := rfl
@[simp] theorem e_pow (m : Bool) (i j : Int) : vBin m .Pow (.d (.int i)) (.d (.int j)) st = if powOk i j then .ok (.d (.int (i ^ j.toNat))) st else .no := rfl
@[simp] theorem e_shl (m : Bool) (i j : Int) : vBin m .LShift (.d (.int i)) (.d (.int j)) st = if powOk i j then .ok (.d (.int (i * 2 ^ j.toNat))) st else .no := rfl
@[simp] theorem e_shr (m : Bool) (i j : Int) : vBin m .RShift (.d (.int i)) (.d (.int j)) st = if 0 ≤ j then .ok (.d (.int (i / 2 ^ j.toNat))) st else .no := rfl
@[simp] theorem e_band (m : Bool) (i j : Int) : vBin m .BitAnd (.d (.int i)) (.d (.int j)) st = .ok (.d (.int (Builtin.bitAnd i j))) st := rfl
@[simp] theorem e_catL (m : Bool) (xs : List PyData) (y : Val) : vBin m .Add (.d (.list xs)) y st = vCat m st (some (.l, xs.map Val.d)) (seqOf st y) := by cases y <;> rfl
@[simp] theorem e_catC (m : Bool) (n : Nat) (y : Val) : vBin m .Add (.c n) y st = vCat m st (seqOf st (.c n)) (seqOf st y) := by cases y <;> rfl
@[simp] theorem e_catT (m : Bool) (xs : List PyData) (y : Val) : vBin m .Add (.d (.tuple xs)) y st = vCat m st (some (.t, xs.map Val.d)) (seqOf st y) := by cases y <;> rfl
@[simp] theorem e_vCatL (m : Bool) (xs ys : List Val) : vCat m st (some (.l, xs)) (some (.l, ys)) = mkL m (xs ++ ys) st := rfl
@[simp] theorem e_vCatT (m : Bool) (xs ys : List Val) : vCat m st (some (.t, xs)) (some (.t, ys)) = mkT (xs ++ ys) st := rfl
@[simp] theorem e_repL (m : Bool) (xs : List PyData) (k : Int) : vBin m .Mult (.d (.list xs)) (.d (.int k)) st = if -1000000 ≤ k ∧ k ≤ 1000000 then mkL m (List.replicate k.toNat (xs.map Val.d)).flatten st else .no := rfl
@[simp] theorem e_repT (m : Bool) (xs : List PyData) (k : Int) : vBin m .Mult (.d (.tuple xs)) (.d (.int k)) st = if xs.map Val.d ≠ [] ∧ 2 ≤ k ∧ k ≤ 1000 ∧ (xs.map Val.d).length ≤ 1000 then mkT (List.replicate k.toNat (xs.map Val.d)).flatten st else .no := rfl
@[simp] theorem e_neg (f : CE) : bNeg f env st = (f env st).bind fun x st1 => vNeg x st1 := rfl
@[simp] theorem e_vneg (i : Int) : vNeg (.d (.int i)) st = .ok (.d (.int (-i))) st := rfl
@[simp] theorem e_cmp (op : CmpOp) (f h : CE) : bCmp op f h env st = (f env st).bind fun x st1 => (h env st1).bind fun y st2 => (rB (vCmp op x y st2) st2).bind toV := rfl
@[simp] theorem e_cmpT (op : CmpOp) (f h : CE) : bCmpT op f h env st = (f env st).bind fun x st1 => (h env st1).bind fun y st2 => rB (vCmp op x y st2) st2 := rfl
@[simp] theorem e_ch2T (op op' : CmpOp) (f h k : CE) : bCh2T op op' f h k env st = (f env st).bind fun x st1 => (h env st1).bind fun y st2 => (rB (vCmp op x y st2) st2).bind fun b st2 => if b then (k env st2).bind fun z st3 => rB (vCmp op' y z st3) st3 else .ok false st2 := rfl
@[simp] theorem e_ch2 (op op' : CmpOp) (f h k : CE) : bCh2 op op' f h k env st = (bCh2T op op' f h k env st).bind toV := rfl
@[simp] theorem e_rB (b : Bool) : rB (some b) st = .ok b st := rfl
@[simp] theorem e_toV (b : Bool) : toV b st = .ok (.d (.bool b)) st := rfl
@[simp] theorem e_lt (i j : Int) : vCmp .Lt (.d (.int i)) (.d (.int j)) st = some (decide (i < j)) := rfl
@[simp] theorem e_le (i j : Int) : vCmp .LtE (.d (.int i)) (.d (.int j)) st = some (decide (i ≤ j)) := rfl
@[simp] theorem e_gt (i j : Int) : vCmp .Gt (.d (.int i)) (.d (.int j)) st = some (decide (j < i)) := rfl
@[simp] theorem e_ge (i j : Int) : vCmp .GtE (.d (.int i)) (.d (.int j)) st = some (decide (j ≤ i)) := rfl
theorem vEqv_d (x y : PyData) (h : min x.depth y.depth ≤ 60) : vEqv st (.d x) (.d y) = some (PyData.eqv x y) := by
  unfold vEqv
  rw [deepV_d, deepV_d]
  exact if_pos h
theorem e_eqD (x y : PyData) (h : min x.depth y.depth ≤ 60) : vCmp .Eq (.d x) (.d y) st = some (PyData.eqv x y) := vEqv_d st x y h
theorem e_neD (x y : PyData) (h : min x.depth y.depth ≤ 60) : vCmp .NotEq (.d x) (.d y) st = some (!PyData.eqv x y) := by
  have e : vCmp .NotEq (.d x) (.d y) st = (vEqv st (.d x) (.d y)).map (!·) := rfl
  rw [e, vEqv_d st _ _ h]
  rfl
@[simp] theorem e_eqI (i j : Int) : vCmp .Eq (.d (.int i)) (.d (.int j)) st = some (decide (i = j)) := by
  rw [e_eqD st _ _ (by simp [PyData.depth])]
  simp [PyData.eqv]
  rfl
@[simp] theorem e_neI (i j : Int) : vCmp .NotEq (.d (.int i)) (.d (.int j)) st = some (!decide (i = j)) := by
  rw [e_neD st _ _ (by simp [PyData.depth])]
  simp [PyData.eqv]
  rfl
@[simp] theorem e_eqB (i j : Bool) : vCmp .Eq (.d (.bool i)) (.d (.bool j)) st = some (decide (i = j)) := by
  rw [e_eqD st _ _ (by simp [PyData.depth])]
  simp [PyData.eqv]
  rfl
@[simp] theorem e_neB (i j : Bool) : vCmp .NotEq (.d (.bool i)) (.d (.bool j)) st = some (!decide (i = j)) := by
  rw [e_neD st _ _ (by simp [PyData.depth])]
  simp [PyData.eqv]
  rfl
@[simp] theorem e_is (x y : Val) : vCmp .Is x y st = vIs x y := rfl
@[simp] theorem e_isnot (x y : Val) : vCmp .IsNot x y st = (vIs x y).map (!·) := rfl
@[simp] theorem e_isBB (a b : Bool) : vIs (.d (.bool a)) (.d (.bool b)) = some (decide (a = b)) := rfl
@[simp] theorem e_isNN : vIs (.d .none) (.d .none) = some true := rfl
@[simp] theorem e_isIN (i : Int) : vIs (.d (.int i)) (.d .none) = some false := rfl
@[simp] theorem e_isBN (i : Bool) : vIs (.d (.bool i)) (.d .none) = some false := rfl
@[simp] theorem e_isLN (i : List PyData) : vIs (.d (.list i)) (.d .none) = some false := rfl
@[simp] theorem e_isTN (i : List PyData) : vIs (.d (.tuple i)) (.d .none) = some false := rfl
@[simp] theorem e_isSN (i : Str) : vIs (.d (.str i)) (.d .none) = some false := rfl
@[simp] theorem e_andT1 (f : CT) : bAndT [f] env st = f env st := rfl
@[simp] theorem e_andT (f f' : CT) (fs : List CT) : bAndT (f :: f' :: fs) env st = (f env st).bind fun b st1 => if b then bAndT (f' :: fs) env st1 else .ok false st1 := rfl
@[simp] theorem e_orT1 (f : CT) : bOrT [f] env st = f env st := rfl
@[simp] theorem e_orT (f f' : CT) (fs : List CT) : bOrT (f :: f' :: fs) env st = (f env st).bind fun b st1 => if b then .ok true st1 else bOrT (f' :: fs) env st1 := rfl
@[simp] theorem e_notT (f : CT) : bNotT f env st = (f env st).bind fun b st1 => .ok (!b) st1 := rfl
@[simp] theorem e_and1 (f : CE) : bAnd [f] env st = f env st := rfl
@[simp] theorem e_and (f f' : CE) (fs : List CE) : bAnd (f :: f' :: fs) env st = (f env st).bind fun x st1 => asB x st1 fun b => if b then bAnd (f' :: fs) env st1 else toV false st1 := rfl
@[simp] theorem e_or1 (f : CE) : bOr [f] env st = f env st := rfl
@[simp] theorem e_or (f f' : CE) (fs : List CE) : bOr (f :: f' :: fs) env st = (f env st).bind fun x st1 => asB x st1 fun b => if b then toV true st1 else bOr (f' :: fs) env st1 := rfl
@[simp] theorem e_not (f : CE) : bNot f env st = (f env st).bind fun x st1 => asB x st1 fun b => toV (!b) st1 := rfl
@[simp] theorem e_asB (b : Bool) (k : Bool → R Val) : asB (.d (.bool b)) st k = k b := rfl
@[simp] theorem e_if (t : CT) (f h : CE) : bIf t f h env st = (t env st).bind fun b st1 => if b then f env st1 else h env st1 := rfl
@[simp] theorem e_tru (f : CE) : bTru f env st = (f env st).bind fun x st1 => rB (vTru st1 x) st1 := rfl
@[simp] theorem e_truB (b : Bool) : vTru st (.d (.bool b)) = some b := rfl
@[simp] theorem e_ix (f h : CE) : bIx f h env st = (f env st).bind fun x st1 => (h env st1).bind fun y st2 => vIx x y st2 := rfl
@[simp] theorem e_vix (x : Val) (i : Int) : vIx x (.d (.int i)) st = ixG x st i := rfl
@[simp] theorem e_ixL (xs : List PyData) (i : Int) : ixG (.d (.list xs)) st i = match atI xs i with | some y => .ok (.d y) st | none => .no := by
  show (match atI (xs.map Val.d) i with | some y => R.ok y st | none => .no) = _
  unfold atI
  rw [List.length_map]
  cases ixN xs.length i with
  | none => rfl
  | some j =>
    show (match (xs.map Val.d)[j]? with | some y => R.ok y st | none => .no) = (match xs[j]? with | some y => R.ok (Val.d y) st | none => .no)
    rw [List.getElem?_map]
    cases xs[j]? <;> rfl
@[simp] theorem e_ixT (xs : List PyData) (i : Int) : ixG (.d (.tuple xs)) st i = match atI xs i with | some y => .ok (.d y) st | none => .no := by
  show (match atI (xs.map Val.d) i with | some y => R.ok y st | none => .no) = _
  unfold atI
  rw [List.length_map]
  cases ixN xs.length i with
  | none => rfl
  | some j =>
    show (match (xs.map Val.d)[j]? with | some y => R.ok y st | none => .no) = (match xs[j]? with | some y => R.ok (Val.d y) st | none => .no)
    rw [List.getElem?_map]
    cases xs[j]? <;> rfl
@[simp] theorem e_ixS (ns : List Int) (i : Int) : ixG (.s ns) st i = match atI ns i with | some y => .ok (.d (.int y)) st | none => .no := by
  show (match atI (ns.map fun n => Val.d (.int n)) i with | some y => R.ok y st | none => .no) = _
  unfold atI
  rw [List.length_map]
  cases ixN ns.length i with
  | none => rfl
  | some j =>
    show (match (ns.map fun n => Val.d (.int n))[j]? with | some y => R.ok y st | none => .no) = (match ns[j]? with | some y => R.ok (Val.d (.int y)) st | none => .no)
    rw [List.getElem?_map]
    cases ns[j]? <;> rfl
theorem e_ixC {n : Nat} {xs : List Val} (i : Int) (h : st[n]? = some (some xs)) : ixG (.c n) st i = match atI xs i with | some y => .ok y st | none => .no := by
  show (match seqOf st (.c n) with | some (_, xs) => (match atI xs i with | some y => R.ok y st | none => .no) | none => .no) = _
  rw [seqOf_c h]
@[simp] theorem e_ixV (xs : List Val) (i : Int) : ixG (.t xs) st i = match atI xs i with | some y => .ok y st | none => .no := rfl
@[simp] theorem e_sl (m : Bool) (f : CE) (l h : CO) : bSl m f l h env st = (f env st).bind fun x st1 => (l env st1).bind fun lo st2 => (h env st2).bind fun hi st3 => vSl m x lo hi st3 := rfl
@[simp] theorem e_oNo : oNo env st = .ok none st := rfl
@[simp] theorem e_oAt (f : CE) : oAt f env st = (f env st).bind fun x st1 => match x with | .d (.int i) => .ok (some i) st1 | _ => .no := rfl
@[simp] theorem e_slL (m : Bool) (xs : List PyData) (lo hi : Option Int) : vSl m (.d (.list xs)) lo hi st = mkL m (cutL (xs.map Val.d) lo hi) st := rfl
@[simp] theorem e_slT (m : Bool) (xs : List PyData) (lo hi : Option Int) : vSl m (.d (.tuple xs)) lo hi st = mkT (cutL (xs.map Val.d) lo hi) st := rfl
theorem cutL_map {α β : Type} (f : α → β) (xs : List α) (lo hi : Option Int) : cutL (xs.map f) lo hi = (cutL xs lo hi).map f := by
  unfold cutL
  rw [List.length_map, List.map_take, List.map_drop]
theorem cutL_from {α : Type} (xs : List α) (n : Nat) : cutL xs (some (n : Int)) none = xs.drop n := by
  unfold cutL
  rw [show HT.sIx xs.length 0 (some (n : Int)) = min n xs.length from HT.sIx_nat xs.length 0 n, HT.sIx_none]
  by_cases h : n ≤ xs.length
  · rw [Nat.min_eq_left h]
    exact List.take_of_length_le (by simp)
  · rw [Nat.min_eq_right (by omega), List.drop_length, List.drop_eq_nil_of_le (by omega)]
    exact List.take_nil
theorem cutL_to {α : Type} (xs : List α) (n : Nat) : cutL xs none (some (n : Int)) = xs.take n := by
  unfold cutL
  rw [show HT.sIx xs.length xs.length (some (n : Int)) = min n xs.length from HT.sIx_nat xs.length xs.length n, HT.sIx_none, List.drop_zero, Nat.sub_zero]
  by_cases h : n ≤ xs.length
  · rw [Nat.min_eq_left h]
  · rw [Nat.min_eq_right (by omega), List.take_length, List.take_of_length_le (by omega)]
@[simp] theorem e_lst (m : Bool) (fs : List CE) : bLst m fs env st = (bArgs fs env st).bind fun xs st1 => mkL m xs st1 := rfl
@[simp] theorem e_tup (fs : List CE) : bTup fs env st = (bArgs fs env st).bind fun xs st1 => mkT xs st1 := rfl
@[simp] theorem e_allD (ds : List PyData) : allD (ds.map Val.d) = some ds := allD_map ds
theorem mkL_c (xs : List Val) (h : xs.length ≤ 1000000) : mkL true xs st = .ok (.c st.length) (st ++ [some xs]) := if_pos h
theorem mkL_f (ds : List PyData) (h : ds.length ≤ 1000000) : mkL false (ds.map Val.d) st = .ok (.d (.list ds)) st := by
  unfold mkL
  rw [if_pos (by rw [List.length_map]; exact h), allD_map]
  rfl
theorem mkT_d (ds : List PyData) (h : ds.length ≤ 1000000) : mkT (ds.map Val.d) st = .ok (.d (.tuple ds)) st := by
  unfold mkT tupV
  rw [if_pos (by rw [List.length_map]; exact h), allD_map]
@[simp] theorem mkL_f0 : mkL false [] st = .ok (.d (.list [])) st := mkL_f st [] (Nat.zero_le _)
@[simp] theorem mkL_f1 (a : PyData) : mkL false [.d a] st = .ok (.d (.list [a])) st := mkL_f st [a] (by simp)
@[simp] theorem mkL_f2 (a b : PyData) : mkL false [.d a, .d b] st = .ok (.d (.list [a, b])) st := mkL_f st [a, b] (by simp)
@[simp] theorem mkL_f3 (a b c : PyData) : mkL false [.d a, .d b, .d c] st = .ok (.d (.list [a, b, c])) st := mkL_f st [a, b, c] (by simp)
@[simp] theorem mkL_f4 (a b c d : PyData) : mkL false [.d a, .d b, .d c, .d d] st = .ok (.d (.list [a, b, c, d])) st := mkL_f st [a, b, c, d] (by simp)
@[simp] theorem mkT_1 (a : PyData) : mkT [.d a] st = .ok (.d (.tuple [a])) st := mkT_d st [a] (by simp)
@[simp] theorem mkT_2 (a b : PyData) : mkT [.d a, .d b] st = .ok (.d (.tuple [a, b])) st := mkT_d st [a, b] (by simp)
@[simp] theorem mkT_3 (a b c : PyData) : mkT [.d a, .d b, .d c] st = .ok (.d (.tuple [a, b, c])) st := mkT_d st [a, b, c] (by simp)
@[simp] theorem e_callB (sem : List Val → Store → R Val) (fs : List CE) : bCallB sem fs env st = (bArgs fs env st).bind fun xs st1 => sem xs st1 := rfl
@[simp] theorem e_call (n : Nat) (sem : Fn) (fs : List CE) : bCall n sem fs env st = (bArgs fs env st).bind fun xs st1 => if xs.length = n then sem xs st1 else .no := rfl
@[simp] theorem e_len (x : Val) : sLen [x] st = lenV x st := rfl
@[simp] theorem e_lenL (xs : List PyData) : lenV (.d (.list xs)) st = .ok (.d (.int xs.length)) st := by
  show R.ok (Val.d (.int ((xs.map Val.d).length : Nat))) st = _
  rw [List.length_map]
@[simp] theorem e_lenT (xs : List PyData) : lenV (.d (.tuple xs)) st = .ok (.d (.int xs.length)) st := by
  show R.ok (Val.d (.int ((xs.map Val.d).length : Nat))) st = _
  rw [List.length_map]
@[simp] theorem e_lenS (ns : List Int) : lenV (.s ns) st = .ok (.d (.int ns.length)) st := by
  show R.ok (Val.d (.int ((ns.map fun n => Val.d (.int n)).length : Nat))) st = _
  rw [List.length_map]
theorem e_lenC {n : Nat} {xs : List Val} (h : st[n]? = some (some xs)) : lenV (.c n) st = .ok (.d (.int xs.length)) st := by
  show (match seqOf st (.c n) with | some (_, xs) => R.ok (Val.d (.int (xs.length : Nat))) st | none => .no) = _
  rw [seqOf_c h]
@[simp] theorem e_abs (i : Int) : sAbs [.d (.int i)] st = .ok (.d (.int (if i < 0 then -i else i))) st := rfl
@[simp] theorem e_int (i : Int) : sInt [.d (.int i)] st = .ok (.d (.int i)) st := rfl
@[simp] theorem e_intB (b : Bool) : sInt [.d (.bool b)] st = .ok (.d (.int (if b then 1 else 0))) st := rfl
@[simp] theorem e_max2 (i j : Int) : sMax2 [.d (.int i), .d (.int j)] st = .ok (.d (.int (if j > i then j else i))) st := rfl
@[simp] theorem e_min2 (i j : Int) : sMin2 [.d (.int i), .d (.int j)] st = .ok (.d (.int (if j < i then j else i))) st := rfl
@[simp] theorem e_min3 (i j k : Int) : sMin3 [.d (.int i), .d (.int j), .d (.int k)] st = .ok (.d (.int (if j < i then (if k < j then k else j) else (if k < i then k else i)))) st := rfl
theorem e_sumL (ns : List Int) : sSum [.d (.list (ns.map PyData.int))] st = .ok (.d (.int ns.sum)) st := by
  show (match intsD ((ns.map PyData.int).map Val.d) with | some ns => R.ok (Val.d (.int ns.sum)) st | none => .no) = _
  rw [List.map_map]
  show (match intsD (ns.map fun n => Val.d (.int n)) with | some ns => R.ok (Val.d (.int ns.sum)) st | none => .no) = _
  rw [intsD_map]
theorem e_maxL (ns : List Int) (h : ns ≠ []) : sMaxL [.d (.list (ns.map PyData.int))] st = .ok (.d (.int (maxI ns))) st := by
  show (match intsD ((ns.map PyData.int).map Val.d) with | some ns => if ns ≠ [] then R.ok (Val.d (.int (maxI ns))) st else .no | none => .no) = _
  rw [List.map_map]
  show (match intsD (ns.map fun n => Val.d (.int n)) with | some ns => if ns ≠ [] then R.ok (Val.d (.int (maxI ns))) st else .no | none => .no) = _
  rw [intsD_map]
  exact if_pos h
theorem e_allL (bs : List Bool) : sAll [.d (.list (bs.map PyData.bool))] st = .ok (.d (.bool (bs.all id))) st := by
  show (match boolsD ((bs.map PyData.bool).map Val.d) with | some ns => R.ok (Val.d (.bool (ns.all id))) st | none => .no) = _
  rw [List.map_map]
  show (match boolsD (bs.map fun n => Val.d (.bool n)) with | some ns => R.ok (Val.d (.bool (ns.all id))) st | none => .no) = _
  rw [boolsD_map]
theorem e_anyL (bs : List Bool) : sAny [.d (.list (bs.map PyData.bool))] st = .ok (.d (.bool (bs.any id))) st := by
  show (match boolsD ((bs.map PyData.bool).map Val.d) with | some ns => R.ok (Val.d (.bool (ns.any id))) st | none => .no) = _
  rw [List.map_map]
  show (match boolsD (bs.map fun n => Val.d (.bool n)) with | some ns => R.ok (Val.d (.bool (ns.any id))) st | none => .no) = _
  rw [boolsD_map]
@[simp] theorem e_listL (m : Bool) (xs : List PyData) : sList m [.d (.list xs)] st = mkL m (xs.map Val.d) st := rfl
@[simp] theorem e_listT (m : Bool) (xs : List PyData) : sList m [.d (.tuple xs)] st = mkL m (xs.map Val.d) st := rfl
theorem e_listC (m : Bool) {n : Nat} {xs : List Val} (h : st[n]? = some (some xs)) : sList m [.c n] st = mkL m xs st := by
  show (match seqOf st (.c n) with | some (_, ys) => mkL m ys st | _ => .no) = _
  rw [seqOf_c h]
@[simp] theorem e_tupleL (xs : List PyData) : sTuple [.d (.list xs)] st = mkT (xs.map Val.d) st := rfl
@[simp] theorem e_tupleT (xs : List PyData) : sTuple [.d (.tuple xs)] st = mkT (xs.map Val.d) st := rfl
@[simp] theorem e_inst (ts : List Ty) (f : CE) : bInst ts f env st = ((f env st).bind fun x st1 => vInst ts x st1).bind toV := rfl
@[simp] theorem e_instD (ts : List Ty) (x : PyData) {t : Tg} (h : tagOf (.d x) = some t) : vInst ts (.d x) st = .ok (ts.any fun T => t.is T) st := by
  unfold vInst
  rw [h]
  rfl
/-! statements -/
@[simp] theorem e_nil : kNil env st = .ok (.nx env) st := rfl
@[simp] theorem e_seq (a b : CS) : kSeq a b env st = (a env st).bind fun fl st1 => match fl with | .nx env1 => b env1 st1 | fl => .ok fl st1 := rfl
@[simp] theorem e_drop (f : CE) : kDrop f env st = (f env st).bind fun _ st1 => .ok (.nx env) st1 := rfl
@[simp] theorem e_ret (f : CE) : kRet f env st = (f env st).bind fun x st1 => .ok (.rt x) st1 := rfl
@[simp] theorem e_kif (t : CT) (a b : CS) : kIf t a b env st = (t env st).bind fun c st1 => if c then a env st1 else b env st1 := rfl
@[simp] theorem e_set (i : Nat) (f : CE) : kSet i f env st = (f env st).bind fun x st1 => .ok (.nx (env.set i (some x))) st1 := rfl
@[simp] theorem e_asg (f : CE) (t : CG) : kAsg f t env st = (f env st).bind fun x st1 => (t x env st1).bind fun env1 st2 => .ok (.nx env1) st2 := rfl
@[simp] theorem e_par (i j : Nat) (f h : CE) : kPar i j f h env st = (f env st).bind fun x st1 => (h env st1).bind fun y st2 => .ok (.nx ((env.set i (some x)).set j (some y))) st2 := rfl
@[simp] theorem e_par3 (i j l : Nat) (f h k : CE) : kPar3 i j l f h k env st = (f env st).bind fun x st1 => (h env st1).bind fun y st2 => (k env st2).bind fun z st3 => .ok (.nx (((env.set i (some x)).set j (some y)).set l (some z))) st3 := rfl
@[simp] theorem e_tgN (i : Nat) (x : Val) : tgN i x env st = .ok (env.set i (some x)) st := rfl
@[simp] theorem e_tgT (ts : List CG) (xs : List PyData) : tgT ts (.d (.tuple xs)) env st = tgsAll ts (xs.map Val.d) env st := rfl
@[simp] theorem e_tgTL (ts : List CG) (xs : List PyData) : tgT ts (.d (.list xs)) env st = tgsAll ts (xs.map Val.d) env st := rfl
@[simp] theorem e_tgTV (ts : List CG) (xs : List Val) : tgT ts (.t xs) env st = tgsAll ts xs env st := rfl
@[simp] theorem e_tgs0 : tgsAll [] [] env st = .ok env st := rfl
@[simp] theorem e_tgs (t : CG) (ts : List CG) (x : Val) (xs : List Val) : tgsAll (t :: ts) (x :: xs) env st = (t x env st).bind fun env1 st1 => tgsAll ts xs env1 st1 := rfl
@[simp] theorem e_tgIx (f h : CE) (x : Val) : tgIx f h x env st = (f env st).bind fun o st1 => (h env st1).bind fun i st2 => match setC o i x st2 with | some st3 => .ok env st3 | none => .no := rfl
theorem e_setC {n : Nat} {xs : List Val} {i : Int} {j : Nat} (v : Val) (h : st[n]? = some (some xs)) (hi : ixN xs.length i = some j) : setC (.c n) (.d (.int i)) v st = some (st.set n (some (xs.set j v))) := by
  unfold setC
  simp only [h, hi]
theorem set_get {n : Nat} (xs : Option (List Val)) (h : n < st.length) : (st.set n xs)[n]? = some xs := List.getElem?_set_self h
@[simp] theorem set_set {n : Nat} (xs ys : Option (List Val)) : (st.set n xs).set n ys = st.set n ys := by rw [List.set_set]
theorem e_setC' {n : Nat} {xs : List Val} {i : Int} (v : Val) (h : st[n]? = some (some xs)) : setC (.c n) (.d (.int i)) v st = match ixN xs.length i with | some j => some (st.set n (some (xs.set j v))) | none => none := by
  unfold setC
  simp only [h]
  all_goals (cases ixN xs.length i <;> rfl)
theorem e_setCs {n : Nat} {xs : List Val} {i : Int} (v : Val) (h : n < st.length) : setC (.c n) (.d (.int i)) v (st.set n (some xs)) = match ixN xs.length i with | some j => some (st.set n (some (xs.set j v))) | none => none := by
  rw [e_setC' (st.set n (some xs)) v (set_get st _ h)]
  simp only [set_set]
theorem e_ixCs {n : Nat} {xs : List Val} (i : Int) (h : n < st.length) : ixG (.c n) (st.set n (some xs)) i = match atI xs i with | some y => .ok y (st.set n (some xs)) | none => .no := e_ixC _ i (set_get st _ h)
@[simp] theorem ixN_0 (n : Nat) : ixN (n + 1) 0 = some 0 := ixN_cast' (n + 1) 0 (by omega)
@[simp] theorem ixN_1 (n : Nat) : ixN (n + 1 + 1) 1 = some 1 := ixN_cast' (n + 1 + 1) 1 (by omega)
@[simp] theorem ixN_2 (n : Nat) : ixN (n + 1 + 1 + 1) 2 = some 2 := ixN_cast' (n + 1 + 1 + 1) 2 (by omega)
@[simp] theorem e_fnB (np nl : Nat) (body : CS) (xs : List Val) : fnB np nl body xs st = if xs.length = np then (noEx (body (xs.map some ++ List.replicate nl none) st)).bind fun fl st1 => match fl with
  | .rt v => handB st.length v st1
  | .nx _ => handB st.length (.d .none) st1
  | _ => .no
  else .no := rfl
theorem hand_le {n : Nat} {x : Val} (h : st.length ≤ n) : handB n x st = .ok x st := if_pos h
@[simp] theorem hand_c (n m : Nat) : handB n (.c m) st = .ok (.c m) st := by
  unfold handB
  split <;> rfl
@[simp] theorem hand_t (n : Nat) (xs : List Val) : handB n (.t xs) st = .ok (.t xs) st := by
  unfold handB
  split <;> rfl
theorem hand_cut {n : Nat} {y : PyData} (h : Closed n (st.take n)) : handB n (.d y) st = .ok (.d y) (st.take n) := by
  by_cases hl : st.length ≤ n
  · rw [hand_le st hl, List.take_of_length_le hl]
  · have e : handB n (.d y) st = if Closed n (st.take n) then .ok (.d y) (st.take n) else .no := if_neg hl
    rw [e, if_pos h]
end

/-! ### places -/
theorem ixN_cast (n k : Nat) (h : k < n) : ixN n (k : Int) = some k := by
  unfold ixN
  rw [if_pos (Int.natCast_nonneg k), if_pos (by omega)]
  simp
@[simp] theorem atI_cast {α : Type} (xs : List α) (k : Nat) : atI xs (k : Int) = xs[k]? := by
  unfold atI
  by_cases h : k < xs.length
  · rw [ixN_cast _ _ h]; rfl
  · unfold ixN
    rw [if_pos (Int.natCast_nonneg k), if_neg (by omega), List.getElem?_eq_none (by omega)]
    rfl
@[simp] theorem atI_0 {α : Type} (xs : List α) : atI xs 0 = xs[0]? := atI_cast xs 0
@[simp] theorem atI_1 {α : Type} (xs : List α) : atI xs 1 = xs[1]? := atI_cast xs 1
@[simp] theorem atI_2 {α : Type} (xs : List α) : atI xs 2 = xs[2]? := atI_cast xs 2
theorem atI_neg1 {α : Type} (xs : List α) : atI xs (-1) = xs[xs.length - 1]? := by
  unfold atI ixN
  rw [if_neg (by decide)]
  by_cases h : xs = []
  · subst h; rfl
  · have : 0 < xs.length := List.length_pos_iff.mpr h
    rw [if_pos (by omega)]
    show xs[((-1 : Int) + xs.length).toNat]? = _
    congr 1
    omega
/-- a place told as an int -/
theorem atI_int {α : Type} (xs : List α) (i : Int) (h : 0 ≤ i) : atI xs i = xs[i.toNat]? := by
  obtain ⟨k, rfl⟩ := Int.eq_ofNat_of_zero_le h
  exact atI_cast xs k

/-! ### loops -/
/-- a turn: the target, then the body -/
def turn (t : CG) (b : CS) (x : Val) (env : Env) (st : Store) : R Fl := (t x env st).bind fun env1 st1 => b env1 st1
@[simp] theorem turn_n (i : Nat) (b : CS) (x : Val) (env : Env) (st : Store) : turn (tgN i) b x env st = b (env.set i (some x)) st := rfl
theorem forL_nil (gs : List (Nat × List Val)) (t : CG) (b : CS) (env : Env) (st : Store) (h : Holds gs st) : forL gs t b [] env st = .ok (.nx env) st := if_pos h
theorem forL_cons (gs : List (Nat × List Val)) (t : CG) (b : CS) (x : Val) (xs : List Val) (env : Env) (st : Store) (h : Holds gs st) : forL gs t b (x :: xs) env st = (turn t b x env st).bind fun fl st2 => match fl with
    | .nx e => forL gs t b xs e st2
    | .ct e => forL gs t b xs e st2
    | .bk e => .ok (.nx e) st2
    | .rt v => .ok (.rt v) st2 := by
  show (if Holds gs st then (t x env st).bind (fun env1 st1 => (b env1 st1).bind fun fl st2 => match fl with
    | .nx e => forL gs t b xs e st2
    | .ct e => forL gs t b xs e st2
    | .bk e => .ok (.nx e) st2
    | .rt v => .ok (.rt v) st2) else .no) = _
  rw [if_pos h]
  unfold turn
  cases t x env st <;> rfl
/-- a loop that is never left: an invariant by the turn -/
theorem forL_inv {gs : List (Nat × List Val)} {t : CG} {b : CS} (I : Nat → Env → Store → Prop) : ∀ (xs : List Val) (i : Nat) (env : Env) (st : Store), I i env st → (∀ j env st, i ≤ j → j ≤ i + xs.length → I j env st → Holds gs st) →
    (∀ j x env st, xs[j]? = some x → I (i + j) env st → ∃ env' st', (turn t b x env st = .ok (.nx env') st' ∨ turn t b x env st = .ok (.ct env') st') ∧ I (i + j + 1) env' st') → ∃ env' st', forL gs t b xs env st = .ok (.nx env') st' ∧ I (i + xs.length) env' st' := by
  intro xs
  induction xs with
  | nil => intro i env st h0 hh hs; exact ⟨env, st, forL_nil gs t b env st (hh i env st (Nat.le_refl _) (Nat.le_add_right _ _) h0), h0⟩
  | cons x xs ih =>
    intro i env st h0 hh hs
    obtain ⟨env1, st1, h1, h2⟩ := hs 0 x env st rfl h0
    obtain ⟨env2, st2, h3, h4⟩ := ih (i + 1) env1 st1 h2 (fun j e s a c => hh j e s (by omega) (by rw [List.length_cons]; omega)) fun j y env st hy hI => by
      have := hs (j + 1) y env st (by simpa using hy) (by rw [show i + (j + 1) = i + 1 + j by omega]; exact hI)
      rw [show i + (j + 1) + 1 = i + 1 + j + 1 by omega] at this
      exact this
    refine ⟨env2, st2, ?_, by rw [List.length_cons, show i + (xs.length + 1) = i + 1 + xs.length by omega]; exact h4⟩
    rw [forL_cons gs t b x xs env st (hh i env st (Nat.le_refl _) (Nat.le_add_right _ _) h0)]
    rcases h1 with h1 | h1 <;> rw [h1] <;> exact h3
/-- a loop whose turns go by a function of a state -/
theorem forL_fold {σ : Type} {gs : List (Nat × List Val)} {t : CG} {b : CS} (E : σ → Env) (S : σ → Store) (f : σ → Val → σ) (hh : ∀ s, Holds gs (S s)) : ∀ (xs : List Val) (s : σ), (∀ x ∈ xs, ∀ s, turn t b x (E s) (S s) = .ok (.nx (E (f s x))) (S (f s x))) →
    forL gs t b xs (E s) (S s) = .ok (.nx (E (xs.foldl f s))) (S (xs.foldl f s)) := by
  intro xs
  induction xs with
  | nil => intro s h; exact forL_nil gs t b _ _ (hh s)
  | cons x xs ih =>
    intro s h
    rw [forL_cons gs t b x xs _ _ (hh s), h x List.mem_cons_self s]
    exact ih (f s x) fun y hy => h y (List.mem_cons_of_mem _ hy)
theorem holds0 (st : Store) : Holds [] st := fun _ h => by cases h
theorem holds1 {n : Nat} {xs : List Val} {st : Store} (h : st[n]? = some (some xs)) : Holds [(n, xs)] st := fun p hp => by
  rw [List.mem_singleton.mp hp]
  exact h
/-- a comprehension without a test whose element leaves the store as it is -/
theorem lcL_map {gs : List (Nat × List Val)} {lt : LT} {tt : CT} {fe : CE} {env0 : Env} {st : Store} (hh : Holds gs st) (g : Val → Val) : ∀ (xs acc : List Val), acc.length + xs.length ≤ 1000000 →
    (∀ x ∈ xs, ∃ env1, ltE lt x env0 st = some env1 ∧ tt env1 st = .ok true st ∧ fe env1 st = .ok (g x) st) → lcL gs lt tt fe env0 xs acc st = .ok (acc ++ xs.map g) st := by
  intro xs
  induction xs with
  | nil => intro acc _ _; rw [List.map_nil, List.append_nil]; exact if_pos hh
  | cons x xs ih =>
    intro acc hl h
    obtain ⟨env1, h1, h2, h3⟩ := h x List.mem_cons_self
    rw [List.length_cons] at hl
    unfold lcL
    rw [if_pos ⟨hh, by unfold lim; omega⟩, h1]
    simp only [h2, h3, e_noEx_ok, e_bind_ok, if_true]
    rw [ih (acc ++ [g x]) (by simp; omega) fun y hy => h y (List.mem_cons_of_mem _ hy)]
    simp
/-- .. with a test -/
theorem lcL_filter {gs : List (Nat × List Val)} {lt : LT} {tt : CT} {fe : CE} {env0 : Env} {st : Store} (hh : Holds gs st) (p : Val → Bool) (g : Val → Val) : ∀ (xs acc : List Val), acc.length + xs.length ≤ 1000000 →
    (∀ x ∈ xs, ∃ env1, ltE lt x env0 st = some env1 ∧ tt env1 st = .ok (p x) st ∧ (p x = true → fe env1 st = .ok (g x) st)) → lcL gs lt tt fe env0 xs acc st = .ok (acc ++ (xs.filter p).map g) st := by
  intro xs
  induction xs with
  | nil => intro acc _ _; rw [List.filter_nil, List.map_nil, List.append_nil]; exact if_pos hh
  | cons x xs ih =>
    intro acc hl h
    obtain ⟨env1, h1, h2, h3⟩ := h x List.mem_cons_self
    rw [List.length_cons] at hl
    unfold lcL
    rw [if_pos ⟨hh, by unfold lim; omega⟩, h1]
    cases hp : p x with
    | true =>
      simp only [h2, hp, h3 hp, e_noEx_ok, e_bind_ok, if_true]
      rw [ih (acc ++ [g x]) (by simp; omega) fun y hy => h y (List.mem_cons_of_mem _ hy), List.filter_cons_of_pos hp]
      simp
    | false =>
      simp only [h2, hp, e_noEx_ok, e_bind_ok, Bool.false_eq_true, if_false]
      rw [ih acc (by omega) fun y hy => h y (List.mem_cons_of_mem _ hy), List.filter_cons_of_neg (by rw [hp]; exact Bool.false_ne_true)]
/-- a comprehension whose element changes the store: an invariant -/
theorem lcL_inv {gs : List (Nat × List Val)} {lt : LT} {tt : CT} {fe : CE} {env0 : Env} (I : Nat → List Val → Store → Prop) : ∀ (xs : List Val) (i : Nat) (acc : List Val) (st : Store), I i acc st → (∀ j acc st, i ≤ j → j ≤ i + xs.length → I j acc st → Holds gs st ∧ acc.length = j) → i + xs.length ≤ 1000000 →
    (∀ j x acc st, xs[j]? = some x → I (i + j) acc st → ∃ env1 st1 y st2, ltE lt x env0 st = some env1 ∧ tt env1 st = .ok true st1 ∧ fe env1 st1 = .ok y st2 ∧ I (i + j + 1) (acc ++ [y]) st2) → ∃ acc' st', lcL gs lt tt fe env0 xs acc st = .ok acc' st' ∧ I (i + xs.length) acc' st' := by
  intro xs
  induction xs with
  | nil => intro i acc st h0 hh _ hs; exact ⟨acc, st, if_pos (hh i acc st (Nat.le_refl _) (Nat.le_add_right _ _) h0).1, h0⟩
  | cons x xs ih =>
    intro i acc st h0 hh hl hs
    rw [List.length_cons] at hl
    obtain ⟨env1, st1, y, st2, h1, h2, h3, h4⟩ := hs 0 x acc st rfl h0
    obtain ⟨acc', st', h5, h6⟩ := ih (i + 1) (acc ++ [y]) st2 h4 (fun j e s a c => hh j e s (by omega) (by rw [List.length_cons]; omega)) (by omega) fun j z acc st hy hI => by
      have := hs (j + 1) z acc st (by simpa using hy) (by rw [show i + (j + 1) = i + 1 + j by omega]; exact hI)
      rw [show i + (j + 1) + 1 = i + 1 + j + 1 by omega] at this
      exact this
    refine ⟨acc', st', ?_, by rw [List.length_cons, show i + (xs.length + 1) = i + 1 + xs.length by omega]; exact h6⟩
    obtain ⟨k1, k2⟩ := hh i acc st (Nat.le_refl _) (Nat.le_add_right _ _) h0
    unfold lcL
    rw [if_pos ⟨k1, by unfold lim; omega⟩, h1]
    simp only [h2, h3, e_noEx_ok, e_bind_ok, if_true]
    exact h5
@[simp] theorem e_tYes (env : Env) (st : Store) : tYesT env st = .ok true st := rfl
@[simp] theorem e_ltN (i : Nat) (x : Val) (env : Env) (st : Store) : ltE (.n i) x env st = some (env.set i (some x)) := rfl
@[simp] theorem e_ltT (is : List Nat) (xs : List PyData) (env : Env) (st : Store) : ltE (.t is) (.d (.tuple xs)) env st = setAll is (xs.map Val.d) env := rfl
@[simp] theorem e_setAll0 (env : Env) : setAll [] [] env = some env := rfl
@[simp] theorem e_setAll (i : Nat) (is : List Nat) (x : Val) (xs : List Val) (env : Env) : setAll (i :: is) (x :: xs) env = setAll is xs (env.set i (some x)) := rfl
end Z

/-! loops' equations; boxes; days -/
namespace Z
open PySem L2
section
variable (env : Env) (st : Store)
@[simp] theorem e_kFor (fi : CI) (t : CG) (b : CS) : kFor fi t b env st = (fi env st).bind fun it st1 => forL it.gs t b it.items env st1 := rfl
@[simp] theorem e_iRng (k : List Val → Store → R Wk) (fs : List CE) : iRng k fs env st = (bArgs fs env st).bind fun xs st1 => k xs st1 := rfl
@[simp] theorem e_iSeq (f : CE) : iSeq f env st = (f env st).bind fun x st1 => itOf x st1 := rfl
theorem e_rng1 (n : Int) (h : -1000000000 ≤ n ∧ n ≤ 1000000000) : rng1 [.d (.int n)] st = .ok ⟨intsR 0 n.toNat, []⟩ st := if_pos h
theorem e_rng2 (a b : Int) (h : -1000000000 ≤ a ∧ a ≤ 1000000000 ∧ -1000000000 ≤ b ∧ b ≤ 1000000000) : rng2 [.d (.int a), .d (.int b)] st = .ok ⟨intsR a (b - a).toNat, []⟩ st := if_pos h
@[simp] theorem e_bLc (m : Bool) (own : List Nat) (fi : CI) (lt : LT) (tt : CT) (fe : CE) : bLc m own fi lt tt fe env st = (fi env st).bind fun it st1 => (lcL it.gs lt tt fe (wipeE env own) it.items [] st1).bind fun xs st2 => mkL m xs st2 := rfl
@[simp] theorem e_wipe0 : wipeE env [] = env := rfl
@[simp] theorem e_wipe (v : Nat) (vs : List Nat) : wipeE env (v :: vs) = (wipeE env vs).set v none := rfl
@[simp] theorem e_itL (xs : List PyData) : itOf (.d (.list xs)) st = .ok ⟨xs.map Val.d, []⟩ st := rfl
@[simp] theorem e_itT (xs : List PyData) : itOf (.d (.tuple xs)) st = .ok ⟨xs.map Val.d, []⟩ st := rfl
theorem e_itC {n : Nat} {xs : List Val} (h : st[n]? = some (some xs)) : itOf (.c n) st = .ok ⟨xs, [(n, xs)]⟩ st := by
  show (match seqOf st (.c n) with | some (_, xs) => R.ok (Wk.mk xs (gsOf (.c n) xs)) st | none => .no) = _
  rw [seqOf_c h]
  rfl
theorem e_meth {sem : Val → List Val → Store → R Val} {f : CE} {fs : List CE} {n : Nat} {xs : List Val} {st1 : Store} (hf : f env st = .ok (.c n) st1) (h : st1[n]? = some (some xs)) : bMeth sem f fs env st = (bArgs fs env st1).bind fun ys st2 => sem (.c n) ys st2 := by
  unfold bMeth
  rw [hf]
  show (if cellB (.c n) st1 = true then _ else _) = _
  rw [if_pos (by unfold cellB; simp only [h])]
theorem e_app {n : Nat} {xs : List Val} (y : Val) (h : st[n]? = some (some xs)) (hl : xs.length < 1000000) : mAppend (.c n) [y] st = .ok (.d .none) (st.set n (some (xs ++ [y]))) := by
  show upC (.c n) st _ = _
  unfold upC
  simp only [h]
  rw [if_pos (show xs.length < lim from hl)]
@[simp] theorem e_frz (f : CE) : bFrz f env st = (f env st).bind fun x st1 => match frz 8 x st1 with
  | some (d, st2) => .ok (.d d) st2
  | none => .no := rfl
@[simp] theorem e_frzD (k : Nat) (x : PyData) : frz k (.d x) st = some (x, st) := by cases k <;> rfl
theorem e_frzC {n k : Nat} {ds : List PyData} (h : st[n]? = some (some (ds.map Val.d))) : frz (k + 1) (.c n) st = some (.list ds, st.set n none) := by
  unfold frz
  simp only [h, allD_map]
end
@[simp] theorem intsR_length (a : Int) (n : Nat) : (intsR a n).length = n := by unfold intsR; simp
theorem intsR_get {a : Int} {n j : Nat} {x : Val} (h : (intsR a n)[j]? = some x) : x = .d (.int (a + j)) ∧ j < n := by
  unfold intsR at h
  rw [List.getElem?_map] at h
  cases hj : (List.range n)[j]? with
  | none => rw [hj] at h; cases h
  | some k =>
    rw [hj] at h
    obtain ⟨hl, e⟩ := List.getElem?_eq_some_iff.mp hj
    rw [List.getElem_range] at e
    subst e
    exact ⟨(Option.some.inj h).symm, by simpa using hl⟩
@[simp] theorem atI_3 {α : Type} (xs : List α) : atI xs 3 = xs[3]? := atI_cast xs 3
theorem fm {x y : Int} (h : 0 ≤ y) : x.fmod y = x % y := Int.fmod_eq_emod_of_nonneg x h
theorem fd {x y : Int} (h : 0 ≤ y) : x.fdiv y = x / y := Int.fdiv_eq_ediv_of_nonneg x h

/-! ### stores whose cells are closed -/
def Cl (st : Store) : Prop := ∀ N, st.length ≤ N → Closed N st
theorem Cl.nil : Cl [] := fun _ _ _ h => by cases h
theorem below_mono {n m : Nat} {x : Val} (h : below n x) (hl : n ≤ m) : below m x := by
  cases x with
  | c k => exact Nat.lt_of_lt_of_le h hl
  | d _ => trivial
  | t xs => exact h
  | s _ => trivial
theorem Cl.of {st : Store} (h : Closed st.length st) : Cl st := fun N hN xs hx x hy => below_mono (h xs hx x hy) hN
theorem Cl.add {st : Store} (h : Cl st) {xs : List Val} (hx : ∀ x ∈ xs, below (st.length + 1) x) : Cl (st ++ [some xs]) := by
  refine Cl.of fun ys hy x hm => ?_
  rw [List.length_append, List.length_singleton]
  rw [List.mem_append, List.mem_singleton] at hy
  rcases hy with hy | hy
  · exact h _ (Nat.le_succ _) ys hy x hm
  · cases hy; exact hx x hm
theorem Cl.set {st : Store} (h : Cl st) {n : Nat} {xs : List Val} (hx : ∀ x ∈ xs, below st.length x) : Cl (st.set n (some xs)) := by
  refine Cl.of fun ys hy x hm => ?_
  rw [List.length_set]
  rcases List.mem_or_eq_of_mem_set hy with hy | hy
  · exact h _ (Nat.le_refl _) ys hy x hm
  · cases hy; exact hx x hm
theorem Cl.setN {st : Store} (h : Cl st) {n : Nat} : Cl (st.set n none) := by
  refine Cl.of fun ys hy x hm => ?_
  rw [List.length_set]
  rcases List.mem_or_eq_of_mem_set hy with hy | hy
  · exact h _ (Nat.le_refl _) ys hy x hm
  · cases hy
theorem below_ds {N : Nat} {ds : List PyData} : ∀ x ∈ ds.map Val.d, below N x := fun x h => by
  obtain ⟨d, _, rfl⟩ := List.mem_map.mp h
  trivial
theorem hand_d {st : Store} (st0 : Store) {n : Nat} (hn : n = st0.length) {y : PyData} (h : st.take n = st0) (hc : Cl st0) : handB n (.d y) st = .ok (.d y) st0 := by
  rw [hand_cut st (h ▸ hc n (Nat.le_of_eq hn.symm)), h]

/-! ### boxes -/
/-- the draws' box is the cell n -/
def BoxAt (n : Nat) (B : Int) (st : Store) : Prop := ∃ a b c : Int, st[n]? = some (some [.d (.int a), .d (.int b), .d (.int c)]) ∧ 0 ≤ a ∧ 0 ≤ b ∧ b ≤ 10000000000000000000 ∧ 0 ≤ c ∧ c ≤ B
theorem BoxAt.mono {n : Nat} {B B' : Int} {st : Store} (h : BoxAt n B st) (hB : B ≤ B') : BoxAt n B' st := by
  obtain ⟨a, b, c, h1, h2, h3, h4, h5, h6⟩ := h
  exact ⟨a, b, c, h1, h2, h3, h4, h5, by omega⟩
theorem BoxAt.lt {n : Nat} {B : Int} {st : Store} (h : BoxAt n B st) : n < st.length := by
  obtain ⟨a, b, c, h1, _⟩ := h
  exact (List.getElem?_eq_some_iff.mp h1).1
/-- the box was drawn from, and nothing else changed -/
def Put (n : Nat) (B : Int) (st st' : Store) : Prop := ∃ a b c : Int, st' = st.set n (some [.d (.int a), .d (.int b), .d (.int c)]) ∧ n < st.length ∧ 0 ≤ a ∧ 0 ≤ b ∧ b ≤ 10000000000000000000 ∧ 0 ≤ c ∧ c ≤ B
theorem Put.box {n : Nat} {B : Int} {st st' : Store} (h : Put n B st st') : BoxAt n B st' := by
  obtain ⟨a, b, c, rfl, h0, h⟩ := h
  exact ⟨a, b, c, List.getElem?_set_self h0, h⟩
theorem BoxAt.put {n : Nat} {B : Int} {st : Store} (h : BoxAt n B st) : Put n B st st := by
  obtain ⟨a, b, c, h1, h⟩ := h
  refine ⟨a, b, c, ?_, (List.getElem?_eq_some_iff.mp h1).1, h⟩
  refine List.ext_getElem? fun i => ?_
  by_cases e : i = n
  · subst e; rw [h1, List.getElem?_set_self (List.getElem?_eq_some_iff.mp h1).1]
  · rw [List.getElem?_set_ne (Ne.symm e)]
theorem Put.trans {n : Nat} {B B' : Int} {st st' st'' : Store} (h : Put n B st st') (h' : Put n B' st' st'') : Put n B' st st'' := by
  obtain ⟨a, b, c, rfl, h0, h⟩ := h
  obtain ⟨a', b', c', rfl, h0', h'⟩ := h'
  exact ⟨a', b', c', by rw [set_set], h0, h'⟩
theorem Put.mono {n : Nat} {B B' : Int} {st st' : Store} (h : Put n B st st') (hB : B ≤ B') : Put n B' st st' := by
  obtain ⟨a, b, c, h1, h0, h2, h3, h4, h5, h6⟩ := h
  exact ⟨a, b, c, h1, h0, h2, h3, h4, h5, by omega⟩
theorem Put.len {n : Nat} {B : Int} {st st' : Store} (h : Put n B st st') : st'.length = st.length := by
  obtain ⟨a, b, c, rfl, _⟩ := h
  exact List.length_set
theorem Put.get {n m : Nat} {B : Int} {st st' : Store} (h : Put n B st st') (hm : m ≠ n) : st'[m]? = st[m]? := by
  obtain ⟨a, b, c, rfl, _⟩ := h
  exact List.getElem?_set_ne (Ne.symm hm)
theorem Put.cl {n : Nat} {B : Int} {st st' : Store} (h : Put n B st st') (hc : Cl st) : Cl st' := by
  obtain ⟨a, b, c, rfl, _⟩ := h
  exact hc.set (below_ds (ds := [.int a, .int b, .int c]))
theorem Put.add {n : Nat} {B : Int} {st st' : Store} (h : Put n B st st') (x : Option (List Val)) : Put n B (st ++ [x]) (st' ++ [x]) := by
  obtain ⟨a, b, c, rfl, h0, h⟩ := h
  exact ⟨a, b, c, by rw [List.set_append_left _ _ h0], by rw [List.length_append]; omega, h⟩

theorem Put.add_inv {n : Nat} {B : Int} {st st' : Store} {x : Option (List Val)} (h : Put n B (st ++ [x]) st') (hn : n < st.length) : ∃ s1, st' = s1 ++ [x] ∧ Put n B st s1 := by
  obtain ⟨a, b, c, rfl, h0, h⟩ := h
  exact ⟨_, by rw [List.set_append_left _ _ hn], a, b, c, rfl, hn, h⟩
theorem last_get (st : Store) (x : Option (List Val)) {n : Nat} (h : n = st.length) : (st ++ [x])[n]? = some x := by
  subst h
  simp
theorem last_set (st : Store) (x y : Option (List Val)) {n : Nat} (h : n = st.length) : (st ++ [x]).set n y = st ++ [y] := by
  subst h
  rw [List.set_append_right _ _ (Nat.le_refl _), Nat.sub_self]
  rfl
theorem e_appL (st : Store) {n : Nat} {xs : List Val} (y : Val) (h : n = st.length) (hl : xs.length < 1000000) : mAppend (.c n) [y] (st ++ [some xs]) = .ok (.d .none) (st ++ [some (xs ++ [y])]) := by
  rw [e_app _ y (last_get st _ h) hl, last_set _ _ _ h]

/-! ### days -/
def dInts (l : List Int) : PyData := .list (l.map PyData.int)
theorem mkL_ints (st : Store) (ds : List Int) (h : ds.length ≤ 1000000) : mkL false (ds.map (Val.d ∘ PyData.int)) st = .ok (.d (dInts ds)) st := by
  rw [← List.map_map, mkL_f _ _ (by simpa using h)]
  rfl
structure Day where
  comes : List Int
  pots : List (Int × List Int)
  strikes : List Int
def dPot (p : Int × List Int) : PyData := .tuple [.int p.1, dInts p.2]
def dPots (ps : List (Int × List Int)) : List Val := (ps.map dPot).map Val.d
theorem dPots_snoc (ps : List (Int × List Int)) (p : Int × List Int) : dPots (ps ++ [p]) = dPots ps ++ [.d (dPot p)] := by simp [dPots]
theorem dPots_len (ps : List (Int × List Int)) : (dPots ps).length = ps.length := by simp [dPots]
def Day.pd (D : Day) : PyData := .tuple [dInts D.comes, .list (D.pots.map dPot), dInts D.strikes]
def Lad (H : Nat) (W : Int) (l : List Int) : Prop := l.length = H ∧ ∀ z ∈ l, 0 ≤ z ∧ z ≤ W
structure DayOk (H P : Nat) (W : Int) (D : Day) : Prop where
  comes : Lad H W D.comes
  strikes : Lad H W D.strikes
  pots : D.pots.length = P
  pot : ∀ p ∈ D.pots, 1 ≤ p.1 ∧ p.1 ≤ 1000000 ∧ p.1 ≤ 3 * W + 1 ∧ Lad H W p.2
end Z

/-! the plan's plain side -/
namespace Z
open PySem L2
/-- a list or a tuple -/
def sq (t : Bool) (l : List PyData) : PyData := if t then .tuple l else .list l
@[simp] theorem sq_t (l : List PyData) : sq true l = .tuple l := rfl
@[simp] theorem sq_f (l : List PyData) : sq false l = .list l := rfl
def Day.pdv (t : Bool) (D : Day) : PyData := .tuple [sq t (D.comes.map PyData.int), sq t (D.pots.map fun p => .tuple [.int p.1, sq t (p.2.map PyData.int)]), sq t (D.strikes.map PyData.int)]
@[simp] theorem e_ixSq (t : Bool) (st : Store) (xs : List PyData) (i : Int) : ixG (.d (sq t xs)) st i = match atI xs i with | some y => .ok (.d y) st | none => .no := by
  cases t
  · exact e_ixL st xs i
  · exact e_ixT st xs i
@[simp] theorem e_lenSq (t : Bool) (st : Store) (xs : List PyData) : lenV (.d (sq t xs)) st = .ok (.d (.int xs.length)) st := by
  cases t
  · exact e_lenL st xs
  · exact e_lenT st xs
@[simp] theorem e_itSq (t : Bool) (st : Store) (xs : List PyData) : itOf (.d (sq t xs)) st = .ok ⟨xs.map Val.d, []⟩ st := by cases t <;> rfl
@[simp] theorem pdv_0 (t : Bool) (D : Day) (st : Store) : ixG (.d (D.pdv t)) st 0 = .ok (.d (sq t (D.comes.map PyData.int))) st := rfl
@[simp] theorem pdv_1 (t : Bool) (D : Day) (st : Store) : ixG (.d (D.pdv t)) st 1 = .ok (.d (sq t (D.pots.map fun p => .tuple [.int p.1, sq t (p.2.map PyData.int)]))) st := rfl
@[simp] theorem pdv_2 (t : Bool) (D : Day) (st : Store) : ixG (.d (D.pdv t)) st 2 = .ok (.d (sq t (D.strikes.map PyData.int))) st := rfl
theorem Day.pd_eq (D : Day) : D.pd = D.pdv false := rfl
def Day.P (D : Day) : Nat := D.pots.length
def Day.H (D : Day) : Nat := D.comes.length
def Day.room (D : Day) (p : Nat) : Int := (D.pots.getD p (0, [])).1
def Day.may (D : Day) (p h : Nat) : Int := if p < D.P then (D.pots.getD p (0, [])).2.getD h 0 else D.strikes.getD h 0
def Day.come (D : Day) (h : Nat) : Int := (D.comes.take (h + 1)).sum
def Day.colM (D : Day) (h : Nat) (prev : Nat → Int) : Nat → Int
  | 0 => min (prev D.P + D.may D.P h) (if 0 < D.P then prev (D.P - 1) else D.come h)
  | k + 1 => min (min (prev (D.P - (k + 1)) + D.may (D.P - (k + 1)) h) (if 0 < D.P - (k + 1) then prev (D.P - (k + 1) - 1) else D.come h)) (D.colM h prev k + D.room (D.P - (k + 1)))
def Day.M (D : Day) : Nat → Nat → Int
  | 0 => fun _ => 0
  | h + 1 => fun p => D.colM h (Day.M D h) (D.P - p)
theorem Day.M_top (D : Day) (h : Nat) : D.M (h + 1) D.P = min (D.M h D.P + D.may D.P h) (if 0 < D.P then D.M h (D.P - 1) else D.come h) := by
  show D.colM h (D.M h) (D.P - D.P) = _
  rw [Nat.sub_self]
  rfl
theorem Day.M_low (D : Day) (h p : Nat) (hp : p < D.P) : D.M (h + 1) p = min (min (D.M h p + D.may p h) (if 0 < p then D.M h (p - 1) else D.come h)) (D.M (h + 1) (p + 1) + D.room p) := by
  show D.colM h (D.M h) (D.P - p) = _
  obtain ⟨k, hk⟩ : ∃ k, D.P - p = k + 1 := ⟨D.P - p - 1, by omega⟩
  have e : D.P - (k + 1) = p := by omega
  have e2 : D.P - (p + 1) = k := by omega
  rw [hk]
  show min (min (D.M h (D.P - (k + 1)) + D.may (D.P - (k + 1)) h) (if 0 < D.P - (k + 1) then D.M h (D.P - (k + 1) - 1) else D.come h)) (D.colM h (D.M h) k + D.room (D.P - (k + 1))) = min _ (D.colM h (D.M h) (D.P - (p + 1)) + D.room p)
  rw [e, e2]
def bd (w : Str) (p h : Int) : PyData := .tuple [.str w, .int p, .int h]
/-- the least bound, and which -/
def Day.lb (D : Day) (g : Nat → Nat → Int) (p h : Nat) : Int × PyData :=
  let f0 : Int × PyData := (g h p + D.may p h, bd "takes" p h)
  let f1 : Int × PyData := if 0 < p then (g h (p - 1), bd "ahead" p h) else (D.come h, bd "comes" 0 h)
  let f : Int × PyData := if f1.1 < f0.1 then f1 else f0
  let f2 : Int × PyData := (g (h + 1) (p + 1) + D.room p, bd "room" p h)
  if p < D.P then (if f2.1 < f.1 then f2 else f) else f
theorem Day.lb_fst (D : Day) (h p : Nat) (hp : p ≤ D.P) : (D.lb D.M p h).1 = D.M (h + 1) p := by
  unfold Day.lb
  by_cases e : p < D.P
  · rw [D.M_low h p e]
    by_cases hp : 0 < p <;> simp only [hp, e, if_true, if_false] <;> split <;> split <;> omega
  · obtain rfl : p = D.P := by omega
    rw [D.M_top h]
    by_cases hp : 0 < D.P <;> simp only [hp, e, if_true, if_false] <;> split <;> omega
/-- the day has its shape -/
structure Day.Shape (D : Day) : Prop where
  st : D.strikes.length = D.H
  tk : ∀ p ∈ D.pots, p.2.length = D.H
theorem DayOk.shape {H P : Nat} {W : Int} {D : Day} (h : DayOk H P W D) : D.Shape := ⟨h.strikes.1.trans h.comes.1.symm, fun p hp => (h.pot p hp).2.2.2.1.trans h.comes.1.symm⟩
theorem Day.Shape.strike {D : Day} (s : D.Shape) {h : Nat} (hh : h < D.H) : D.strikes[h]? = some (D.may D.P h) := by
  unfold Day.may
  rw [if_neg (Nat.lt_irrefl _), List.getD_eq_getElem?_getD, List.getElem?_eq_getElem (by rw [s.st]; exact hh)]
  rfl
theorem Day.Shape.pot {D : Day} (s : D.Shape) {p h : Nat} (hp : p < D.P) (hh : h < D.H) : ∃ l, D.pots[p]? = some (D.room p, l) ∧ l[h]? = some (D.may p h) ∧ l.length = D.H := by
  have e : D.pots[p]? = some D.pots[p] := List.getElem?_eq_getElem hp
  have e2 : D.pots.getD p (0, []) = D.pots[p] := by rw [List.getD_eq_getElem?_getD, e]; rfl
  have e3 := s.tk _ (List.getElem_mem hp)
  refine ⟨D.pots[p].2, ?_, ?_, e3⟩
  · rw [e]; unfold Day.room; rw [e2]
  · unfold Day.may; rw [if_pos hp, e2, List.getD_eq_getElem?_getD, List.getElem?_eq_getElem (by rw [e3]; exact hh)]; rfl
theorem e_bMeth (sem : Val → List Val → Store → R Val) (f : CE) (fs : List CE) (env : Z.Env) (st : Store) : bMeth sem f fs env st = (f env st).bind fun x st1 => if cellB x st1 then (bArgs fs env st1).bind fun xs st2 => sem x xs st2 else .no := rfl
theorem cell_true {n : Nat} {xs : List Val} {st : Store} (h : st[n]? = some (some xs)) : cellB (.c n) st = true := by
  unfold cellB; simp only [h]
theorem take_len (st tl : Store) : (st ++ tl).take st.length = st := by simp
/-- a table is read at a place -/
def Rd (x : Val) (st : Store) (p h : Nat) (v : Int) : Prop := ∀ tl, ∃ y, ixG x (st ++ tl) p = .ok y (st ++ tl) ∧ ixG y (st ++ tl) h = .ok (.d (.int v)) (st ++ tl)
theorem e_sumT (st : Store) (ns : List Int) : sSum [.d (.tuple (ns.map PyData.int))] st = .ok (.d (.int ns.sum)) st := by
  show (match intsD ((ns.map PyData.int).map Val.d) with | some ns => R.ok (Val.d (.int ns.sum)) st | none => .no) = _
  rw [List.map_map]
  show (match intsD (ns.map fun n => Val.d (.int n)) with | some ns => R.ok (Val.d (.int ns.sum)) st | none => .no) = _
  rw [intsD_map]
theorem mkT_ints (st : Store) (ds : List Int) (h : ds.length ≤ 1000000) : mkT (ds.map (Val.d ∘ PyData.int)) st = .ok (.d (.tuple (ds.map PyData.int))) st := by
  rw [← List.map_map, mkT_d _ _ (by simpa using h)]
@[simp] theorem cutL_mapD {α : Type} (f : α → Val) (xs : List α) (lo hi : Option Int) : cutL (xs.map f) lo hi = (cutL xs lo hi).map f := cutL_map f xs lo hi
theorem cutL_to' {α : Type} (xs : List α) (n : Nat) : cutL xs none (some ((n : Int) + 1)) = xs.take (n + 1) := cutL_to xs (n + 1)
@[simp] theorem atI_s {α : Type} (xs : List α) (k : Nat) : atI xs ((k : Int) + 1) = xs[k + 1]? := atI_cast xs (k + 1)
theorem atI_p {α : Type} (xs : List α) (k : Nat) (h : 0 < k) : atI xs ((k : Int) - 1) = xs[k - 1]? := by
  rw [show (k : Int) - 1 = ((k - 1 : Nat) : Int) by omega]
  exact atI_cast xs (k - 1)
end Z

/-! lists of lists in the store -/
namespace Z
open PySem L2
def topV (L n : Nat) : List Val := (List.range n).map fun p => Val.c (L + p)
def rowsSt (st : Store) (n : Nat) (f : Nat → List Val) : Store := st ++ ((List.range n).map fun p => some (f p)) ++ [some (topV st.length n)]
section
variable (st : Store) (n : Nat) (f : Nat → List Val)
theorem rows_len : (rowsSt st n f).length = st.length + n + 1 := by simp [rowsSt]; omega
theorem rows_get {p : Nat} (hp : p < n) (tl : Store) : (rowsSt st n f ++ tl)[st.length + p]? = some (some (f p)) := by
  unfold rowsSt
  rw [List.append_assoc, List.append_assoc, List.getElem?_append_right (by omega), show st.length + p - st.length = p by omega, List.getElem?_append_left (by simpa using hp)]
  simp [hp]
theorem rows_top (tl : Store) : (rowsSt st n f ++ tl)[st.length + n]? = some (some (topV st.length n)) := by
  unfold rowsSt
  rw [List.append_assoc, List.getElem?_append_right (by simp), show st.length + n - (st ++ (List.range n).map fun p => some (f p)).length = 0 by simp]
  rfl
theorem rows_set {p : Nat} (hp : p < n) (v : List Val) : (rowsSt st n f).set (st.length + p) (some v) = rowsSt st n (fun q => if q = p then v else f q) := by
  unfold rowsSt
  rw [List.set_append_left _ _ (by simp; omega), List.set_append_right _ _ (by omega), show st.length + p - st.length = p by omega]
  congr 2
  refine List.ext_getElem? fun i => ?_
  by_cases e : i = p
  · subst e
    rw [List.getElem?_set_self (by simpa using hp)]
    simp [hp]
  · rw [List.getElem?_set_ne (Ne.symm e), List.getElem?_map, List.getElem?_map]
    cases hi : (List.range n)[i]? with
    | none => rfl
    | some k =>
      obtain ⟨_, e2⟩ := List.getElem?_eq_some_iff.mp hi
      rw [List.getElem_range] at e2
      subst e2
      simp [e]
theorem rows_take (tl : Store) : (rowsSt st n f ++ tl).take st.length = st := by simp [rowsSt]
theorem rows_take' : (rowsSt st n f).take st.length = st := by simp [rowsSt]
variable {st n f} in
theorem rows_congr {f' : Nat → List Val} (h : ∀ p, p < n → f p = f' p) : rowsSt st n f = rowsSt st n f' := by
  unfold rowsSt
  congr 2
  exact List.map_congr_left fun p hp => by rw [h p (by simpa using hp)]
variable {st n f} in
theorem rows_cl (hc : Cl st) (h : ∀ p, p < n → ∀ x ∈ f p, ∃ d, x = Val.d d) : Cl (rowsSt st n f) := by
  refine Cl.of fun xs hxs x hx => ?_
  rw [rows_len]
  unfold rowsSt at hxs
  rw [List.mem_append, List.mem_append] at hxs
  rcases hxs with (hxs | hxs) | hxs
  · exact below_mono (hc _ (Nat.le_refl _) xs hxs x hx) (by omega)
  · obtain ⟨p, hp, e⟩ := List.mem_map.mp hxs
    cases e
    obtain ⟨d, rfl⟩ := h p (by simpa using hp) x hx
    trivial
  · cases List.mem_singleton.mp hxs
    obtain ⟨p, hp, rfl⟩ := List.mem_map.mp hx
    show st.length + p < _
    have : p < n := by simpa using hp
    omega
theorem topV_get (L : Nat) {p : Nat} (hp : p < n) : (topV L n)[p]? = some (.c (L + p)) := by
  unfold topV
  simp [hp]
theorem rows_ix {p : Nat} (hp : p < n) (tl : Store) : ixG (.c (st.length + n)) (rowsSt st n f ++ tl) p = .ok (.c (st.length + p)) (rowsSt st n f ++ tl) := by
  rw [e_ixC _ _ (rows_top st n f tl), atI_cast, topV_get n st.length hp]
theorem rows_rd {p h : Nat} {v : Int} (hp : p < n) (hv : (f p)[h]? = some (.d (.int v))) : Rd (.c (st.length + n)) (rowsSt st n f) p h v := fun tl =>
  ⟨_, rows_ix st n f hp tl, by rw [e_ixC _ _ (rows_get st n f hp tl), atI_cast, hv]⟩
end
theorem frzs_rows (ds : Nat → List PyData) (L k : Nat) : ∀ (ps : List Nat) (st : Store), ps.Nodup → (∀ p ∈ ps, st[L + p]? = some (some ((ds p).map Val.d))) →
    ∃ st', frzs (frz (k + 1)) (ps.map fun p => Val.c (L + p)) st = some (ps.map fun p => .list (ds p), st') ∧ st'.length = st.length ∧ ∀ m, (∀ p ∈ ps, m ≠ L + p) → st'[m]? = st[m]?
  | [], st, _, _ => ⟨st, rfl, rfl, fun _ _ => rfl⟩
  | p :: ps, st, hn, h => by
    obtain ⟨n1, n2⟩ := List.nodup_cons.mp hn
    have e1 := e_frzC st (n := L + p) (k := k) (h p List.mem_cons_self)
    obtain ⟨st', e2, e3, e4⟩ := frzs_rows ds L k ps (st.set (L + p) none) n2 fun q hq => by
      rw [List.getElem?_set_ne (by intro e; exact n1 (by rw [show p = q by omega]; exact hq))]
      exact h q (List.mem_cons_of_mem _ hq)
    refine ⟨st', ?_, by rw [e3, List.length_set], fun m hm => ?_⟩
    · show (match frz (k + 1) (.c (L + p)) st with
        | some (d, st1) => match frzs (frz (k + 1)) (ps.map fun p => Val.c (L + p)) st1 with
          | some (ds, st2) => some (d :: ds, st2)
          | none => none
        | none => none) = _
      rw [e1]
      simp only [e2]
      rfl
    · rw [e4 m fun q hq => hm q (List.mem_cons_of_mem _ hq), List.getElem?_set_ne (Ne.symm (hm p List.mem_cons_self))]
theorem take_of {a b : Store} {n : Nat} (hl : a.length = b.length) (h : ∀ m, m < n → a[m]? = b[m]?) : a.take n = b.take n := by
  refine List.ext_getElem? fun i => ?_
  rw [List.getElem?_take, List.getElem?_take]
  split
  · exact h i (by assumption)
  · rfl
/-- the whole is frozen -/
theorem frz_rows (st : Store) (n : Nat) (ds : Nat → List PyData) (k : Nat) (h0 : 0 < n) : ∃ st', frz (k + 2) (.c (st.length + n)) (rowsSt st n fun p => (ds p).map Val.d) = some (.list ((List.range n).map fun p => .list (ds p)), st') ∧ st'.take st.length = st := by
  have t := rows_top st n (fun p => (ds p).map Val.d) []
  rw [List.append_nil] at t
  obtain ⟨st', e2, e3, e4⟩ := frzs_rows ds st.length k (List.range n) (rowsSt st n fun p => (ds p).map Val.d) List.nodup_range fun p hp => by
    have := rows_get st n (fun p => (ds p).map Val.d) (p := p) (by simpa using hp) []
    rw [List.append_nil] at this
    exact this
  have e5 := e4 (st.length + n) fun p hp => by have : p < n := by simpa using hp
                                               omega
  refine ⟨st'.set (st.length + n) none, ?_, ?_⟩
  · unfold frz
    simp only [t]
    have ha : allD (topV st.length n) = none := by
      obtain ⟨m, rfl⟩ : ∃ m, n = m + 1 := ⟨n - 1, by omega⟩
      unfold topV
      rw [List.range_succ_eq_map]
      rfl
    have e2' : frzs (frz (k + 1)) (topV st.length n) (rowsSt st n fun p => (ds p).map Val.d) = some ((List.range n).map fun p => .list (ds p), st') := e2
    rw [ha]
    simp only [e2', e5, t]
  · rw [← rows_take' st n fun p => (ds p).map Val.d]
    have : (st'.set (st.length + n) none).take st.length = st'.take st.length := by
      rw [List.take_set_of_le (by omega)]
    rw [rows_take', this, take_of e3 fun m hm => e4 m fun p _ => by omega]
    exact rows_take' _ _ _
/-- lists made one by one -/
theorem lc_rows {gs : List (Nat × List Val)} {lt : LT} {fe : CE} {env0 : Env} (st : Store) (n : Nat) (v : List Val) (items : List Val) (hi : items.length = n) (hn : n ≤ 1000000) (hh : ∀ j, Holds gs (st ++ (List.range j).map fun _ => some v))
    (h : ∀ (j : Nat) (x : Val), items[j]? = some x → ∀ st' : Store, ∃ env1, ltE lt x env0 st' = some env1 ∧ fe env1 st' = .ok (.c st'.length) (st' ++ [some v])) :
    lcL gs lt tYesT fe env0 items [] st = .ok (topV st.length n) (st ++ (List.range n).map fun _ => some v) := by
  obtain ⟨acc, st', l1, l2, l3⟩ := lcL_inv (gs := gs) (lt := lt) (tt := tYesT) (fe := fe) (env0 := env0) (fun j acc st' => acc = topV st.length j ∧ st' = st ++ (List.range j).map fun _ => some v) items 0 [] st ⟨rfl, by simp⟩
    (fun j acc st' _ _ h => ⟨by rw [h.2]; exact hh j, by rw [h.1]; simp [topV]⟩) (by omega) (fun j x acc st' hx hI => by
      obtain ⟨env1, a1, a2⟩ := h j x hx st'
      refine ⟨env1, st', _, _, a1, rfl, a2, ?_, ?_⟩
      · rw [hI.1, hI.2]
        simp [topV, List.range_succ]
      · rw [hI.2]
        simp [List.range_succ])
  rw [l1, l2, l3, hi, Nat.zero_add]
theorem rows_mk (st : Store) (n : Nat) (v : List Val) (hn : n ≤ 1000000) : mkL true (topV st.length n) (st ++ (List.range n).map fun _ => some v) = .ok (.c (st.length + n)) (rowsSt st n fun _ => v) := by
  rw [mkL_c _ _ (by simpa [topV] using hn)]
  simp [rowsSt]
theorem intsC_get {a c : Int} {n j : Nat} {x : Val} (h : (intsC a c n)[j]? = some x) : x = .d (.int (a + j * c)) ∧ j < n := by
  unfold intsC at h
  rw [List.getElem?_map] at h
  cases hj : (List.range n)[j]? with
  | none => rw [hj] at h; cases h
  | some k =>
    rw [hj] at h
    obtain ⟨hl, e⟩ := List.getElem?_eq_some_iff.mp hj
    rw [List.getElem_range] at e
    subst e
    exact ⟨(Option.some.inj h).symm, by simpa using hl⟩
@[simp] theorem intsC_length (a c : Int) (n : Nat) : (intsC a c n).length = n := by unfold intsC; simp
theorem e_revR (st : Store) (n : Int) (h : -1000000000 ≤ n ∧ n ≤ 1000000000) : revR [.d (.int n)] st = .ok ⟨intsC ((n.toNat : Int) - 1) (-1) n.toNat, []⟩ st := if_pos h
theorem e_rng3 (st : Store) (a b : Int) (h : -1000000000 ≤ a ∧ a ≤ 1000000000 ∧ -1000000000 ≤ b ∧ b ≤ 1000000000) : rng3 [.d (.int a), .d (.int b), .d (.int (-1))] st = .ok ⟨intsC a (-1) (a - b).toNat, []⟩ st := by
  show (if _ then _ else _) = _
  rw [if_pos ⟨rfl, h⟩]
/-- a place's row of the table -/
def Day.rowD (D : Day) (p n : Nat) : List PyData := (List.range n).map fun h => .int (D.M h p)
theorem Day.rowD_get (D : Day) {p n h : Nat} (hh : h < n) : ((D.rowD p n).map Val.d)[h]? = some (.d (.int (D.M h p))) := by simp [Day.rowD, hh]
theorem Day.rowD_snoc (D : Day) (p n : Nat) : (D.rowD p n).map Val.d ++ [.d (.int (D.M n p))] = (D.rowD p (n + 1)).map Val.d := by simp [Day.rowD, List.range_succ]
def Day.sumsD (D : Day) : PyData := .list ((List.range (D.P + 1)).map fun p => .list (D.rowD p (D.H + 1)))
theorem catL (st : Store) (xs ys : List PyData) (h : xs.length + ys.length ≤ 1000000) : vBin false .Add (.d (.list xs)) (.d (.list ys)) st = .ok (.d (.list (xs ++ ys))) st := by
  show mkL false (xs.map Val.d ++ ys.map Val.d) st = _
  rw [← List.map_append, mkL_f _ _ (by simpa using h)]
theorem slTo (st : Store) (xs : List PyData) (n : Nat) (h : xs.length ≤ 1000000) : vSl false (.d (.list xs)) none (some (n : Int)) st = .ok (.d (.list (xs.take n))) st := by
  rw [e_slL, cutL_map, cutL_to, mkL_f _ _ (by simp; omega)]
theorem slTo1 (st : Store) (xs : List PyData) (n : Nat) (h : xs.length ≤ 1000000) : vSl false (.d (.list xs)) none (some ((n : Int) + 1)) st = .ok (.d (.list (xs.take (n + 1)))) st := slTo st xs (n + 1) h
theorem slFrom (st : Store) (xs : List PyData) (n : Nat) (h : xs.length ≤ 1000000) : vSl false (.d (.list xs)) (some (n : Int)) none st = .ok (.d (.list (xs.drop n))) st := by
  rw [e_slL, cutL_map, cutL_from, mkL_f _ _ (by simp; omega)]
theorem slFrom1 (st : Store) (xs : List PyData) (n : Nat) (h : xs.length ≤ 1000000) : vSl false (.d (.list xs)) (some ((n : Int) + 1)) none st = .ok (.d (.list (xs.drop (n + 1)))) st := slFrom st xs (n + 1) h
theorem dInts_ix (st : Store) {r : List Int} {q : Nat} {x : Int} (h : r[q]? = some x) : ixG (.d (dInts r)) st (q : Int) = .ok (.d (.int x)) st := by
  unfold dInts
  rw [e_ixL, atI_cast, List.getElem?_map, h]
  rfl
theorem dInts_to (st : Store) (r : List Int) (n : Nat) (h : r.length ≤ 1000000) : vSl false (.d (dInts r)) none (some (n : Int)) st = .ok (.d (dInts (r.take n))) st := by
  unfold dInts
  rw [slTo _ _ _ (by simpa using h), List.map_take]
theorem dInts_sum (st : Store) (r : List Int) : sSum [.d (dInts r)] st = .ok (.d (.int r.sum)) st := e_sumL st r
def Day.diffD (D : Day) (p : Nat) : List PyData := (List.range D.H).map fun h => .int (D.M (h + 1) p - D.M h p)
def Day.planD (D : Day) : PyData := .list ((List.range (D.P + 1)).map fun p => .list (D.diffD p))
theorem lcL_mapI {α : Type} {gs : List (Nat × List Val)} {lt : LT} {tt : CT} {fe : CE} {env0 : Z.Env} {st : Store} (hh : Holds gs st) (f g : α → Val) : ∀ (ks : List α) (acc : List Val), acc.length + ks.length ≤ 1000000 →
    (∀ k ∈ ks, ∃ env1, ltE lt (f k) env0 st = some env1 ∧ tt env1 st = .ok true st ∧ fe env1 st = .ok (g k) st) → lcL gs lt tt fe env0 (ks.map f) acc st = .ok (acc ++ ks.map g) st := by
  intro ks
  induction ks with
  | nil => intro acc _ _; rw [List.map_nil, List.map_nil, List.append_nil]; exact if_pos hh
  | cons x xs ih =>
    intro acc hl h
    obtain ⟨env1, h1, h2, h3⟩ := h x List.mem_cons_self
    rw [List.length_cons] at hl
    rw [List.map_cons]
    unfold lcL
    rw [if_pos ⟨hh, by unfold lim; omega⟩, h1]
    simp only [h2, h3, e_noEx_ok, e_bind_ok, if_true]
    rw [ih (acc ++ [g x]) (by simp; omega) fun y hy => h y (List.mem_cons_of_mem _ hy)]
    simp
theorem zip_rows (D : Day) (p n : Nat) : zips ((D.rowD p (n + 1)).map Val.d) (((D.rowD p (n + 1)).drop 1).map Val.d) = (List.range n).map fun h => Val.d (.tuple [.int (D.M h p), .int (D.M (h + 1) p)]) := by
  unfold zips
  refine List.ext_getElem? fun i => ?_
  by_cases hi : i < n
  · simp [Day.rowD, List.getElem?_zipWith, hi, show i < n + 1 by omega, Nat.add_comm 1 i]
    rfl
  · rw [List.getElem?_eq_none (by simp [Day.rowD]; omega), List.getElem?_eq_none (by simp; omega)]
theorem e_zipD (st : Store) (xs ys : List PyData) : zipL [.d (.list xs), .d (.list ys)] st = .ok ⟨zips (xs.map Val.d) (ys.map Val.d), []⟩ st := rfl
/-- a row's differences -/
theorem diff_lc (D : Day) (p : Nat) (i j : Nat) (env0 : Z.Env) (st : Store) (hH : D.H ≤ 1000) (hij : i ≠ j) (hi : i < env0.length) (hj : j < env0.length) : lcL [] (.t [i, j]) tYesT (bBin false .Sub (bVar j) (bVar i)) env0 ((List.range D.H).map fun h => Val.d (.tuple [.int (D.M h p), .int (D.M (h + 1) p)])) [] st = .ok ((D.diffD p).map Val.d) st := by
  have := lcL_mapI (gs := []) (lt := .t [i, j]) (tt := tYesT) (fe := bBin false .Sub (bVar j) (bVar i)) (env0 := env0) (st := st) (holds0 st) (fun h => Val.d (.tuple [.int (D.M h p), .int (D.M (h + 1) p)])) (fun h => .d (.int (D.M (h + 1) p - D.M h p))) (List.range D.H) [] (by simp; omega)
    fun h _ => ⟨_, rfl, rfl, by simp [List.getElem?_set, hi, hj, hij, Ne.symm hij]⟩
  rw [this]
  simp [Day.diffD]
end Z

/-! equality of data -/
namespace Z
open PySem L2
theorem eqvAll_ints : ∀ r r' : List Int, PyData.eqvAll (r.map PyData.int) (r'.map PyData.int) = decide (r = r')
  | [], [] => by simp [PyData.eqvAll]
  | [], b :: r' => by simp [PyData.eqvAll]
  | a :: r, [] => by simp [PyData.eqvAll]
  | a :: r, b :: r' => by
    rw [List.map_cons, List.map_cons, PyData.eqvAll, eqvAll_ints r r']
    have : PyData.eqv (.int a) (.int b) = decide (a = b) := by simp [PyData.eqv]; rfl
    rw [this]
    by_cases h : a = b <;> by_cases h2 : r = r' <;> simp [h, h2]
theorem eqv_ints (r r' : List Int) : PyData.eqv (dInts r) (dInts r') = decide (r = r') := by
  unfold dInts
  rw [PyData.eqv]
  exact eqvAll_ints r r'
theorem depth_ints (r : List Int) : PyData.depthAll (r.map PyData.int) = 0 := by
  induction r with
  | nil => rfl
  | cons a r ih => rw [List.map_cons, PyData.depthAll, ih]; rfl
theorem mapO_d (k : Nat) (st : Store) : ∀ ds : List PyData, mapO (deepV k st) (ds.map Val.d) = some ds
  | [] => rfl
  | d :: ds => by
    rw [List.map_cons]
    unfold mapO
    rw [deepV_d, mapO_d k st ds]
theorem deep_c {n k : Nat} {st : Store} {ds : List PyData} (h : st[n]? = some (some (ds.map Val.d))) : deepV (k + 1) st (.c n) = some (.list ds) := by
  unfold deepV
  simp only [h, mapO_d]
theorem depth_dInts (r : List Int) : (dInts r).depth = 1 := by
  unfold dInts
  rw [PyData.depth, depth_ints]
theorem eq_nil (st : Store) (l : List Int) : vCmp .Eq (.d (dInts l)) (.d (.list [])) st = some (decide (l = [])) := by
  rw [e_eqD st _ _ (by rw [depth_dInts]; omega), show PyData.list [] = dInts [] from rfl, eqv_ints]
theorem ne_nil (st : Store) (l : List Int) : vCmp .NotEq (.d (dInts l)) (.d (.list [])) st = some (!decide (l = [])) := by
  rw [e_neD st _ _ (by rw [depth_dInts]; omega), show PyData.list [] = dInts [] from rfl, eqv_ints]
end Z

/-! what the table keeps -/
namespace Z
open PySem L2
theorem DayOk.may_le {H P : Nat} {W : Int} {D : Day} (o : DayOk H P W D) {p h : Nat} (hp : p ≤ D.P) (hh : h < D.H) : 0 ≤ D.may p h ∧ D.may p h ≤ W := by
  by_cases e : p < D.P
  · obtain ⟨l, h1, h2, _⟩ := o.shape.pot e hh
    exact (o.pot _ (List.mem_of_getElem? h1)).2.2.2.2 _ (List.mem_of_getElem? h2)
  · obtain rfl : p = D.P := by omega
    exact o.strikes.2 _ (List.mem_of_getElem? (o.shape.strike hh))
theorem DayOk.room_ok {H P : Nat} {W : Int} {D : Day} (o : DayOk H P W D) {p : Nat} (hp : p < D.P) : 1 ≤ D.room p ∧ D.room p ≤ 1000000 := by
  have e : D.pots[p]? = some D.pots[p] := List.getElem?_eq_getElem hp
  have e2 : D.pots.getD p (0, []) = D.pots[p] := by rw [List.getD_eq_getElem?_getD, e]; rfl
  have := o.pot _ (List.getElem_mem hp)
  unfold Day.room
  rw [e2]
  exact ⟨this.1, this.2.1⟩
theorem Day.come_succ (D : Day) (h : Nat) : D.come (h + 1) = D.come h + D.comes.getD (h + 1) 0 := by
  unfold Day.come
  by_cases e : h + 1 < D.comes.length
  · rw [List.take_succ_eq_append_getElem e, List.sum_append, List.getD_eq_getElem?_getD, List.getElem?_eq_getElem e]
    simp
  · rw [List.take_of_length_le (by omega), List.take_of_length_le (by omega), List.getD_eq_getElem?_getD, List.getElem?_eq_none (by omega)]
    simp
theorem DayOk.come_nn {H P : Nat} {W : Int} {D : Day} (o : DayOk H P W D) (h : Nat) : 0 ≤ D.comes.getD h 0 := by
  rw [List.getD_eq_getElem?_getD]
  cases e : D.comes[h]? with
  | none => exact Int.le_refl _
  | some z => exact (o.comes.2 z (List.mem_of_getElem? e)).1
theorem DayOk.come0 {H P : Nat} {W : Int} {D : Day} (o : DayOk H P W D) : 0 ≤ D.come 0 := by
  have e : D.come 0 = D.comes.getD 0 0 := by
    unfold Day.come
    cases D.comes with
    | nil => rfl
    | cons a l => simp
  rw [e]
  exact o.come_nn 0
/-- what the table keeps -/
theorem DayOk.table {H P : Nat} {W : Int} {D : Day} (o : DayOk H P W D) : ∀ h, h ≤ D.H → (∀ p, p < D.P → D.M h p ≤ D.M h (p + 1) + D.room p) ∧ (∀ p, 0 < p → p ≤ D.P → D.M h p ≤ D.M h (p - 1)) ∧ D.M h 0 ≤ D.come h ∧ (h < D.H → ∀ p, p ≤ D.P → D.M h p ≤ D.M (h + 1) p) ∧ (0 < h → D.M h 0 ≤ D.come (h - 1)) := by
  intro h
  induction h with
  | zero =>
    intro h0
    have a1 : ∀ p, p < D.P → D.M 0 p ≤ D.M 0 (p + 1) + D.room p := fun p hp => by have := (o.room_ok hp).1; show (0 : Int) ≤ 0 + D.room p; omega
    have a2 : ∀ p, 0 < p → p ≤ D.P → D.M 0 p ≤ D.M 0 (p - 1) := fun _ _ _ => Int.le_refl _
    have a3 : D.M 0 0 ≤ D.come 0 := o.come0
    refine ⟨a1, a2, a3, fun hH => ?_, fun h => absurd h (Nat.lt_irrefl _)⟩
    have : ∀ k p, p + k = D.P → D.M 0 p ≤ D.M (0 + 1) p := by
      intro k
      induction k with
      | zero =>
        intro p hp
        obtain rfl : p = D.P := hp
        rw [D.M_top 0]
        have := (o.may_le (Nat.le_refl _) hH).1
        have m0 : ∀ q, D.M 0 q = 0 := fun _ => rfl
        have c0 := o.come0
        rw [m0, m0]
        split <;> omega
      | succ k ih =>
        intro p hp
        have i1 := ih (p + 1) (by omega)
        rw [D.M_low 0 p (by omega)]
        have := (o.may_le (p := p) (by omega) hH).1
        have := (o.room_ok (p := p) (by omega)).1
        have m0 : ∀ q, D.M 0 q = 0 := fun _ => rfl
        have c0 := o.come0
        rw [m0] at i1
        rw [m0, m0]
        split <;> omega
    exact fun p hp => this (D.P - p) p (by omega)
  | succ h ih =>
    intro hh
    obtain ⟨b1, b2, b3, b4, _⟩ := ih (by omega)
    have b4 := b4 (by omega)
    have up : ∀ p, p ≤ D.P → D.M (h + 1) p ≤ (if 0 < p then D.M h (p - 1) else D.come h) := fun p hp => by
      by_cases e : p < D.P
      · rw [D.M_low h p e]; omega
      · obtain rfl : p = D.P := by omega
        rw [D.M_top h]; omega
    have a1 : ∀ p, p < D.P → D.M (h + 1) p ≤ D.M (h + 1) (p + 1) + D.room p := fun p hp => by
      rw [D.M_low h p hp]; omega
    have a2 : ∀ p, 0 < p → p ≤ D.P → D.M (h + 1) p ≤ D.M (h + 1) (p - 1) := fun p h0 hp => by
      have := up p hp
      rw [if_pos h0] at this
      exact Int.le_trans this (b4 (p - 1) (by omega))
    have a5 : D.M (h + 1) 0 ≤ D.come h := by have := up 0 (Nat.zero_le _); rwa [if_neg (Nat.lt_irrefl _)] at this
    have a3 : D.M (h + 1) 0 ≤ D.come (h + 1) := by
      have := o.come_nn (h + 1)
      rw [D.come_succ]; omega
    refine ⟨a1, a2, a3, fun hH => ?_, fun _ => a5⟩
    have : ∀ k p, p + k = D.P → D.M (h + 1) p ≤ D.M (h + 1 + 1) p := by
      intro k
      induction k with
      | zero =>
        intro p hp
        obtain rfl : p = D.P := hp
        rw [D.M_top (h + 1)]
        have := (o.may_le (Nat.le_refl _) hH).1
        by_cases e : 0 < D.P
        · have := a2 D.P e (Nat.le_refl _)
          rw [if_pos e]; omega
        · rw [if_neg e]
          have e : D.P = 0 := by omega
          rw [e] at this ⊢
          omega
      | succ k ihk =>
        intro p hp
        have i1 := ihk (p + 1) (by omega)
        have i2 := a1 p (by omega)
        rw [D.M_low (h + 1) p (by omega)]
        have := (o.may_le (p := p) (by omega) hH).1
        by_cases e : 0 < p
        · have := a2 p e (by omega)
          rw [if_pos e]; omega
        · obtain rfl : p = 0 := by omega
          rw [if_neg e]; omega
    exact fun p hp => this (D.P - p) p (by omega)

theorem DayOk.M_le {H P : Nat} {W : Int} {D : Day} (o : DayOk H P W D) (hW : W ≤ 1000000) : ∀ h, h ≤ D.H → ∀ p, p ≤ D.P → D.M h p ≤ 1000000 * h
  | 0, _, p, _ => Int.le_refl _
  | h + 1, hh, p, hp => by
    have i := o.M_le hW h (by omega) p hp
    have m := (o.may_le (p := p) hp (h := h) (by omega)).2
    by_cases e : p < D.P
    · rw [D.M_low h p e]; omega
    · obtain rfl : p = D.P := by omega
      rw [D.M_top h]; omega
theorem Day.diff_sum (D : Day) (p : Nat) : ∀ h, ((List.range h).map fun k => D.M (k + 1) p - D.M k p).sum = D.M h p
  | 0 => rfl
  | h + 1 => by
    rw [List.range_succ, List.map_append, List.sum_append, D.diff_sum p h]
    simp
    omega
theorem DayOk.M_nn {H P : Nat} {W : Int} {D : Day} (o : DayOk H P W D) : ∀ h, h ≤ D.H → ∀ p, p ≤ D.P → 0 ≤ D.M h p
  | 0, _, p, _ => Int.le_refl _
  | h + 1, hh, p, hp => Int.le_trans (o.M_nn h (by omega) p hp) ((o.table h (by omega)).2.2.2.1 (by omega) p hp)
end Z

/-! a day in tuples; lists of numbers -/
namespace Z
open PySem L2
theorem catI (st : Store) (a b : List Int) (h : a.length + b.length ≤ 1000000) : vBin false .Add (.d (dInts a)) (.d (dInts b)) st = .ok (.d (dInts (a ++ b))) st := by
  unfold dInts
  rw [catL _ _ _ (by simpa using h), List.map_append]
theorem tupI (st : Store) (l : List Int) (h : l.length ≤ 1000000) : sTuple [.d (dInts l)] st = .ok (.d (.tuple (l.map PyData.int))) st := by
  unfold dInts
  rw [e_tupleL, mkT_d _ _ (by simpa using h)]
theorem tupL (st : Store) (l : List PyData) (h : l.length ≤ 1000000) : sTuple [.d (.list l)] st = .ok (.d (.tuple l)) st := by
  rw [e_tupleL, mkT_d _ _ h]
theorem e_slC (st : Store) (m : Bool) {n : Nat} {xs : List Val} (lo hi : Option Int) (h : st[n]? = some (some xs)) : vSl m (.c n) lo hi st = mkL m (cutL xs lo hi) st := by
  show (match seqOf st (.c n) with
    | some (Sk.l, xs) => mkL m (cutL xs lo hi) st
    | some (Sk.t, xs) => mkT (cutL xs lo hi) st
    | _ => R.no) = _
  rw [seqOf_c h]
theorem itI (st : Store) (l : List Int) : itOf (.d (dInts l)) st = .ok ⟨(l.map PyData.int).map Val.d, []⟩ st := rfl
noncomputable def looseE (v i j : Nat) : CE := (bTup [(bCallB sTuple [(bIx (bVar v) (bC (.int 0)))]), (bCallB sTuple [(bLc false [i, j] (iSeq (bIx (bVar v) (bC (.int 1)))) (.t [i, j]) tYesT (bTup [(bVar i), (bCallB sTuple [(bVar j)])]))]), (bCallB sTuple [(bIx (bVar v) (bC (.int 2)))])])
theorem loose_ok {D : Day} (s : D.Shape) (hH : D.H ≤ 1000) (hP : D.P ≤ 1000) (v i j : Nat) (env : Z.Env) (st : Store) (hv : env[v]? = some (some (.d D.pd))) (hij : i ≠ j) (hi : i < env.length) (hj : j < env.length) :
    looseE v i j env st = .ok (.d (D.pdv true)) st := by
  have lc := lcL_mapI (gs := []) (lt := .t [i, j]) (tt := tYesT) (fe := (bTup [(bVar i), (bCallB sTuple [(bVar j)])])) (env0 := wipeE env [i, j]) (st := st) (holds0 st) (fun p : Int × List Int => Val.d (dPot p)) (fun p : Int × List Int => Val.d (.tuple [.int p.1, .tuple (p.2.map PyData.int)])) D.pots [] (by have : D.pots.length ≤ 1000 := hP; simp; omega)
    fun p hp => by
      have hl := s.tk p hp
      have tt := tupI st p.2 (by omega)
      refine ⟨_, rfl, rfl, ?_⟩
      simp -implicitDefEqProofs [List.getElem?_set, hi, hj, hij, Ne.symm hij, tt]
  rw [List.nil_append] at lc
  have mk : mkL false (D.pots.map fun p : Int × List Int => Val.d (.tuple [.int p.1, .tuple (p.2.map PyData.int)])) st = .ok (.d (.list (D.pots.map fun p => .tuple [.int p.1, .tuple (p.2.map PyData.int)]))) st := by
    have e : (D.pots.map fun p : Int × List Int => Val.d (.tuple [.int p.1, .tuple (p.2.map PyData.int)])) = (D.pots.map fun p => PyData.tuple [.int p.1, .tuple (p.2.map PyData.int)]).map Val.d := by rw [List.map_map]; rfl
    have : D.pots.length ≤ 1000 := hP
    rw [e, mkL_f _ _ (by simp; omega)]
  have p0 : ixG (.d D.pd) st 0 = .ok (.d (dInts D.comes)) st := rfl
  have p1 : ixG (.d D.pd) st 1 = .ok (.d (.list (D.pots.map dPot))) st := rfl
  have p2 : ixG (.d D.pd) st 2 = .ok (.d (dInts D.strikes)) st := rfl
  have t0 := tupI st D.comes (by have : D.comes.length = D.H := rfl; omega)
  have t2 := tupI st D.strikes (by have := s.st; omega)
  have t1 := tupL st (D.pots.map fun p => .tuple [.int p.1, .tuple (p.2.map PyData.int)]) (by have : D.pots.length ≤ 1000 := hP; simp; omega)
  have it : itOf (.d (.list (D.pots.map dPot))) st = .ok ⟨D.pots.map fun p => Val.d (dPot p), []⟩ st := by rw [e_itL, List.map_map]; rfl
  have hr : D.pdv true = .tuple [.tuple (D.comes.map PyData.int), .tuple (D.pots.map fun p => .tuple [.int p.1, .tuple (p.2.map PyData.int)]), .tuple (D.strikes.map PyData.int)] := rfl
  rw [hr]
  generalize (D.pots.map fun p : Int × List Int => Val.d (.tuple [.int p.1, .tuple (p.2.map PyData.int)])) = ov at lc mk
  generalize (D.pots.map fun p => Val.d (dPot p)) = iv at lc it
  generalize (D.pots.map fun p => PyData.tuple [.int p.1, .tuple (p.2.map PyData.int)]) = pv at mk t1 ⊢
  generalize hw : wipeE env [i, j] = w at lc
  unfold looseE
  simp -implicitDefEqProofs [-e_wipe, -e_wipe0, hw, hv, p0, p1, p2, t0, t1, t2, it, lc, mk]
end Z

/-! the law's own plan: stores -/
namespace Z
open PySem L2
def dI (l : List Int) : List Val := l.map fun z => .d (.int z)
theorem dI_len (l : List Int) : (dI l).length = l.length := by simp [dI]
theorem dI_get {l : List Int} {p : Nat} {x : Int} (h : l[p]? = some x) : (dI l)[p]? = some (.d (.int x)) := by simp [dI, h]
theorem dI_set (l : List Int) (p : Nat) (x : Int) : (dI l).set p (.d (.int x)) = dI (l.set p x) := by simp [dI, List.map_set]
theorem dI_snoc (l : List Int) (x : Int) : dI l ++ [.d (.int x)] = dI (l ++ [x]) := by simp [dI]
theorem mkL_dI (st : Store) (l : List Int) (h : l.length ≤ 1000000) : mkL false (dI l) st = .ok (.d (dInts l)) st := mkL_ints st l h
/-- a list of numbers, and lists of lists of numbers behind it -/
def grS (st : Store) (n : Nat) (hv : List Int) (f : Nat → List Int) : Store := rowsSt (st ++ [some (dI hv)]) n fun p => dI (f p)
section
variable (st : Store) (n : Nat) (hv : List Int) (f : Nat → List Int)
theorem gr_held : (grS st n hv f)[st.length]? = some (some (dI hv)) := by
  have := rows_take' (st ++ [some (dI hv)]) n fun p => dI (f p)
  unfold grS rowsSt
  rw [List.append_assoc, List.getElem?_append_left (by simp)]
  simp
theorem gr_len : (grS st n hv f).length = st.length + 1 + n + 1 := by
  unfold grS
  rw [rows_len]
  simp
theorem gr_set_held (x : List Int) : (grS st n hv f).set st.length (some (dI x)) = grS st n x f := by
  have hl : ∀ y : List Int, (st ++ [some (dI y)]).length = st.length + 1 := fun y => by simp
  unfold grS rowsSt
  rw [List.append_assoc, List.set_append_left _ _ (by simp), last_set _ _ _ rfl, hl, hl]
  simp [List.append_assoc]
theorem gr_top : (grS st n hv f)[st.length + 1 + n]? = some (some (topV (st.length + 1) n)) := by
  have := rows_top (st ++ [some (dI hv)]) n (fun p => dI (f p)) []
  simpa [grS] using this
theorem gr_row {p : Nat} (hp : p < n) : (grS st n hv f)[st.length + 1 + p]? = some (some (dI (f p))) := by
  have := rows_get (st ++ [some (dI hv)]) n (fun p => dI (f p)) hp []
  simpa [grS] using this
theorem gr_set_row {p : Nat} (hp : p < n) (v : List Int) : (grS st n hv f).set (st.length + 1 + p) (some (dI v)) = grS st n hv (fun q => if q = p then v else f q) := by
  have := rows_set (st ++ [some (dI hv)]) n (fun p => dI (f p)) hp (dI v)
  rw [show (st ++ [some (dI hv)]).length = st.length + 1 by simp] at this
  unfold grS
  rw [this]
  refine rows_congr fun q _ => ?_
  by_cases e : q = p <;> simp [e]
variable {st n hv f} in
theorem gr_congr {hv' : List Int} {f' : Nat → List Int} (h : hv = hv') (h2 : ∀ p, p < n → f p = f' p) : grS st n hv f = grS st n hv' f' := by
  subst h
  exact rows_congr fun p hp => by rw [h2 p hp]
theorem gr_ix {p : Nat} (hp : p < n) : ixG (.c (st.length + 1 + n)) (grS st n hv f) p = .ok (.c (st.length + 1 + p)) (grS st n hv f) := by
  rw [e_ixC _ _ (gr_top st n hv f), atI_cast, topV_get n (st.length + 1) hp]
theorem gr_ixl (h0 : 0 < n) : ixG (.c (st.length + 1 + n)) (grS st n hv f) (-1) = .ok (.c (st.length + 1 + (n - 1))) (grS st n hv f) := by
  rw [e_ixC _ _ (gr_top st n hv f), atI_neg1, show (topV (st.length + 1) n).length = n by simp [topV], topV_get n (st.length + 1) (by omega)]
theorem gr_hix {p : Nat} {x : Int} (h : hv[p]? = some x) : ixG (.c st.length) (grS st n hv f) p = .ok (.d (.int x)) (grS st n hv f) := by
  rw [e_ixC _ _ (gr_held st n hv f), atI_cast, dI_get h]
theorem gr_hset {p : Nat} (hp : p < hv.length) (x : Int) : setC (.c st.length) (.d (.int p)) (.d (.int x)) (grS st n hv f) = some (grS st n (hv.set p x) f) := by
  rw [e_setC _ _ (gr_held st n hv f) (ixN_cast' (dI hv).length p (by rw [dI_len]; exact hp)), dI_set, gr_set_held]
theorem gr_app {p : Nat} (hp : p < n) (x : Int) (hl : (f p).length < 1000000) : mAppend (.c (st.length + 1 + p)) [.d (.int x)] (grS st n hv f) = .ok (.d .none) (grS st n hv (fun q => if q = p then f p ++ [x] else f q)) := by
  rw [e_app _ _ (gr_row st n hv f hp) (by rw [dI_len]; exact hl), dI_snoc, gr_set_row st n hv f hp]
theorem gr_cell {p : Nat} (hp : p < n) : cellB (.c (st.length + 1 + p)) (grS st n hv f) = true := cell_true (gr_row st n hv f hp)
end
theorem e_enumL (st : Store) (xs : List PyData) : enumL [.d (.list xs)] st = .ok ⟨enums (xs.map Val.d), []⟩ st := rfl
theorem enums_get {l : List Int} {h : Nat} {x : Val} (hx : (enums ((l.map PyData.int).map Val.d))[h]? = some x) : h < l.length ∧ ∃ z, l[h]? = some z ∧ x = .d (.tuple [.int h, .int z]) := by
  unfold enums at hx
  rw [List.getElem?_map] at hx
  cases hj : (List.range ((l.map PyData.int).map Val.d).length)[h]? with
  | none => rw [hj] at hx; cases hx
  | some k =>
    rw [hj] at hx
    obtain ⟨hl, e⟩ := List.getElem?_eq_some_iff.mp hj
    rw [List.getElem_range] at e
    subst e
    have hl' : h < l.length := by simpa using hl
    refine ⟨hl', l[h], List.getElem?_eq_getElem hl', ?_⟩
    rw [← Option.some.inj hx]
    show tupV [Val.d (.int h), ((l.map PyData.int).map Val.d).getD h (.d .none)] = _
    rw [List.getD_eq_getElem?_getD, List.getElem?_map, List.getElem?_map, List.getElem?_eq_getElem hl']
    rfl
theorem enums_dI (l : List Int) : enums (dI l) = (List.range l.length).map fun i => Val.d (.tuple [.int (i : Nat), .int (l.getD i 0)]) := by
  unfold enums
  rw [dI_len]
  refine List.map_congr_left fun i hi => ?_
  have hi : i < l.length := by simpa using hi
  show tupV [Val.d (.int (i : Nat)), (dI l).getD i (.d .none)] = _
  rw [List.getD_eq_getElem?_getD, dI_get (List.getElem?_eq_getElem hi), List.getD_eq_getElem?_getD, List.getElem?_eq_getElem hi]
  rfl
theorem e_enumC (st : Store) {n : Nat} {xs : List Val} (h : st[n]? = some (some xs)) : enumL [.c n] st = .ok ⟨enums xs, [(n, xs)]⟩ st := by
  show (match seqOf st (.c n) with
    | some (Sk.t, _) => R.no
    | some (_, ys) => R.ok (Wk.mk (enums ys) (gsOf (Val.c n) ys)) st
    | none => R.no) = _
  rw [seqOf_c h]
  rfl
theorem lcL_filterI {α : Type} {gs : List (Nat × List Val)} {lt : LT} {tt : CT} {fe : CE} {env0 : Z.Env} {st : Store} (hh : Holds gs st) (p : α → Bool) (f g : α → Val) : ∀ (ks : List α) (acc : List Val), acc.length + ks.length ≤ 1000000 →
    (∀ k ∈ ks, ∃ env1, ltE lt (f k) env0 st = some env1 ∧ tt env1 st = .ok (p k) st ∧ (p k = true → fe env1 st = .ok (g k) st)) → lcL gs lt tt fe env0 (ks.map f) acc st = .ok (acc ++ (ks.filter p).map g) st := by
  intro ks
  induction ks with
  | nil => intro acc _ _; rw [List.filter_nil, List.map_nil, List.map_nil, List.append_nil]; exact if_pos hh
  | cons x xs ih =>
    intro acc hl h
    obtain ⟨env1, h1, h2, h3⟩ := h x List.mem_cons_self
    rw [List.length_cons] at hl
    rw [List.map_cons]
    unfold lcL
    rw [if_pos ⟨hh, by unfold lim; omega⟩, h1]
    cases hp : p x with
    | true =>
      simp only [h2, hp, h3 hp, e_noEx_ok, e_bind_ok, if_true]
      rw [ih (acc ++ [g x]) (by simp; omega) fun y hy => h y (List.mem_cons_of_mem _ hy), List.filter_cons_of_pos hp]
      simp
    | false =>
      simp only [h2, hp, e_noEx_ok, e_bind_ok, Bool.false_eq_true, if_false]
      rw [ih acc (by omega) fun y hy => h y (List.mem_cons_of_mem _ hy), List.filter_cons_of_neg (by rw [hp]; exact Bool.false_ne_true)]
theorem cutL_mem {α : Type} {xs : List α} {lo hi : Option Int} {x : α} (h : x ∈ cutL xs lo hi) : x ∈ xs := List.mem_of_mem_drop (List.mem_of_mem_take h)
theorem cutL_len {α : Type} (xs : List α) (lo hi : Option Int) : (cutL xs lo hi).length ≤ xs.length := by
  unfold cutL
  rw [List.length_take, List.length_drop]
  omega
/-- what the first hour is -/
def Day.first (D : Day) (many : Int) : PyData := match (List.range D.H).find? (fun h => decide (many ≤ D.M (h + 1) D.P)) with
  | some h => .int (h : Nat)
  | none => .none
end Z

/-! texts of days -/
namespace Z
open PySem L2
theorem textFrom_le : ∀ (ts : List Str) (k : Nat) (acc : Str), (textFrom k acc ts).length ≤ acc.length + piled ts
  | [], k, acc => Nat.le_add_right _ _
  | t :: r, k, acc => by
    have h := textFrom_le r (k + 1) (acc ++ (if k > 0 then ", " else "" : String) ++ t)
    have e : (acc ++ (if k > 0 then ", " else "" : String) ++ t).length ≤ acc.length + 2 + t.length := by
      rw [strLen_append, strLen_append]
      by_cases hk : k > 0
      · rw [if_pos hk]; exact Nat.le_refl _
      · rw [if_neg hk]; have : (("" : String) : Str).length = 0 := rfl; omega
    have p : piled (t :: r) = t.length + 2 + piled r := by simp [piled] <;> omega
    show (textFrom (k + 1) (acc ++ (if k > 0 then ", " else "" : String) ++ t) r).length ≤ _
    omega
theorem listText_le (ts : List Str) : (listText ts).length ≤ piled ts + 2 := by
  have := textFrom_le ts 0 "["
  have e1 : (("[" : String) : Str).length = 1 := rfl
  have e2 : (("]" : String) : Str).length = 1 := rfl
  show (textFrom 0 "[" ts ++ (("]" : String) : Str)).length ≤ _
  rw [strLen_append]
  omega
theorem tupleText_le (ts : List Str) : (tupleText ts).length ≤ piled ts + 4 := by
  have e1 : (("(" : String) : Str).length = 1 := rfl
  have hj : (Str.join ", " ts).length ≤ piled ts := by
    by_cases h : ts = []
    · subst h; exact Nat.le_refl _
    · have := join_length_add ts h; omega
  have e2 : (((if ts.length == 1 then ",)" else ")" : String) : String) : Str).length ≤ 2 := by
    split
    · exact Nat.le_refl _
    · exact Nat.le_succ _
  show (("(" : Str) ++ Str.join ", " ts ++ (if ts.length == 1 then ",)" else ")" : String)).length ≤ _
  rw [strLen_append, strLen_append]
  omega
theorem shown_int_le (i : Int) (h0 : 0 ≤ i) (h1 : i ≤ 1000000000) : (PyData.shown (.int i)).length ≤ 11 := by
  have := int_text_length_le10 (a := i) (k := 10) (by decide) (by omega)
  show (Str.ofString (toString i)).length ≤ 11
  rw [ofString_length]
  omega
theorem piled_le (c : Nat) : ∀ xs : List PyData, (∀ x ∈ xs, (PyData.shown x).length ≤ c) → piled (PyData.shownAll xs) ≤ (c + 2) * xs.length
  | [], _ => Nat.le_refl _
  | x :: xs, h => by
    have i := piled_le c xs fun y hy => h y (List.mem_cons_of_mem _ hy)
    have j := h x List.mem_cons_self
    have p : piled (PyData.shownAll (x :: xs)) = (PyData.shown x).length + 2 + piled (PyData.shownAll xs) := by simp [piled, PyData.shownAll] <;> omega
    rw [p, List.length_cons, Nat.mul_succ]
    omega
theorem shown_ints_le (l : List Int) (h : ∀ z ∈ l, 0 ≤ z ∧ z ≤ 1000000000) : (PyData.shown (dInts l)).length ≤ 13 * l.length + 2 := by
  have := piled_le 11 (l.map PyData.int) fun x hx => by
    obtain ⟨z, hz, rfl⟩ := List.mem_map.mp hx
    exact shown_int_le z (h z hz).1 (h z hz).2
  rw [List.length_map] at this
  have q := listText_le (PyData.shownAll (l.map PyData.int))
  unfold dInts
  rw [PyData.shown]
  omega
theorem DayOk.shown_le {H P : Nat} {W : Int} {D : Day} (o : DayOk H P W D) (hH : H ≤ 48) (hP : P ≤ 8) (hW : W ≤ 1000000) : (PyData.shown D.pd).length ≤ 100000 := by
  have lad : ∀ l, Lad H W l → (PyData.shown (dInts l)).length ≤ 700 := fun l hl => by
    have := shown_ints_le l fun z hz => ⟨(hl.2 z hz).1, by have := (hl.2 z hz).2; omega⟩
    rw [hl.1] at this
    omega
  have c0 := lad _ o.comes
  have c2 := lad _ o.strikes
  have c1 : (PyData.shown (.list (D.pots.map dPot))).length ≤ 8000 := by
    have := piled_le 800 (D.pots.map dPot) fun x hx => by
      obtain ⟨p, hp, rfl⟩ := List.mem_map.mp hx
      obtain ⟨k1, k2, k3, k4⟩ := o.pot p hp
      have a := lad _ k4
      have b := shown_int_le p.1 (by omega) (by omega)
      have t := tupleText_le (PyData.shownAll [.int p.1, dInts p.2])
      have e : piled (PyData.shownAll [.int p.1, dInts p.2]) = (PyData.shown (.int p.1)).length + 2 + ((PyData.shown (dInts p.2)).length + 2) := by simp [piled, PyData.shownAll] <;> omega
      unfold dPot
      rw [PyData.shown]
      omega
    have q := listText_le (PyData.shownAll (D.pots.map dPot))
    rw [List.length_map, o.pots] at this
    rw [PyData.shown]
    have : 802 * P ≤ 802 * 8 := Nat.mul_le_mul_left _ hP
    omega
  have t := tupleText_le (PyData.shownAll [dInts D.comes, .list (D.pots.map dPot), dInts D.strikes])
  have e : piled (PyData.shownAll [dInts D.comes, .list (D.pots.map dPot), dInts D.strikes]) = (PyData.shown (dInts D.comes)).length + 2 + ((PyData.shown (.list (D.pots.map dPot))).length + 2 + ((PyData.shown (dInts D.strikes)).length + 2)) := by simp [piled, PyData.shownAll] <;> omega
  unfold Day.pd
  rw [PyData.shown]
  omega
theorem showable_int (i : Int) (h0 : 0 ≤ i) (h1 : i ≤ 1000000000) : PyData.showable (.int i) = true := by
  rw [PyData.showable, decide_eq_true_eq]
  exact Nat.lt_trans (PySem.Flt.log2_lt_of (k := 30) (by decide) (by omega)) (by decide)
theorem showableAll_of : ∀ xs : List PyData, (∀ x ∈ xs, x.showable = true) → PyData.showableAll xs = true
  | [], _ => rfl
  | x :: xs, h => by rw [PyData.showableAll, h x List.mem_cons_self, showableAll_of xs fun y hy => h y (List.mem_cons_of_mem _ hy)]; rfl
theorem showable_ints (l : List Int) (h : ∀ z ∈ l, 0 ≤ z ∧ z ≤ 1000000000) : (dInts l).showable = true := by
  unfold dInts
  rw [PyData.showable]
  exact showableAll_of _ fun x hx => by
    obtain ⟨z, hz, rfl⟩ := List.mem_map.mp hx
    exact showable_int z (h z hz).1 (h z hz).2
theorem DayOk.showable {H P : Nat} {W : Int} {D : Day} (o : DayOk H P W D) (hW : W ≤ 1000000) : D.pd.showable = true := by
  have lad : ∀ l, Lad H W l → (dInts l).showable = true := fun l hl => showable_ints l fun z hz => ⟨(hl.2 z hz).1, by have := (hl.2 z hz).2; omega⟩
  unfold Day.pd
  rw [PyData.showable]
  refine showableAll_of _ fun x hx => ?_
  simp only [List.mem_cons, List.not_mem_nil, or_false] at hx
  rcases hx with rfl | rfl | rfl
  · exact lad _ o.comes
  · rw [PyData.showable]
    refine showableAll_of _ fun x hx => ?_
    obtain ⟨p, hp, rfl⟩ := List.mem_map.mp hx
    obtain ⟨k1, k2, k3, k4⟩ := o.pot p hp
    unfold dPot
    rw [PyData.showable]
    refine showableAll_of _ fun x hx => ?_
    simp only [List.mem_cons, List.not_mem_nil, or_false] at hx
    rcases hx with rfl | rfl
    · exact showable_int _ (by omega) (by omega)
    · exact lad _ k4
  · exact lad _ o.strikes
theorem depthAll_le (k : Nat) : ∀ xs : List PyData, (∀ x ∈ xs, x.depth ≤ k) → PyData.depthAll xs ≤ k
  | [], _ => Nat.zero_le _
  | x :: xs, h => by
    rw [PyData.depthAll]
    have := h x List.mem_cons_self
    have := depthAll_le k xs fun y hy => h y (List.mem_cons_of_mem _ hy)
    omega
theorem Day.depth_le (D : Day) : D.pd.depth ≤ 4 := by
  unfold Day.pd
  rw [PyData.depth]
  have := depthAll_le 3 [dInts D.comes, .list (D.pots.map dPot), dInts D.strikes] fun x hx => by
    simp only [List.mem_cons, List.not_mem_nil, or_false] at hx
    rcases hx with rfl | rfl | rfl
    · rw [depth_dInts]; omega
    · rw [PyData.depth]
      have := depthAll_le 2 (D.pots.map dPot) fun x hx => by
        obtain ⟨p, hp, rfl⟩ := List.mem_map.mp hx
        unfold dPot
        rw [PyData.depth]
        have := depthAll_le 1 [.int p.1, dInts p.2] fun x hx => by
          simp only [List.mem_cons, List.not_mem_nil, or_false] at hx
          rcases hx with rfl | rfl
          · exact Nat.zero_le _
          · rw [depth_dInts]; omega
        omega
      omega
    · rw [depth_dInts]; omega
  omega
theorem repr_ok {H P : Nat} {W : Int} {D : Day} (o : DayOk H P W D) (hH : H ≤ 48) (hP : P ≤ 8) (hW : W ≤ 1000000) (st : Store) : sRepr [.d D.pd] st = .ok (.d (.str (PyData.shown D.pd))) st := by
  show (match deepV 16 st (.d D.pd) with
    | some d => if shOk d then R.ok (Val.d (.str d.shown)) st else R.no
    | none => R.no) = _
  rw [deepV_d]
  have h1 := o.shown_le hH hP hW
  have h2 := D.depth_le
  exact if_pos ⟨o.showable hW, by omega, by rw [sizeLine_eq]; omega⟩
theorem eq_str (st : Store) (a : Str) : vCmp .NotEq (.d (.str a)) (.d (.str a)) st = some false := by
  rw [e_neD st _ _ (by show min (0 : Nat) 0 ≤ 60; omega)]
  have : PyData.eqv (.str a) (.str a) = true := by simp [PyData.eqv]
  rw [this]
  rfl
end Z

/-! a day, its lists lists or tuples in any way -/
namespace Z
open PySem L2
structure DayV (D : Day) (y : PyData) : Prop where
  ex : ∃ (t0 t1 t2 : Bool) (ks : List PyData), y = .tuple [sq t0 (D.comes.map PyData.int), sq t1 ks, sq t2 (D.strikes.map PyData.int)] ∧ ks.length = D.P ∧ ∀ (p : Nat) (r : Int) (l : List Int), D.pots[p]? = some (r, l) → ∃ t, ks[p]? = some (PyData.tuple [.int r, sq t (l.map PyData.int)])
theorem DayV.pdv (D : Day) (t : Bool) : DayV D (D.pdv t) := ⟨t, t, t, _, rfl, by simp [Day.P], fun p r l h => ⟨t, by simp [h]⟩⟩
theorem DayV.pd (D : Day) : DayV D D.pd := DayV.pdv D false
end Z

/-! a day with more at a place -/
namespace Z
open PySem L2
def inc (l : List Int) : List Int := l.map (· + 1)
def Day.more (D : Day) (p : Nat) : Day := if p = D.P then ⟨D.comes, D.pots, inc D.strikes⟩ else ⟨D.comes, D.pots.set p (D.room p + 1, inc (D.pots.getD p (0, [])).2), D.strikes⟩
theorem more_H (D : Day) (p : Nat) : (D.more p).H = D.H := by unfold Day.more; split <;> rfl
theorem more_P (D : Day) (p : Nat) : (D.more p).P = D.P := by
  unfold Day.more; split
  · rfl
  · exact List.length_set
theorem inc_len (l : List Int) : (inc l).length = l.length := by simp [inc]
theorem more_shape {D : Day} (s : D.Shape) {p : Nat} (hp : p ≤ D.P) : (D.more p).Shape := by
  unfold Day.more
  by_cases e : p = D.P
  · rw [if_pos e]
    exact ⟨(inc_len _).trans s.st, s.tk⟩
  · rw [if_neg e]
    refine ⟨s.st, fun q hq => ?_⟩
    rcases List.mem_or_eq_of_mem_set hq with hq | hq
    · exact s.tk q hq
    · rw [hq]
      show (inc (D.pots.getD p (0, [])).2).length = _
      rw [inc_len, List.getD_eq_getElem?_getD, List.getElem?_eq_getElem (show p < D.pots.length by show p < D.P; omega)]
      exact s.tk _ (List.getElem_mem _)
/-- a comprehension that adds one to each -/
theorem inc_lc (l : List Int) (i : Nat) (env0 : Z.Env) (st : Store) (hl : l.length ≤ 100000) (hi : i < env0.length) : lcL [] (.n i) tYesT (bBin false .Add (bVar i) (bC (.int 1))) env0 ((l.map PyData.int).map Val.d) [] st = .ok (dI (inc l)) st := by
  have := lcL_mapI (gs := []) (lt := .n i) (tt := tYesT) (fe := (bBin false .Add (bVar i) (bC (.int 1)))) (env0 := env0) (st := st) (holds0 st) (fun z : Int => Val.d (.int z)) (fun z => .d (.int (z + 1))) l [] (by simp; omega)
    fun z _ => ⟨_, rfl, rfl, by simp [List.getElem?_set, hi]⟩
  have e : (l.map PyData.int).map Val.d = l.map fun z : Int => Val.d (.int z) := by rw [List.map_map]; rfl
  rw [e, this]
  simp [dI, inc]
theorem slSqTo (t : Bool) (st : Store) (xs : List PyData) (n : Nat) (h : xs.length ≤ 1000000) : vSl false (.d (sq t xs)) none (some (n : Int)) st = .ok (.d (sq t (xs.take n))) st := by
  cases t
  · exact slTo st xs n h
  · show vSl false (.d (.tuple xs)) none (some (n : Int)) st = _
    rw [e_slT, cutL_map, cutL_to, mkT_d _ _ (by simp; omega)]
    rfl
theorem slSqFrom1 (t : Bool) (st : Store) (xs : List PyData) (n : Nat) (h : xs.length ≤ 1000000) : vSl false (.d (sq t xs)) (some ((n : Int) + 1)) none st = .ok (.d (sq t (xs.drop (n + 1)))) st := by
  cases t
  · exact slFrom1 st xs n h
  · show vSl false (.d (.tuple xs)) (some (((n + 1 : Nat)) : Int)) none st = _
    rw [e_slT, cutL_map, cutL_from, mkT_d _ _ (by simp; omega)]
    rfl
theorem listSq (t : Bool) (st : Store) (xs : List PyData) (h : xs.length ≤ 1000000) : sList false [.d (sq t xs)] st = .ok (.d (.list xs)) st := by
  cases t
  · show sList false [.d (.list xs)] st = _
    rw [e_listL, mkL_f _ _ h]
  · show sList false [.d (.tuple xs)] st = _
    rw [e_listT, mkL_f _ _ h]
theorem moreV {D : Day} {t0 t1 t2 : Bool} {ks : List PyData} (hk : ks.length = D.P) (hks : ∀ (p : Nat) (r : Int) (l : List Int), D.pots[p]? = some (r, l) → ∃ t, ks[p]? = some (PyData.tuple [.int r, sq t (l.map PyData.int)])) {p : Nat} (hp : p < D.P) {l : List Int} (hl : D.pots[p]? = some (D.room p, l)) :
    DayV (D.more p) (.tuple [sq t0 (D.comes.map PyData.int), .list (ks.take p ++ [.tuple [.int (D.room p + 1), dInts (inc l)]] ++ ks.drop (p + 1)), sq t2 (D.strikes.map PyData.int)]) := by
  have hg : (D.pots.getD p (0, [])).2 = l := by rw [List.getD_eq_getElem?_getD, hl]; rfl
  have hs : ks.take p ++ [PyData.tuple [.int (D.room p + 1), dInts (inc l)]] ++ ks.drop (p + 1) = ks.set p (.tuple [.int (D.room p + 1), dInts (inc l)]) := by
    rw [List.set_eq_take_append_cons_drop, if_pos (by omega)]
    simp
  have hm : D.more p = ⟨D.comes, D.pots.set p (D.room p + 1, inc l), D.strikes⟩ := by
    unfold Day.more
    rw [if_neg (by omega), hg]
  rw [hs, hm]
  refine ⟨t0, false, t2, _, rfl, ?_, fun q r l' h => ?_⟩
  · rw [List.length_set, hk]
    show D.pots.length = (D.pots.set p _).length
    rw [List.length_set]
  · have h : (D.pots.set p (D.room p + 1, inc l))[q]? = some (r, l') := h
    by_cases e : q = p
    · subst e
      rw [List.getElem?_set_self (show q < D.pots.length from hp)] at h
      cases h
      exact ⟨false, by rw [List.getElem?_set_self (by omega)]; rfl⟩
    · rw [List.getElem?_set_ne (Ne.symm e)] at h
      rw [List.getElem?_set_ne (Ne.symm e)]
      exact hks q r l' h
def Day.str (D : Day) : Int := D.M D.H D.P
def Day.bindN (D : Day) : List Nat := (List.range (D.P + 1)).filter fun p => decide (D.str < (D.more p).str)
def Day.bindL (D : Day) : List Int := D.bindN.map fun p => ((p : Nat) : Int)
theorem sums_last (D : Day) (st : Store) : ixG (.d D.sumsD) st (-1) = .ok (.d (.list (D.rowD D.P (D.H + 1)))) st := by
  unfold Day.sumsD
  rw [e_ixL, atI_neg1]
  simp
theorem row_last (D : Day) (st : Store) : ixG (.d (.list (D.rowD D.P (D.H + 1)))) st (-1) = .ok (.d (.int D.str)) st := by
  rw [e_ixL, atI_neg1]
  simp [Day.rowD, Day.str]
theorem bindL_len (D : Day) : D.bindL.length ≤ D.P + 1 := by
  unfold Day.bindL Day.bindN
  rw [List.length_map]
  exact Nat.le_trans (List.length_filter_le _ _) (by simp)
end Z

/-! plans as lists of one's own -/
namespace Z
open PySem L2
theorem zips_map {α : Type} (f g : α → Val) : ∀ ks : List α, zips (ks.map f) (ks.map g) = ks.map fun k => tupV [f k, g k]
  | [] => rfl
  | k :: ks => by
    show tupV [f k, g k] :: zips (ks.map f) (ks.map g) = _
    rw [zips_map f g ks]
    rfl
theorem zip_cd {st : Store} {n : Nat} {xs : List Val} {ys : List PyData} (h : st[n]? = some (some xs)) : zipL [.c n, .d (.list ys)] st = .ok ⟨zips xs (ys.map Val.d), [(n, xs)]⟩ st := by
  show (match seqOf st (.c n), seqOf st (.d (.list ys)) with
    | some (Sk.l, xs), some (Sk.l, zs) => R.ok (Wk.mk (zips xs zs) (gsOf (.c n) xs ++ gsOf (.d (.list ys)) zs)) st
    | some (Sk.t, xs), some (Sk.t, zs) => R.ok (Wk.mk (zips xs zs) (gsOf (.c n) xs ++ gsOf (.d (.list ys)) zs)) st
    | _, _ => R.no) = _
  rw [seqOf_c h]
  rfl
theorem inst_c {st : Store} {n : Nat} {xs : List Val} (ts : List Ty) {b : Bool} (h : st[n]? = some (some xs)) (hb : (ts.any fun T => Tg.list.is T) = b) : vInst ts (.c n) st = .ok b st := by
  show (if alive st (.c n) = true then R.ok (ts.any fun T => Tg.list.is T) st else R.no) = _
  rw [if_pos (by unfold alive; simp only [h]), hb]
/-- lists made one by one, each its own -/
theorem lc_rowsF {gs : List (Nat × List Val)} {lt : LT} {fe : CE} {env0 : Z.Env} (st : Store) (n : Nat) (f : Nat → Val) (v : Nat → List Val) (hn : n ≤ 1000000) (hh : ∀ j, Holds gs (st ++ (List.range j).map fun p => some (v p)))
    (h : ∀ j, j < n → ∀ st' : Store, ∃ env1, ltE lt (f j) env0 st' = some env1 ∧ fe env1 st' = .ok (.c st'.length) (st' ++ [some (v j)])) :
    lcL gs lt tYesT fe env0 ((List.range n).map f) [] st = .ok (topV st.length n) (st ++ (List.range n).map fun p => some (v p)) := by
  obtain ⟨acc, st', l1, l2, l3⟩ := lcL_inv (gs := gs) (lt := lt) (tt := tYesT) (fe := fe) (env0 := env0) (fun j acc st' => acc = topV st.length j ∧ st' = st ++ (List.range j).map fun p => some (v p)) ((List.range n).map f) 0 [] st ⟨rfl, by simp⟩
    (fun j acc st' _ _ h => ⟨by rw [h.2]; exact hh j, by rw [h.1]; simp [topV]⟩) (by simp; omega) (fun j x acc st' hx hI => by
      have hj : j < n := by have := (List.getElem?_eq_some_iff.mp hx).1; simpa using this
      rw [List.getElem?_map, List.getElem?_range hj] at hx
      obtain rfl : f j = x := Option.some.inj hx
      obtain ⟨env1, a1, a2⟩ := h j hj st'
      refine ⟨env1, st', _, _, a1, rfl, a2, ?_, ?_⟩
      · rw [hI.1, hI.2]
        simp [topV, List.range_succ]
      · rw [hI.2]
        simp [List.range_succ])
  have hl : ((List.range n).map f).length = n := by simp
  rw [l1, l2, l3, hl, Nat.zero_add]
theorem rows_mkF (st : Store) (n : Nat) (v : Nat → List Val) (hn : n ≤ 1000000) : mkL true (topV st.length n) (st ++ (List.range n).map fun p => some (v p)) = .ok (.c (st.length + n)) (rowsSt st n v) := by
  rw [mkL_c _ _ (by simpa [topV] using hn)]
  simp [rowsSt]
end Z

/-! where nothing binds -/
namespace Z
open PySem L2
theorem M_up {D : Day} (c : Int) (hc : 0 ≤ c) (h : ∀ h, D.come h ≤ c) : ∀ k p, p ≤ D.P → D.M k p ≤ c
  | 0, p, _ => hc
  | k + 1, p, hp => by
    have a := h k
    by_cases e : p < D.P
    · rw [D.M_low k p e]
      by_cases e2 : 0 < p
      · have := M_up c hc h k (p - 1) (by omega)
        rw [if_pos e2]; omega
      · rw [if_neg e2]; omega
    · obtain rfl : p = D.P := by omega
      rw [D.M_top k]
      by_cases e2 : 0 < D.P
      · have := M_up c hc h k (D.P - 1) (by omega)
        rw [if_pos e2]; omega
      · rw [if_neg e2]; omega
theorem more_come (D : Day) (p h : Nat) : (D.more p).come h = D.come h := by unfold Day.more; split <;> rfl
theorem bind_none {D : Day} (h : ∀ p, p ≤ D.P → (D.more p).str ≤ D.str) : D.bindL = [] := by
  unfold Day.bindL Day.bindN
  rw [List.filter_eq_nil_iff.mpr, List.map_nil]
  intro p hp
  have hp : p < D.P + 1 := by simpa using hp
  have := h p (by omega)
  simp
  omega
theorem bind_zero {H P : Nat} {W : Int} {D : Day} (o : DayOk H P W D) (h : ∀ h, D.come h ≤ 0) : D.bindL = [] := bind_none fun p hp => by
  have a := o.M_nn D.H (Nat.le_refl _) D.P (Nat.le_refl _)
  have b := M_up (D := D.more p) 0 (Int.le_refl _) (fun k => by rw [more_come]; exact h k) (D.more p).H (D.more p).P (Nat.le_refl _)
  exact Int.le_trans b a
theorem zero_come (n : Nat) (ks : List (Int × List Int)) (ss : List Int) (h : Nat) : (Day.mk (List.replicate n 0) ks ss).come h ≤ 0 := by
  show ((List.replicate n (0 : Int)).take (h + 1)).sum ≤ 0
  rw [List.take_replicate]
  simp
/-- none is struck -/
theorem bind_still {H P : Nat} {W : Int} {D : Day} (o : DayOk H P W D) (hs : ∀ z ∈ D.strikes, z = 0) : D.bindL = [] ∨ D.bindL = [(D.P : Int)] := by
  have a := o.M_nn D.H (Nat.le_refl _) D.P (Nat.le_refl _)
  have key : ∀ p, p < D.P → (D.more p).str ≤ D.str := fun p hp => by
    have hm : D.more p = ⟨D.comes, D.pots.set p (D.room p + 1, inc (D.pots.getD p (0, [])).2), D.strikes⟩ := by unfold Day.more; rw [if_neg (by omega)]
    have hz : ∀ h, (D.more p).may (D.more p).P h = 0 := fun h => by
      unfold Day.may
      rw [if_neg (Nat.lt_irrefl _), hm, List.getD_eq_getElem?_getD]
      cases e : D.strikes[h]? with
      | none => rfl
      | some z => exact hs z (List.mem_of_getElem? e)
    have : ∀ k, (D.more p).M k (D.more p).P ≤ 0 := fun k => by
      induction k with
      | zero => exact Int.le_refl _
      | succ k ih => rw [(D.more p).M_top k, hz k]; omega
    exact Int.le_trans (this _) a
  unfold Day.bindL Day.bindN
  rw [List.range_succ, List.filter_append, List.filter_eq_nil_iff.mpr fun p hp => by have hp : p < D.P := by simpa using hp
                                                                                     have := key p hp
                                                                                     simp; omega]
  by_cases e : D.str < (D.more D.P).str
  · right; simp [e]
  · left; simp [e]
def freeDay (P : Nat) : Day := ⟨[3] ++ List.replicate 8 0, List.replicate P (3, List.replicate 9 3), List.replicate 9 3⟩
theorem free_ok (P : Nat) : DayOk 9 P 3 (freeDay P) := by
  refine ⟨⟨rfl, fun z hz => ?_⟩, ⟨rfl, fun z hz => ?_⟩, by simp [freeDay], fun p hp => ?_⟩
  · rcases List.mem_append.mp (show z ∈ [3] ++ List.replicate 8 (0 : Int) from hz) with h | h
    · rw [List.mem_singleton.mp h]; decide
    · rw [(List.mem_replicate.mp h).2]; decide
  · rw [(List.mem_replicate.mp (show z ∈ List.replicate 9 (3 : Int) from hz)).2]; decide
  · rw [(List.mem_replicate.mp (show p ∈ List.replicate P ((3 : Int), List.replicate 9 (3 : Int)) from hp)).2]
    exact ⟨by decide, by decide, by decide, rfl, fun z hz => by rw [(List.mem_replicate.mp hz).2]; decide⟩
theorem free_come (P h : Nat) : (freeDay P).come h = 3 := by
  show (([3] ++ List.replicate 8 (0 : Int)).take (h + 1)).sum = 3
  rw [List.singleton_append, List.take_succ_cons, List.take_replicate, List.sum_cons]
  simp
theorem free_P (P : Nat) : (freeDay P).P = P := by simp [freeDay, Day.P]
theorem free_get (h : Nat) (hh : h < 9) : (List.replicate 9 (3 : Int)).getD h 0 = 3 := by
  have : ∀ h, h < 9 → (List.replicate 9 (3 : Int)).getD h 0 = 3 := by decide
  exact this h hh
theorem free_may (P p h : Nat) (hp : p ≤ P) (hh : h < 9) : (freeDay P).may p h = 3 := by
  unfold Day.may
  rw [free_P]
  by_cases e : p < P
  · rw [if_pos e]
    have : (freeDay P).pots.getD p (0, []) = (3, List.replicate 9 3) := by
      show (List.replicate P ((3 : Int), List.replicate 9 (3 : Int))).getD p (0, []) = _
      rw [List.getD_eq_getElem?_getD, List.getElem?_replicate, if_pos e]
      rfl
    rw [this]
    exact free_get h hh
  · rw [if_neg e]
    exact free_get h hh
theorem free_room (P p : Nat) (hp : p < P) : (freeDay P).room p = 3 := by
  unfold Day.room
  simp [freeDay, List.getD_eq_getElem?_getD, List.getElem?_replicate, hp]
theorem free_M (P : Nat) : ∀ h, h ≤ 9 → ∀ k p, p + k = P → (freeDay P).M h p = if p < h then 3 else 0
  | 0, _, k, p, _ => by rw [if_neg (Nat.not_lt_zero _)]; rfl
  | h + 1, hh, 0, p, hp => by
    obtain rfl : p = P := hp
    have t := (freeDay p).M_top h
    rw [free_P] at t
    rw [t, free_may p p h (Nat.le_refl _) (by omega), free_M p h (by omega) 0 p rfl]
    by_cases e : 0 < p
    · rw [if_pos e, free_M p h (by omega) 1 (p - 1) (by omega)]
      by_cases e1 : p < h
      · rw [if_pos e1, if_pos (by omega), if_pos (by omega)]; omega
      · by_cases e2 : p - 1 < h
        · rw [if_neg e1, if_pos e2, if_pos (by omega)]; omega
        · rw [if_neg e1, if_neg e2, if_neg (by omega)]; omega
    · rw [if_neg e, free_come]
      obtain rfl : p = 0 := by omega
      by_cases e1 : 0 < h
      · rw [if_pos e1, if_pos (by omega)]; omega
      · rw [if_neg e1, if_pos (by omega)]; omega
  | h + 1, hh, k + 1, p, hp => by
    have t := (freeDay P).M_low h p (by rw [free_P]; omega)
    rw [t, free_may P p h (by omega) (by omega), free_room P p (by omega), free_M P h (by omega) (k + 1) p hp, free_M P (h + 1) hh k (p + 1) (by omega)]
    by_cases e : 0 < p
    · rw [if_pos e, free_M P h (by omega) (k + 2) (p - 1) (by omega)]
      by_cases e1 : p < h
      · rw [if_pos e1, if_pos (show p - 1 < h by omega), if_pos (show p < h + 1 by omega)]; split <;> omega
      · by_cases e2 : p - 1 < h
        · rw [if_neg e1, if_pos e2, if_pos (show p < h + 1 by omega)]; split <;> omega
        · rw [if_neg e1, if_neg e2, if_neg (show ¬ p < h + 1 by omega)]; split <;> omega
    · rw [if_neg e, free_come]
      obtain rfl : p = 0 := by omega
      by_cases e1 : 0 < h
      · rw [if_pos e1, if_pos (show 0 < h + 1 by omega)]; split <;> omega
      · rw [if_neg e1, if_pos (show 0 < h + 1 by omega)]; split <;> omega
theorem bind_free (P : Nat) (hP : P ≤ 8) : (freeDay P).bindL = [] := bind_none fun p hp => by
  have a : (freeDay P).str = 3 := by
    show (freeDay P).M 9 (freeDay P).P = 3
    rw [free_P, free_M P 9 (Nat.le_refl _) 0 P rfl, if_pos (by omega)]
  have b := M_up (D := (freeDay P).more p) 3 (by decide) (fun k => by rw [more_come, free_come]; exact Int.le_refl _) ((freeDay P).more p).H ((freeDay P).more p).P (Nat.le_refl _)
  rw [a]
  exact b
/-! ### comparisons of lists of one's own -/
theorem ne_cell {st : Store} {n : Nat} (h : st[n]? = some (some [])) : vCmp .NotEq (.c n) (.d (.list [])) st = some false := by
  have e : vCmp .NotEq (.c n) (.d (.list [])) st = (vEqv st (.c n) (.d (.list []))).map (!·) := rfl
  have d : deepV 16 st (.c n) = some (.list []) := deep_c (ds := []) h
  rw [e]
  unfold vEqv
  rw [d, deepV_d]
  decide
theorem notin_cell {st : Store} {n : Nat} {l : List Int} {p : Int} (h : st[n]? = some (some (dI l))) (hl : l = [] ∨ l = [p]) : vCmp .NotIn (.c n) (.d (.tuple [.list [], .list [.int p]])) st = some false := by
  have e : vCmp .NotIn (.c n) (.d (.tuple [.list [], .list [.int p]])) st = (vIn st (.c n) (.d (.tuple [.list [], .list [.int p]]))).map (!·) := rfl
  have d : deepV 16 st (.c n) = some (dInts l) := by
    have : dI l = (l.map PyData.int).map Val.d := by rw [List.map_map]; rfl
    rw [this] at h
    exact deep_c h
  rw [e]
  unfold vIn
  rw [d, deepV_d]
  simp only []
  rw [if_pos (by rw [depth_dInts]; omega)]
  rcases hl with rfl | rfl
  · simp [PyData.eqv, dInts, PyData.eqvAll]
  · have := eqv_ints [p] [p]
    simp only [decide_true] at this
    show Option.map (!·) (some (([.list [], .list [.int p]] : List PyData).any fun e => PyData.eqv e (dInts [p]))) = _
    rw [List.any_cons, List.any_cons, show PyData.eqv (.list [.int p]) (dInts [p]) = true from this]
    simp
end Z

namespace Gk67
open PySem PySem.Spec PyProof.Rows L2 Z
/-! ### the text -/
def topS (i : Nat) : Stmt := PySem.Challenge.pw_kettlerow_k67_places_that_bind.main.body.getD i (.Pass ⟨0, 0, 0, 0⟩)
structure Blt (mg : Str → Option Value) : Prop where
  abs_ : mg "abs" = none
  all : mg "all" = none
  bool : mg "bool" = none
  enumerate : mg "enumerate" = none
  int_ : mg "int" = none
  isinstance : mg "isinstance" = none
  len : mg "len" = none
  list_ : mg "list" = none
  max : mg "max" = none
  min : mg "min" = none
  range : mg "range" = none
  repr : mg "repr" = none
  reversed : mg "reversed" = none
  str : mg "str" = none
  sum : mg "sum" = none
  tuple_ : mg "tuple" = none
  zip : mg "zip" = none
/-! ### may_take -/
abbrev s1 : Stmt := topS 1
theorem sc1 : FnScope ["day", "place", "hour"] ["day", "place", "hour"] (defScope s1) := ⟨rfl, rfl, rfl, by decide +kernel, rfl, by decide +kernel, by decide +kernel⟩
noncomputable def Fmay_take : Fn := fnB 3 0
  (kSeq (kIf (bCmpT .Lt (bVar 1) (bCallB sLen [(bIx (bVar 0) (bC (.int 1)))])) (kRet (bIx (bIx (bIx (bIx (bVar 0) (bC (.int 1))) (bVar 1)) (bC (.int 1))) (bVar 2))) kNil) (kRet (bIx (bIx (bVar 0) (bC (.int 2))) (bVar 2))))
theorem calmay_take {P : Program} {w : World} {K : PySem.W.Frag} {mg : Str → Option Value} {base : Heap} {f : Addr} {fd : FuncData} (B : Blt mg) (F : Fun K "may_take" "may_take" s1 f fd) (g : mg "may_take" = some (.ref f)) : Cal P w K mg base 1 "may_take" 3 Fmay_take := by
  refine ⟨f, fd, ["day", "place", "hour"], fn_ok (k := 0) F sc1 rfl rfl ?_, g, F.kp, (F.binds fun _ _ _ _ _ _ us hl => match us, hl with | [_, _, _], _ => rfl)⟩
  exact fun cdv A outer s H E hG hr => by
    have hu := hr.units
    exact (s_cons (s_if (t_cmp hu (c_pv 1) (c_callB bo_len (by rfl) B.len (by decide +kernel) (c_cons (c_ix (c_pv 0) c_int) c_nil)) (nomark _)) (s_one (s_ret (c_ix (c_ix (c_ix (c_ix (c_pv 0) c_int) (c_pv 1)) c_int) (c_pv 2)))) s_nil) (s_one (s_ret (c_ix (c_ix (c_pv 0) c_int) (c_pv 2)))))
/-! ### come_by -/
abbrev s2 : Stmt := topS 2
theorem sc2 : FnScope ["day", "hour"] ["day", "hour"] (defScope s2) := ⟨rfl, rfl, rfl, by decide +kernel, rfl, by decide +kernel, by decide +kernel⟩
noncomputable def Fcome_by : Fn := fnB 2 0
  (kRet (bCallB sSum [(bSl false (bIx (bVar 0) (bC (.int 0))) oNo (oAt (bBin false .Add (bVar 1) (bC (.int 1)))))]))
theorem calcome_by {P : Program} {w : World} {K : PySem.W.Frag} {mg : Str → Option Value} {base : Heap} {f : Addr} {fd : FuncData} (B : Blt mg) (F : Fun K "come_by" "come_by" s2 f fd) (g : mg "come_by" = some (.ref f)) : Cal P w K mg base 1 "come_by" 2 Fcome_by := by
  refine ⟨f, fd, ["day", "hour"], fn_ok (k := 0) F sc2 rfl rfl ?_, g, F.kp, (F.binds fun _ _ _ _ _ _ us hl => match us, hl with | [_, _], _ => rfl)⟩
  exact fun cdv A outer s H E hG hr => by
    have hu := hr.units
    exact (s_one (s_ret (c_callB (bo_sum rfl) (by rfl) B.sum (by decide +kernel) (c_cons (c_sl false (c_ix (c_pv 0) c_int) o_no (o_at (c_bin false (c_pv 1) c_int))) c_nil))))
/-! ### least_bound -/
abbrev s4 : Stmt := topS 4
theorem sc4 : FnScope ["day", "sums", "place", "hour", "found", "others", "other"] ["day", "sums", "place", "hour"] (defScope s4) := ⟨rfl, rfl, rfl, by decide +kernel, rfl, by decide +kernel, by decide +kernel⟩
noncomputable def Lleast_bound_1 : CS :=
  (kIf (bCmpT .Lt (bIx (bVar 6) (bC (.int 0))) (bIx (bVar 4) (bC (.int 0)))) (kSet 4 (bVar 6)) kNil)
noncomputable def Fleast_bound : Fn := fnB 4 3
  (kSeq (kSet 4 (bTup [(bBin false .Add (bIx (bIx (bVar 1) (bVar 2)) (bVar 3)) (bCall 3 Fmay_take [(bVar 0), (bVar 2), (bVar 3)])), (bTup [(bC (.str "takes")), (bVar 2), (bVar 3)])])) (kSeq (kSet 5 (bLst true [(bTup [(bCall 2 Fcome_by [(bVar 0), (bVar 3)]), (bTup [(bC (.str "comes")), (bC (.int 0)), (bVar 3)])])])) (kSeq (kIf (bCmpT .Gt (bVar 2) (bC (.int 0))) (kSet 5 (bLst true [(bTup [(bIx (bIx (bVar 1) (bBin false .Sub (bVar 2) (bC (.int 1)))) (bVar 3)), (bTup [(bC (.str "ahead")), (bVar 2), (bVar 3)])])])) kNil) (kSeq (kIf (bCmpT .Lt (bVar 2) (bCallB sLen [(bIx (bVar 0) (bC (.int 1)))])) (kDrop (bMeth mAppend (bVar 5) [(bTup [(bBin false .Add (bIx (bIx (bVar 1) (bBin false .Add (bVar 2) (bC (.int 1)))) (bBin false .Add (bVar 3) (bC (.int 1)))) (bIx (bIx (bIx (bVar 0) (bC (.int 1))) (bVar 2)) (bC (.int 0)))), (bTup [(bC (.str "room")), (bVar 2), (bVar 3)])])])) kNil) (kSeq (kFor (iSeq (bVar 5)) (tgN 6) Lleast_bound_1) (kRet (bVar 4)))))))
theorem calleast_bound {P : Program} {w : World} {K : PySem.W.Frag} {mg : Str → Option Value} {base : Heap} {f : Addr} {fd : FuncData} (B : Blt mg) (F : Fun K "least_bound" "least_bound" s4 f fd) (g : mg "least_bound" = some (.ref f)) (Cmay_take : Cal P w K mg base 1 "may_take" 3 Fmay_take) (Ccome_by : Cal P w K mg base 1 "come_by" 2 Fcome_by) : Cal P w K mg base 2 "least_bound" 4 Fleast_bound := by
  refine ⟨f, fd, ["day", "sums", "place", "hour"], fn_ok (k := 1) F sc4 rfl rfl ?_, g, F.kp, (F.binds fun _ _ _ _ _ _ us hl => match us, hl with | [_, _, _, _], _ => rfl)⟩
  exact fun cdv A outer s H E hG hr => by
    have hu := hr.units
    exact (s_cons (s_set (i := 4) sc4.nd rfl (Or.inl rfl) (c_tup (c_cons (c_bin false (c_ix (c_ix (c_pv 1) (c_pv 2)) (c_pv 3)) (c_cal Cmay_take hG (hr.mono (by decide)) (by rfl) (fun _ => passes0) (c_cons (c_pv 0) (c_cons (c_pv 2) (c_cons (c_pv 3) c_nil))))) (c_cons (c_tup (c_cons c_str (c_cons (c_pv 2) (c_cons (c_pv 3) c_nil)))) c_nil)))) (s_cons (s_set (i := 5) sc4.nd rfl (Or.inl rfl) (c_lst true (c_cons (c_tup (c_cons (c_cal Ccome_by hG (hr.mono (by decide)) (by rfl) (fun _ => passes0) (c_cons (c_pv 0) (c_cons (c_pv 3) c_nil))) (c_cons (c_tup (c_cons c_str (c_cons c_int (c_cons (c_pv 3) c_nil)))) c_nil))) c_nil))) (s_cons (s_if (t_cmp hu (c_pv 2) c_int (nomark _)) (s_one (s_set (i := 5) sc4.nd rfl (Or.inl rfl) (c_lst true (c_cons (c_tup (c_cons (c_ix (c_ix (c_pv 1) (c_bin false (c_pv 2) c_int)) (c_pv 3)) (c_cons (c_tup (c_cons c_str (c_cons (c_pv 2) (c_cons (c_pv 3) c_nil)))) c_nil))) c_nil)))) s_nil) (s_cons (s_if (t_cmp hu (c_pv 2) (c_callB bo_len (by rfl) B.len (by decide +kernel) (c_cons (c_ix (c_pv 0) c_int) c_nil)) (nomark _)) (s_one (s_drop (c_meth mo_append (fun _ _ h1 h2 => pe_bm PySem.F.plainAttrs_list PySem.F.slot_list_append PySem.F.type_list_append mt_W h1 h2) (c_pv 5) (c_cons (c_tup (c_cons (c_bin false (c_ix (c_ix (c_pv 1) (c_bin false (c_pv 2) c_int)) (c_bin false (c_pv 3) c_int)) (c_ix (c_ix (c_ix (c_pv 0) c_int) (c_pv 2)) c_int)) (c_cons (c_tup (c_cons c_str (c_cons (c_pv 2) (c_cons (c_pv 3) c_nil)))) c_nil))) c_nil)))) s_nil) (s_cons (s_for PassesOwn.never rfl (i_seq (c_pv 5)) (g_name (i := 6) sc4.nd rfl (Or.inl rfl)) (s_one (s_if (t_cmp hu (c_ix (c_pv 6) c_int) (c_ix (c_pv 4) c_int) (nomark _)) (s_one (s_set (i := 4) sc4.nd rfl (Or.inl rfl) (c_pv 6))) s_nil))) (s_one (s_ret (c_pv 4))))))))
/-! ### most_sums -/
abbrev s5 : Stmt := topS 5
theorem sc5 : FnScope ["day", "places", "sums", "hour", "place"] ["day"] (defScope s5) := ⟨rfl, rfl, rfl, by decide +kernel, rfl, by decide +kernel, by decide +kernel⟩
noncomputable def Lmost_sums_1 : CS :=
  (kDrop (bMeth mAppend (bIx (bVar 2) (bVar 4)) [(bIx (bCall 4 Fleast_bound [(bVar 0), (bVar 2), (bVar 4), (bVar 3)]) (bC (.int 0)))]))
noncomputable def Lmost_sums_2 : CS :=
  (kFor (iRng revR [(bVar 1)]) (tgN 4) Lmost_sums_1)
noncomputable def Fmost_sums : Fn := fnB 1 4
  (kSeq (kSet 1 (bBin false .Add (bCallB sLen [(bIx (bVar 0) (bC (.int 1)))]) (bC (.int 1)))) (kSeq (kSet 2 (bLc true [4] (iRng rng1 [(bVar 1)]) (.n 4) tYesT (bLst true [(bC (.int 0))]))) (kSeq (kFor (iRng rng1 [(bCallB sLen [(bIx (bVar 0) (bC (.int 0)))])]) (tgN 3) Lmost_sums_2) (kRet (bFrz (bVar 2))))))
theorem calmost_sums {P : Program} {w : World} {K : PySem.W.Frag} {mg : Str → Option Value} {base : Heap} {f : Addr} {fd : FuncData} (B : Blt mg) (F : Fun K "most_sums" "most_sums" s5 f fd) (g : mg "most_sums" = some (.ref f)) (Cleast_bound : Cal P w K mg base 2 "least_bound" 4 Fleast_bound) : Cal P w K mg base 3 "most_sums" 1 Fmost_sums := by
  refine ⟨f, fd, ["day"], fn_ok (k := 2) F sc5 rfl rfl ?_, g, F.kp, (F.binds fun _ _ _ _ _ _ us hl => match us, hl with | [_], _ => rfl)⟩
  exact fun cdv A outer s H E hG hr => by
    have hu := hr.units
    exact (s_cons (s_set (i := 1) sc5.nd rfl (Or.inl rfl) (c_bin false (c_callB bo_len (by rfl) B.len (by decide +kernel) (c_cons (c_ix (c_pv 0) c_int) c_nil)) c_int)) (s_cons (s_setLc true (i := 2) (own := [("place", 4)]) rfl sc5.nd rfl rfl (sw_true rfl rfl rfl (by decide +kernel)) (i_rng1 (by rfl) B.range (c_cons (c_pv 1) c_nil)) (blkOk_by (N := ["day", "places", "sums", "hour", "place"]) (sc := (defScope s5)) (by decide +kernel)) (fun _ _ _ _ _ => (pg_name (i := 4) sc5.nd rfl (Or.inl rfl))) (by decide) (fun _ _ _ _ _ => ts_nil) (fun _ _ _ _ _ => (c_lst true (c_cons c_int c_nil))) rfl) (s_cons (s_for PassesOwn.never rfl (i_rng1 (by rfl) B.range (c_cons (c_callB bo_len (by rfl) B.len (by decide +kernel) (c_cons (c_ix (c_pv 0) c_int) c_nil)) c_nil)) (g_name (i := 3) sc5.nd rfl (Or.inl rfl)) (s_one (s_for PassesOwn.never rfl (i_revR (by rfl) B.reversed (by rfl) B.range (c_pv 1)) (g_name (i := 4) sc5.nd rfl (Or.inl rfl)) (s_one (s_drop (c_meth mo_append (fun _ _ h1 h2 => pe_bm PySem.F.plainAttrs_list PySem.F.slot_list_append PySem.F.type_list_append mt_W h1 h2) (c_ix (c_pv 2) (c_pv 4)) (c_cons (c_ix (c_cal Cleast_bound hG (hr.mono (by decide)) (by rfl) (fun _ => passes0) (c_cons (c_pv 0) (c_cons (c_pv 2) (c_cons (c_pv 4) (c_cons (c_pv 3) c_nil))))) c_int) c_nil))))))) (s_one (s_ret (c_frz (c_pv 2)))))))
/-! ### with_more -/
abbrev s6 : Stmt := topS 6
theorem sc6 : FnScope ["day", "place", "comes", "pots", "strikes", "room", "takes", "more", "one"] ["day", "place"] (defScope s6) := ⟨rfl, rfl, rfl, by decide +kernel, rfl, by decide +kernel, by decide +kernel⟩
noncomputable def Fwith_more : Fn := fnB 2 7
  (kSeq (kAsg (bVar 0) (tgT [(tgN 2), (tgN 3), (tgN 4)])) (kSeq (kIf (bCmpT .Eq (bVar 1) (bCallB sLen [(bVar 3)])) (kRet (bTup [(bVar 2), (bVar 3), (bLc false [8] (iSeq (bVar 4)) (.n 8) tYesT (bBin false .Add (bVar 8) (bC (.int 1))))])) kNil) (kSeq (kAsg (bIx (bVar 3) (bVar 1)) (tgT [(tgN 5), (tgN 6)])) (kSeq (kSet 7 (bTup [(bBin false .Add (bVar 5) (bC (.int 1))), (bLc false [8] (iSeq (bVar 6)) (.n 8) tYesT (bBin false .Add (bVar 8) (bC (.int 1))))])) (kRet (bTup [(bVar 2), (bBin false .Add (bBin false .Add (bCallB (sList false) [(bSl false (bVar 3) oNo (oAt (bVar 1)))]) (bLst false [(bVar 7)])) (bCallB (sList false) [(bSl false (bVar 3) (oAt (bBin false .Add (bVar 1) (bC (.int 1)))) oNo)])), (bVar 4)]))))))
theorem calwith_more {P : Program} {w : World} {K : PySem.W.Frag} {mg : Str → Option Value} {base : Heap} {f : Addr} {fd : FuncData} (B : Blt mg) (F : Fun K "with_more" "with_more" s6 f fd) (g : mg "with_more" = some (.ref f)) : Cal P w K mg base 1 "with_more" 2 Fwith_more := by
  refine ⟨f, fd, ["day", "place"], fn_ok (k := 0) F sc6 rfl rfl ?_, g, F.kp, (F.binds fun _ _ _ _ _ _ us hl => match us, hl with | [_, _], _ => rfl)⟩
  exact fun cdv A outer s H E hG hr => by
    have hu := hr.units
    exact (s_cons (s_asg (c_pv 0) (g_tup rfl (g_cons (g_name (i := 2) sc6.nd rfl (Or.inl rfl)) (g_cons (g_name (i := 3) sc6.nd rfl (Or.inl rfl)) (g_cons (g_name (i := 4) sc6.nd rfl (Or.inl rfl)) g_nil))) rfl (noEx_mem [2, 3, 4]))) (s_cons (s_if (t_cmp hu (c_pv 1) (c_callB bo_len (by rfl) B.len (by decide +kernel) (c_cons (c_pv 3) c_nil)) (nomark _)) (s_one (s_ret (c_tup (c_cons (c_pv 2) (c_cons (c_pv 3) (c_cons (c_lc false (own := [("one", 8)]) rfl sc6.nd (i_seq (c_pv 4)) (blkOk_by (N := ["day", "place", "comes", "pots", "strikes", "room", "takes", "more", "one"]) (sc := (defScope s6)) (by decide +kernel)) (fun _ _ _ _ _ => (pg_name (i := 8) sc6.nd rfl (Or.inl rfl))) (by decide) (fun _ _ _ _ _ => ts_nil) (fun _ _ _ _ _ => (c_bin false (c_pv 8) c_int)) rfl) c_nil)))))) s_nil) (s_cons (s_asg (c_ix (c_pv 3) (c_pv 1)) (g_tup rfl (g_cons (g_name (i := 5) sc6.nd rfl (Or.inl rfl)) (g_cons (g_name (i := 6) sc6.nd rfl (Or.inl rfl)) g_nil)) rfl (noEx_mem [5, 6]))) (s_cons (s_set (i := 7) sc6.nd rfl (Or.inl rfl) (c_tup (c_cons (c_bin false (c_pv 5) c_int) (c_cons (c_lc false (own := [("one", 8)]) rfl sc6.nd (i_seq (c_pv 6)) (blkOk_by (N := ["day", "place", "comes", "pots", "strikes", "room", "takes", "more", "one"]) (sc := (defScope s6)) (by decide +kernel)) (fun _ _ _ _ _ => (pg_name (i := 8) sc6.nd rfl (Or.inl rfl))) (by decide) (fun _ _ _ _ _ => ts_nil) (fun _ _ _ _ _ => (c_bin false (c_pv 8) c_int)) rfl) c_nil)))) (s_one (s_ret (c_tup (c_cons (c_pv 2) (c_cons (c_bin false (c_bin false (c_callTy (bo_list false) (by rfl) B.list_ (by decide +kernel) (c_cons (c_sl false (c_pv 3) o_no (o_at (c_pv 1))) c_nil)) (c_lst false (c_cons (c_pv 7) c_nil))) (c_callTy (bo_list false) (by rfl) B.list_ (by decide +kernel) (c_cons (c_sl false (c_pv 3) (o_at (c_bin false (c_pv 1) c_int)) o_no) c_nil))) (c_cons (c_pv 4) c_nil))))))))))
/-! ### binding_places -/
abbrev s7 : Stmt := topS 7
theorem sc7 : FnScope ["day", "struck", "place"] ["day"] (defScope s7) := ⟨rfl, rfl, rfl, by decide +kernel, rfl, by decide +kernel, by decide +kernel⟩
noncomputable def Fbinding_places : Fn := fnB 1 2
  (kSeq (kSet 1 (bIx (bIx (bCall 1 Fmost_sums [(bVar 0)]) (bNeg (bC (.int 1)))) (bNeg (bC (.int 1))))) (kRet (bLc true [2] (iRng rng1 [(bBin false .Add (bCallB sLen [(bIx (bVar 0) (bC (.int 1)))]) (bC (.int 1)))]) (.n 2) (bCmpT .Gt (bIx (bIx (bCall 1 Fmost_sums [(bCall 2 Fwith_more [(bVar 0), (bVar 2)])]) (bNeg (bC (.int 1)))) (bNeg (bC (.int 1)))) (bVar 1)) (bVar 2))))
theorem calbinding_places {P : Program} {w : World} {K : PySem.W.Frag} {mg : Str → Option Value} {base : Heap} {f : Addr} {fd : FuncData} (B : Blt mg) (F : Fun K "binding_places" "binding_places" s7 f fd) (g : mg "binding_places" = some (.ref f)) (Cmost_sums : Cal P w K mg base 3 "most_sums" 1 Fmost_sums) (Cwith_more : Cal P w K mg base 1 "with_more" 2 Fwith_more) : Cal P w K mg base 4 "binding_places" 1 Fbinding_places := by
  refine ⟨f, fd, ["day"], fn_ok (k := 3) F sc7 rfl rfl ?_, g, F.kp, (F.binds fun _ _ _ _ _ _ us hl => match us, hl with | [_], _ => rfl)⟩
  exact fun cdv A outer s H E hG hr => by
    have hu := hr.units
    exact (s_cons (s_set (i := 1) sc7.nd rfl (Or.inr rfl) (c_ix (c_ix (c_cal Cmost_sums hG (hr.mono (by decide)) (by rfl) (fun _ => passes0) (c_cons (c_pv 0) c_nil)) (c_neg c_int)) (c_neg c_int))) (s_one (s_ret (c_lc true (own := [("place", 2)]) rfl sc7.nd (i_rng1 (by rfl) B.range (c_cons (c_bin false (c_callB bo_len (by rfl) B.len (by decide +kernel) (c_cons (c_ix (c_pv 0) c_int) c_nil)) c_int) c_nil)) (blkOk_by (N := ["day", "struck", "place"]) (sc := (defScope s7)) (by decide +kernel)) (fun _ _ _ _ _ => (pg_name (i := 2) sc7.nd rfl (Or.inl rfl))) (by decide) (fun _ _ _ _ _ => ts_one (t_cmp hu (c_ix (c_ix (c_cal Cmost_sums hG (hr.mono (by decide)) (by rfl) (fun _ => passes0) (c_cons (c_cal Cwith_more hG (hr.mono (by decide)) (by rfl) (fun _ => passes0) (c_cons (c_pv 0) (c_cons (c_pv 2) c_nil))) c_nil)) (c_neg c_int)) (c_neg c_int)) (c_pv 1) (nomark _))) (fun _ _ _ _ _ => (c_pv 2)) rfl))))
/-! ### _law_cell_at -/
abbrev s9 : Stmt := topS 9
theorem sc9 : FnScope ["script", "k"] ["script", "k"] (defScope s9) := ⟨rfl, rfl, rfl, by decide +kernel, rfl, by decide +kernel, by decide +kernel⟩
noncomputable def F_law_cell_at : Fn := fnB 2 0
  (kSeq (kIf (bCmpT .Lt (bVar 1) (bCallB sLen [(bVar 0)])) (kRet (bIx (bVar 0) (bVar 1))) kNil) (kRet (bC (.int 0))))
theorem cal_law_cell_at {P : Program} {w : World} {K : PySem.W.Frag} {mg : Str → Option Value} {base : Heap} {f : Addr} {fd : FuncData} (B : Blt mg) (F : Fun K "_law_cell_at" "_law_cell_at" s9 f fd) (g : mg "_law_cell_at" = some (.ref f)) : Cal P w K mg base 1 "_law_cell_at" 2 F_law_cell_at := by
  refine ⟨f, fd, ["script", "k"], fn_ok (k := 0) F sc9 rfl rfl ?_, g, F.kp, (F.binds fun _ _ _ _ _ _ us hl => match us, hl with | [_, _], _ => rfl)⟩
  exact fun cdv A outer s H E hG hr => by
    have hu := hr.units
    exact (s_cons (s_if (t_cmp hu (c_pv 1) (c_callB bo_len (by rfl) B.len (by decide +kernel) (c_cons (c_pv 0) c_nil)) (nomark _)) (s_one (s_ret (c_ix (c_pv 0) (c_pv 1)))) s_nil) (s_one (s_ret c_int)))
/-! ### _law_box -/
abbrev s10 : Stmt := topS 10
theorem sc10 : FnScope ["script", "k", "cell"] ["script", "k"] (defScope s10) := ⟨rfl, rfl, rfl, by decide +kernel, rfl, by decide +kernel, by decide +kernel⟩
noncomputable def F_law_box : Fn := fnB 2 1
  (kSeq (kSet 2 (bCall 2 F_law_cell_at [(bVar 0), (bVar 1)])) (kRet (bLst true [(bBin false .Mult (bCallB sAbs [(bVar 2)]) (bCallB sInt [(bCmp .GtE (bCallB sAbs [(bVar 2)]) (bBin false .Pow (bC (.int 10)) (bC (.int 18))))])), (bBin false .Add (bBin false .Add (bBin false .Mod (bVar 2) (bC (.int 2305843009213693951))) (bBin false .Mult (bC (.int 39373)) (bVar 1))) (bC (.int 17))), (bC (.int 0))])))
theorem cal_law_box {P : Program} {w : World} {K : PySem.W.Frag} {mg : Str → Option Value} {base : Heap} {f : Addr} {fd : FuncData} (B : Blt mg) (F : Fun K "_law_box" "_law_box" s10 f fd) (g : mg "_law_box" = some (.ref f)) (C_law_cell_at : Cal P w K mg base 1 "_law_cell_at" 2 F_law_cell_at) : Cal P w K mg base 2 "_law_box" 2 F_law_box := by
  refine ⟨f, fd, ["script", "k"], fn_ok (k := 1) F sc10 rfl rfl ?_, g, F.kp, (F.binds fun _ _ _ _ _ _ us hl => match us, hl with | [_, _], _ => rfl)⟩
  exact fun cdv A outer s H E hG hr => by
    have hu := hr.units
    exact (s_cons (s_set (i := 2) sc10.nd rfl (Or.inl rfl) (c_cal C_law_cell_at hG (hr.mono (by decide)) (by rfl) (fun _ => passes0) (c_cons (c_pv 0) (c_cons (c_pv 1) c_nil)))) (s_one (s_ret (c_lst true (c_cons (c_bin false (c_callB bo_abs (by rfl) B.abs_ (by decide +kernel) (c_cons (c_pv 2) c_nil)) (c_callTy bo_int (by rfl) B.int_ (by decide +kernel) (c_cons (c_cmp hu (c_callB bo_abs (by rfl) B.abs_ (by decide +kernel) (c_cons (c_pv 2) c_nil)) (c_bin false c_int c_int) (nomark _)) c_nil))) (c_cons (c_bin false (c_bin false (c_bin false (c_pv 2) c_int) (c_bin false c_int (c_pv 1))) c_int) (c_cons c_int c_nil)))))))
/-! ### _law_take -/
abbrev s11 : Stmt := topS 11
theorem sc11 : FnScope ["box", "many", "found", "once", "twice"] ["box", "many"] (defScope s11) := ⟨rfl, rfl, rfl, by decide +kernel, rfl, by decide +kernel, by decide +kernel⟩
noncomputable def F_law_take : Fn := fnB 2 3
  (kSeq (kIf (bCmpT .Gt (bIx (bVar 0) (bC (.int 0))) (bC (.int 0))) (kSeq (kSet 2 (bBin false .Mod (bIx (bVar 0) (bC (.int 0))) (bVar 1))) (kSeq (kAsg (bBin false .FloorDiv (bIx (bVar 0) (bC (.int 0))) (bVar 1)) (tgIx (bVar 0) (bC (.int 0)))) (kRet (bVar 2)))) kNil) (kSeq (kAsg (bBin false .Add (bIx (bVar 0) (bC (.int 2))) (bC (.int 1))) (tgIx (bVar 0) (bC (.int 2)))) (kSeq (kSet 3 (bBin false .Mod (bBin false .Mult (bBin false .Add (bIx (bVar 0) (bC (.int 1))) (bBin false .Mult (bC (.int 48271)) (bIx (bVar 0) (bC (.int 2))))) (bBin false .Add (bC (.int 39373)) (bIx (bVar 0) (bC (.int 2))))) (bC (.int 2147483647)))) (kSeq (kSet 4 (bBin false .Mod (bBin false .Mult (bBin false .Add (bVar 3) (bIx (bVar 0) (bC (.int 2)))) (bBin false .Add (bBin false .Mod (bVar 3) (bC (.int 40009))) (bC (.int 7)))) (bC (.int 2147483629)))) (kRet (bBin false .Mod (bBin false .FloorDiv (bBin false .Mod (bBin false .Add (bBin false .Mult (bVar 4) (bC (.int 48271))) (bVar 3)) (bC (.int 2147483587))) (bC (.int 64))) (bVar 1)))))))
theorem cal_law_take {P : Program} {w : World} {K : PySem.W.Frag} {mg : Str → Option Value} {base : Heap} {f : Addr} {fd : FuncData} (B : Blt mg) (F : Fun K "_law_take" "_law_take" s11 f fd) (g : mg "_law_take" = some (.ref f)) : Cal P w K mg base 1 "_law_take" 2 F_law_take := by
  refine ⟨f, fd, ["box", "many"], fn_ok (k := 0) F sc11 rfl rfl ?_, g, F.kp, (F.binds fun _ _ _ _ _ _ us hl => match us, hl with | [_, _], _ => rfl)⟩
  exact fun cdv A outer s H E hG hr => by
    have hu := hr.units
    exact (s_cons (s_if (t_cmp hu (c_ix (c_pv 0) c_int) c_int (nomark _)) (s_cons (s_set (i := 2) sc11.nd rfl (Or.inl rfl) (c_bin false (c_ix (c_pv 0) c_int) (c_pv 1))) (s_cons (s_asg (c_bin false (c_ix (c_pv 0) c_int) (c_pv 1)) (g_ix (c_pv 0) c_int (pg_sub pe_W pe_W st_W))) (s_one (s_ret (c_pv 2))))) s_nil) (s_cons (s_asg (c_bin false (c_ix (c_pv 0) c_int) c_int) (g_ix (c_pv 0) c_int (pg_sub pe_W pe_W st_W))) (s_cons (s_set (i := 3) sc11.nd rfl (Or.inl rfl) (c_bin false (c_bin false (c_bin false (c_ix (c_pv 0) c_int) (c_bin false c_int (c_ix (c_pv 0) c_int))) (c_bin false c_int (c_ix (c_pv 0) c_int))) c_int)) (s_cons (s_set (i := 4) sc11.nd rfl (Or.inl rfl) (c_bin false (c_bin false (c_bin false (c_pv 3) (c_ix (c_pv 0) c_int)) (c_bin false (c_bin false (c_pv 3) c_int) c_int)) c_int)) (s_one (s_ret (c_bin false (c_bin false (c_bin false (c_bin false (c_bin false (c_pv 4) c_int) (c_pv 3)) c_int) c_int) (c_pv 1))))))))
/-! ### _law_ladles -/
abbrev s12 : Stmt := topS 12
theorem sc12 : FnScope ["box", "hours", "wide", "way", "hour"] ["box", "hours", "wide"] (defScope s12) := ⟨rfl, rfl, rfl, by decide +kernel, rfl, by decide +kernel, by decide +kernel⟩
noncomputable def F_law_ladles : Fn := fnB 3 2
  (kSeq (kSet 3 (bCall 2 F_law_take [(bVar 0), (bC (.int 6))])) (kSeq (kIf (bCmpT .Lt (bVar 3) (bC (.int 2))) (kRet (bBin false .Mult (bLst false [(bIx (bLst false [(bVar 2), (bC (.int 0))]) (bVar 3))]) (bVar 1))) kNil) (kRet (bLc false [4] (iRng rng1 [(bVar 1)]) (.n 4) tYesT (bIx (bLst false [(bCall 2 F_law_take [(bVar 0), (bBin false .Add (bVar 2) (bC (.int 1)))]), (bC (.int 0)), (bVar 2), (bCall 2 F_law_take [(bVar 0), (bBin false .Add (bVar 2) (bC (.int 1)))])]) (bCall 2 F_law_take [(bVar 0), (bC (.int 4))]))))))
theorem cal_law_ladles {P : Program} {w : World} {K : PySem.W.Frag} {mg : Str → Option Value} {base : Heap} {f : Addr} {fd : FuncData} (B : Blt mg) (F : Fun K "_law_ladles" "_law_ladles" s12 f fd) (g : mg "_law_ladles" = some (.ref f)) (C_law_take : Cal P w K mg base 1 "_law_take" 2 F_law_take) : Cal P w K mg base 2 "_law_ladles" 3 F_law_ladles := by
  refine ⟨f, fd, ["box", "hours", "wide"], fn_ok (k := 1) F sc12 rfl rfl ?_, g, F.kp, (F.binds fun _ _ _ _ _ _ us hl => match us, hl with | [_, _, _], _ => rfl)⟩
  exact fun cdv A outer s H E hG hr => by
    have hu := hr.units
    exact (s_cons (s_set (i := 3) sc12.nd rfl (Or.inl rfl) (c_cal C_law_take hG (hr.mono (by decide)) (by rfl) (fun _ => passes0) (c_cons (c_pv 0) (c_cons c_int c_nil)))) (s_cons (s_if (t_cmp hu (c_pv 3) c_int (nomark _)) (s_one (s_ret (c_bin false (c_lst false (c_cons (c_ix (c_lst false (c_cons (c_pv 2) (c_cons c_int c_nil))) (c_pv 3)) c_nil)) (c_pv 1)))) s_nil) (s_one (s_ret (c_lc false (own := [("hour", 4)]) rfl sc12.nd (i_rng1 (by rfl) B.range (c_cons (c_pv 1) c_nil)) (blkOk_by (N := ["box", "hours", "wide", "way", "hour"]) (sc := (defScope s12)) (by decide +kernel)) (fun _ _ _ _ _ => (pg_name (i := 4) sc12.nd rfl (Or.inl rfl))) (by decide) (fun _ _ _ _ _ => ts_nil) (fun _ _ _ _ _ => (c_ix (c_lst false (c_cons (c_cal C_law_take hG (hr.mono (by decide)) (by rfl) (fun _ => passes0) (c_cons (c_pv 0) (c_cons (c_bin false (c_pv 2) c_int) c_nil))) (c_cons c_int (c_cons (c_pv 2) (c_cons (c_cal C_law_take hG (hr.mono (by decide)) (by rfl) (fun _ => passes0) (c_cons (c_pv 0) (c_cons (c_bin false (c_pv 2) c_int) c_nil))) c_nil))))) (c_cal C_law_take hG (hr.mono (by decide)) (by rfl) (fun _ => passes0) (c_cons (c_pv 0) (c_cons c_int c_nil))))) rfl)))))
/-! ### _law_day -/
abbrev s13 : Stmt := topS 13
theorem sc13 : FnScope ["box", "hours", "pots", "wide", "kettles", "place", "room", "takes"] ["box", "hours", "pots", "wide"] (defScope s13) := ⟨rfl, rfl, rfl, by decide +kernel, rfl, by decide +kernel, by decide +kernel⟩
noncomputable def L_law_day_1 : CS :=
  (kDrop (bMeth mAppend (bVar 4) [(bTup [(bBin false .Add (bC (.int 1)) (bCall 2 F_law_take [(bVar 0), (bIx (bLst false [(bC (.int 1)), (bVar 3), (bBin false .Mult (bC (.int 3)) (bVar 3))]) (bCall 2 F_law_take [(bVar 0), (bC (.int 3))]))])), (bCall 3 F_law_ladles [(bVar 0), (bVar 1), (bVar 3)])])]))
noncomputable def F_law_day : Fn := fnB 4 4
  (kSeq (kSet 4 (bLst true [])) (kSeq (kFor (iRng rng1 [(bVar 2)]) (tgN 5) L_law_day_1) (kSeq (kSet 4 (bLc false [6, 7] (iSeq (bVar 4)) (.t [6, 7]) tYesT (bTup [(bCallB sMin2 [(bBin false .Pow (bC (.int 10)) (bC (.int 6))), (bVar 6)]), (bVar 7)]))) (kRet (bTup [(bCall 3 F_law_ladles [(bVar 0), (bVar 1), (bVar 3)]), (bFrz (bVar 4)), (bCall 3 F_law_ladles [(bVar 0), (bVar 1), (bVar 3)])])))))
theorem cal_law_day {P : Program} {w : World} {K : PySem.W.Frag} {mg : Str → Option Value} {base : Heap} {f : Addr} {fd : FuncData} (B : Blt mg) (F : Fun K "_law_day" "_law_day" s13 f fd) (g : mg "_law_day" = some (.ref f)) (C_law_take : Cal P w K mg base 1 "_law_take" 2 F_law_take) (C_law_ladles : Cal P w K mg base 2 "_law_ladles" 3 F_law_ladles) : Cal P w K mg base 3 "_law_day" 4 F_law_day := by
  refine ⟨f, fd, ["box", "hours", "pots", "wide"], fn_ok (k := 2) F sc13 rfl rfl ?_, g, F.kp, (F.binds fun _ _ _ _ _ _ us hl => match us, hl with | [_, _, _, _], _ => rfl)⟩
  exact fun cdv A outer s H E hG hr => by
    have hu := hr.units
    exact (s_cons (s_set (i := 4) sc13.nd rfl (Or.inl rfl) (c_lst true c_nil)) (s_cons (s_for PassesOwn.never rfl (i_rng1 (by rfl) B.range (c_cons (c_pv 2) c_nil)) (g_name (i := 5) sc13.nd rfl (Or.inl rfl)) (s_one (s_drop (c_meth mo_append (fun _ _ h1 h2 => pe_bm PySem.F.plainAttrs_list PySem.F.slot_list_append PySem.F.type_list_append mt_W h1 h2) (c_pv 4) (c_cons (c_tup (c_cons (c_bin false c_int (c_cal C_law_take hG (hr.mono (by decide)) (by rfl) (fun _ => passes0) (c_cons (c_pv 0) (c_cons (c_ix (c_lst false (c_cons c_int (c_cons (c_pv 3) (c_cons (c_bin false c_int (c_pv 3)) c_nil)))) (c_cal C_law_take hG (hr.mono (by decide)) (by rfl) (fun _ => passes0) (c_cons (c_pv 0) (c_cons c_int c_nil)))) c_nil)))) (c_cons (c_cal C_law_ladles hG (hr.mono (by decide)) (by rfl) (fun _ => passes0) (c_cons (c_pv 0) (c_cons (c_pv 1) (c_cons (c_pv 3) c_nil)))) c_nil))) c_nil))))) (s_cons (s_setLc false (i := 4) (own := [("room", 6), ("takes", 7)]) rfl sc13.nd rfl rfl (sw_true rfl rfl rfl (by decide +kernel)) (i_seq (c_pv 4)) (blkOk_by (N := ["box", "hours", "pots", "wide", "kettles", "place", "room", "takes"]) (sc := (defScope s13)) (by decide +kernel)) (fun _ _ _ _ _ => pg_tup rfl (pgs_cons (pg_name (i := 6) sc13.nd rfl (Or.inl rfl)) (pgs_cons (pg_name (i := 7) sc13.nd rfl (Or.inl rfl)) pgs_nil))) (by decide) (fun _ _ _ _ _ => ts_nil) (fun _ _ _ _ _ => (c_tup (c_cons (c_callB (bo_min2 rfl) (by rfl) B.min (by decide +kernel) (c_cons (c_bin false c_int c_int) (c_cons (c_pv 6) c_nil))) (c_cons (c_pv 7) c_nil)))) rfl) (s_one (s_ret (c_tup (c_cons (c_cal C_law_ladles hG (hr.mono (by decide)) (by rfl) (fun _ => passes0) (c_cons (c_pv 0) (c_cons (c_pv 1) (c_cons (c_pv 3) c_nil)))) (c_cons (c_frz (c_pv 4)) (c_cons (c_cal C_law_ladles hG (hr.mono (by decide)) (by rfl) (fun _ => passes0) (c_cons (c_pv 0) (c_cons (c_pv 1) (c_cons (c_pv 3) c_nil)))) c_nil)))))))))
/-! ### _law_some_day -/
abbrev s14 : Stmt := topS 14
theorem sc14 : FnScope ["box", "hours", "pots"] ["box"] (defScope s14) := ⟨rfl, rfl, rfl, by decide +kernel, rfl, by decide +kernel, by decide +kernel⟩
noncomputable def F_law_some_day : Fn := fnB 1 2
  (kSeq (kAsg (bIx (bLst false [(bTup [(bBin false .Add (bC (.int 1)) (bCall 2 F_law_take [(bVar 0), (bC (.int 6))])), (bBin false .Add (bC (.int 1)) (bCall 2 F_law_take [(bVar 0), (bC (.int 3))]))]), (bTup [(bC (.int 48)), (bC (.int 8))])]) (bCallB sInt [(bCmp .Eq (bCall 2 F_law_take [(bVar 0), (bC (.int 8))]) (bC (.int 0)))])) (tgT [(tgN 1), (tgN 2)])) (kRet (bCall 4 F_law_day [(bVar 0), (bVar 1), (bVar 2), (bIx (bLst false [(bC (.int 3)), (bC (.int 20)), (bBin false .Pow (bC (.int 10)) (bC (.int 6)))]) (bCall 2 F_law_take [(bVar 0), (bC (.int 3))]))])))
theorem cal_law_some_day {P : Program} {w : World} {K : PySem.W.Frag} {mg : Str → Option Value} {base : Heap} {f : Addr} {fd : FuncData} (B : Blt mg) (F : Fun K "_law_some_day" "_law_some_day" s14 f fd) (g : mg "_law_some_day" = some (.ref f)) (C_law_take : Cal P w K mg base 1 "_law_take" 2 F_law_take) (C_law_day : Cal P w K mg base 3 "_law_day" 4 F_law_day) : Cal P w K mg base 4 "_law_some_day" 1 F_law_some_day := by
  refine ⟨f, fd, ["box"], fn_ok (k := 3) F sc14 rfl rfl ?_, g, F.kp, (F.binds fun _ _ _ _ _ _ us hl => match us, hl with | [_], _ => rfl)⟩
  exact fun cdv A outer s H E hG hr => by
    have hu := hr.units
    exact (s_cons (s_asg (c_ix (c_lst false (c_cons (c_tup (c_cons (c_bin false c_int (c_cal C_law_take hG (hr.mono (by decide)) (by rfl) (fun _ => passes0) (c_cons (c_pv 0) (c_cons c_int c_nil)))) (c_cons (c_bin false c_int (c_cal C_law_take hG (hr.mono (by decide)) (by rfl) (fun _ => passes0) (c_cons (c_pv 0) (c_cons c_int c_nil)))) c_nil))) (c_cons (c_tup (c_cons c_int (c_cons c_int c_nil))) c_nil))) (c_callTy bo_int (by rfl) B.int_ (by decide +kernel) (c_cons (c_cmp hu (c_cal C_law_take hG (hr.mono (by decide)) (by rfl) (fun _ => passes0) (c_cons (c_pv 0) (c_cons c_int c_nil))) c_int (nomark _)) c_nil))) (g_tup rfl (g_cons (g_name (i := 1) sc14.nd rfl (Or.inl rfl)) (g_cons (g_name (i := 2) sc14.nd rfl (Or.inl rfl)) g_nil)) rfl (noEx_mem [1, 2]))) (s_one (s_ret (c_cal C_law_day hG (hr.mono (by decide)) (by rfl) (fun _ => passes0) (c_cons (c_pv 0) (c_cons (c_pv 1) (c_cons (c_pv 2) (c_cons (c_ix (c_lst false (c_cons c_int (c_cons c_int (c_cons (c_bin false c_int c_int) c_nil)))) (c_cal C_law_take hG (hr.mono (by decide)) (by rfl) (fun _ => passes0) (c_cons (c_pv 0) (c_cons c_int c_nil)))) c_nil))))))))
/-! ### _law_same -/
abbrev s15 : Stmt := topS 15
theorem sc15 : FnScope ["found", "due", "alike", "one", "other"] ["found", "due"] (defScope s15) := ⟨rfl, rfl, rfl, by decide +kernel, rfl, by decide +kernel, by decide +kernel⟩
noncomputable def F_law_same : Nat → Fn
  | 0 => fun _ _ => .no
  | n + 1 => fnB 2 3 ((kSeq (kIf (bTru (bInst [.list, .tuple] (bVar 1))) (kSeq (kIf (bOrT [(bCmpT .NotEq (bInst [.list] (bVar 0)) (bInst [.list] (bVar 1))), (bCmpT .NotEq (bInst [.tuple] (bVar 0)) (bInst [.tuple] (bVar 1)))]) (kRet (bC (.bool false))) kNil) (kRet (bAnd [(bCmp .Eq (bCallB sLen [(bVar 0)]) (bCallB sLen [(bVar 1)])), (bCallB sAll [(bLc false [3, 4] (iRng zipL [(bVar 0), (bVar 1)]) (.t [3, 4]) tYesT (bCall 2 (F_law_same n) [(bVar 3), (bVar 4)]))])]))) kNil) (kSeq (kIf (bOrT [(bCmpT .Is (bVar 1) (bC .none)), (bTru (bInst [.str, .bool] (bVar 1)))]) (kSeq (kSet 2 (bAnd [(bCmp .Eq (bInst [.bool] (bVar 0)) (bInst [.bool] (bVar 1))), (bCmp .Eq (bInst [.int] (bVar 0)) (bInst [.int] (bVar 1)))])) (kRet (bAnd [(bVar 2), (bCmp .Eq (bVar 0) (bVar 1))]))) kNil) (kRet (bAnd [(bInst [.int] (bVar 0)), (bNot (bInst [.bool] (bVar 0))), (bCmp .Eq (bVar 0) (bVar 1))])))))
theorem cal_law_same {P : Program} {w : World} {K : PySem.W.Frag} {mg : Str → Option Value} {base : Heap} {f : Addr} {fd : FuncData} (B : Blt mg) (F : Fun K "_law_same" "_law_same" s15 f fd) (g : mg "_law_same" = some (.ref f)) : ∀ n : Nat, Cal P w K mg base (0 + n) "_law_same" 2 (F_law_same n)
  | 0 => ⟨f, fd, ["found", "due"], fn_none rfl, g, F.kp, (F.binds fun _ _ _ _ _ _ us hl => match us, hl with | [_, _], _ => rfl)⟩
  | n + 1 => by
    have C_law_same := cal_law_same (P := P) (w := w) (base := base) B F g  n
    refine ⟨f, fd, ["found", "due"], fn_ok (k := 0 + n) F sc15 rfl rfl ?_, g, F.kp, (F.binds fun _ _ _ _ _ _ us hl => match us, hl with | [_, _], _ => rfl)⟩
    exact fun cdv A outer s H E hG hr => by
      have hu := hr.units
      exact (s_cons (s_if (t_tru (c_inst2 (T := .list) (U := .tuple) rfl (by rfl) B.isinstance (by decide +kernel) (by rfl) B.list_ (by decide +kernel) (by rfl) B.tuple_ (by decide +kernel) (c_pv 1))) (s_cons (s_if (t_b (b_or (t_cmp hu (c_inst (T := .list) rfl (by rfl) B.isinstance (by decide +kernel) (by rfl) B.list_ (by decide +kernel) (c_pv 0)) (c_inst (T := .list) rfl (by rfl) B.isinstance (by decide +kernel) (by rfl) B.list_ (by decide +kernel) (c_pv 1)) (nomark _)) (b_or1 (t_cmp hu (c_inst (T := .tuple) rfl (by rfl) B.isinstance (by decide +kernel) (by rfl) B.tuple_ (by decide +kernel) (c_pv 0)) (c_inst (T := .tuple) rfl (by rfl) B.isinstance (by decide +kernel) (by rfl) B.tuple_ (by decide +kernel) (c_pv 1)) (nomark _))))) (s_one (s_ret c_bl)) s_nil) (s_one (s_ret (c_and (c_cmp hu (c_callB bo_len (by rfl) B.len (by decide +kernel) (c_cons (c_pv 0) c_nil)) (c_callB bo_len (by rfl) B.len (by decide +kernel) (c_cons (c_pv 1) c_nil)) (nomark _)) (c_and1 (c_callB (bo_all rfl) (by rfl) B.all (by decide +kernel) (c_cons (c_lc false (own := [("one", 3), ("other", 4)]) rfl sc15.nd (i_zip (c_cons (c_pv 0) (c_cons (c_pv 1) c_nil)) (fun _ h => RZ.pi_zipA (by rfl) B.zip h)) (blkOk_by (N := ["found", "due", "alike", "one", "other"]) (sc := (defScope s15)) (by decide +kernel)) (fun _ _ _ _ _ => pg_tup rfl (pgs_cons (pg_name (i := 3) sc15.nd rfl (Or.inl rfl)) (pgs_cons (pg_name (i := 4) sc15.nd rfl (Or.inl rfl)) pgs_nil))) (by decide) (fun _ _ _ _ _ => ts_nil) (fun _ _ _ _ _ => (c_cal C_law_same hG (hr.mono (by omega)) (by rfl) (fun _ => passes0) (c_cons (c_pv 3) (c_cons (c_pv 4) c_nil)))) rfl) c_nil))))))) s_nil) (s_cons (s_if (t_b (b_or (t_cmp hu (c_pv 1) c_non (nomark _)) (b_or1 (t_tru (c_inst2 (T := .str) (U := .bool) rfl (by rfl) B.isinstance (by decide +kernel) (by rfl) B.str (by decide +kernel) (by rfl) B.bool (by decide +kernel) (c_pv 1)))))) (s_cons (s_set (i := 2) sc15.nd rfl (Or.inl rfl) (c_and (c_cmp hu (c_inst (T := .bool) rfl (by rfl) B.isinstance (by decide +kernel) (by rfl) B.bool (by decide +kernel) (c_pv 0)) (c_inst (T := .bool) rfl (by rfl) B.isinstance (by decide +kernel) (by rfl) B.bool (by decide +kernel) (c_pv 1)) (nomark _)) (c_and1 (c_cmp hu (c_inst (T := .int) rfl (by rfl) B.isinstance (by decide +kernel) (by rfl) B.int_ (by decide +kernel) (c_pv 0)) (c_inst (T := .int) rfl (by rfl) B.isinstance (by decide +kernel) (by rfl) B.int_ (by decide +kernel) (c_pv 1)) (nomark _))))) (s_one (s_ret (c_and (c_pv 2) (c_and1 (c_cmp hu (c_pv 0) (c_pv 1) (nomark _))))))) s_nil) (s_one (s_ret (c_and (c_inst (T := .int) rfl (by rfl) B.isinstance (by decide +kernel) (by rfl) B.int_ (by decide +kernel) (c_pv 0)) (c_and (c_not (c_inst (T := .bool) rfl (by rfl) B.isinstance (by decide +kernel) (by rfl) B.bool (by decide +kernel) (c_pv 0))) (c_and1 (c_cmp hu (c_pv 0) (c_pv 1) (nomark _)))))))))
/-! ### _law_greatest -/
abbrev s16 : Stmt := topS 16
theorem sc16 : FnScope ["day", "comes", "kettles", "strikes", "held", "waiting", "plan", "hour", "many", "before", "taken", "place", "room", "takes"] ["day"] (defScope s16) := ⟨rfl, rfl, rfl, by decide +kernel, rfl, by decide +kernel, by decide +kernel⟩
noncomputable def L_law_greatest_1 : CS :=
  (kSeq (kAsg (bIx (bVar 2) (bVar 11)) (tgT [(tgN 12), (tgN 13)])) (kSeq (kAsg (bBin false .Sub (bIx (bVar 4) (bVar 11)) (bVar 10)) (tgIx (bVar 4) (bVar 11))) (kSeq (kSet 10 (bCallB sMin3 [(bIx (bVar 13) (bVar 7)), (bBin false .Sub (bVar 12) (bIx (bVar 4) (bVar 11))), (bIf (bCmpT .Gt (bVar 11) (bC (.int 0))) (bIx (bVar 9) (bBin false .Sub (bVar 11) (bC (.int 1)))) (bVar 5))])) (kSeq (kAsg (bBin false .Add (bIx (bVar 4) (bVar 11)) (bVar 10)) (tgIx (bVar 4) (bVar 11))) (kDrop (bMeth mAppend (bIx (bVar 6) (bVar 11)) [(bVar 10)]))))))
noncomputable def L_law_greatest_2 : CS :=
  (kSeq (kPar 5 9 (bBin false .Add (bVar 5) (bVar 8)) (bCallB (sList false) [(bVar 4)])) (kSeq (kSet 10 (bCallB sMin2 [(bIx (bVar 3) (bVar 7)), (bIx (bVar 9) (bNeg (bC (.int 1))))])) (kSeq (kDrop (bMeth mAppend (bIx (bVar 6) (bNeg (bC (.int 1)))) [(bVar 10)])) (kSeq (kFor (iRng rng3 [(bBin false .Sub (bCallB sLen [(bVar 2)]) (bC (.int 1))), (bNeg (bC (.int 1))), (bNeg (bC (.int 1)))]) (tgN 11) L_law_greatest_1) (kSet 5 (bBin false .Sub (bVar 5) (bVar 10)))))))
noncomputable def F_law_greatest : Fn := fnB 1 13
  (kSeq (kAsg (bVar 0) (tgT [(tgN 1), (tgN 2), (tgN 3)])) (kSeq (kPar3 4 5 6 (bBin true .Mult (bLst false [(bC (.int 0))]) (bCallB sLen [(bVar 2)])) (bC (.int 0)) (bLc true [11] (iRng rng1 [(bBin false .Add (bCallB sLen [(bVar 2)]) (bC (.int 1)))]) (.n 11) tYesT (bLst true []))) (kSeq (kFor (iRng enumL [(bVar 1)]) (tgT [(tgN 7), (tgN 8)]) L_law_greatest_2) (kRet (bFrz (bVar 6))))))
theorem cal_law_greatest {P : Program} {w : World} {K : PySem.W.Frag} {mg : Str → Option Value} {base : Heap} {f : Addr} {fd : FuncData} (B : Blt mg) (F : Fun K "_law_greatest" "_law_greatest" s16 f fd) (g : mg "_law_greatest" = some (.ref f)) : Cal P w K mg base 1 "_law_greatest" 1 F_law_greatest := by
  refine ⟨f, fd, ["day"], fn_ok (k := 0) F sc16 rfl rfl ?_, g, F.kp, (F.binds fun _ _ _ _ _ _ us hl => match us, hl with | [_], _ => rfl)⟩
  exact fun cdv A outer s H E hG hr => by
    have hu := hr.units
    exact (s_cons (s_asg (c_pv 0) (g_tup rfl (g_cons (g_name (i := 1) sc16.nd rfl (Or.inl rfl)) (g_cons (g_name (i := 2) sc16.nd rfl (Or.inl rfl)) (g_cons (g_name (i := 3) sc16.nd rfl (Or.inl rfl)) g_nil))) rfl (noEx_mem [1, 2, 3]))) (s_cons (s_par3 (i := 4) (j := 5) (l := 6) rfl sc16.nd rfl rfl rfl (by decide) (by decide) (by decide) rfl rfl rfl (c_bin true (c_lst false (c_cons c_int c_nil)) (c_callB bo_len (by rfl) B.len (by decide +kernel) (c_cons (c_pv 2) c_nil))) c_int (c_lc true (own := [("place", 11)]) rfl sc16.nd (i_rng1 (by rfl) B.range (c_cons (c_bin false (c_callB bo_len (by rfl) B.len (by decide +kernel) (c_cons (c_pv 2) c_nil)) c_int) c_nil)) (blkOk_by (N := ["day", "comes", "kettles", "strikes", "held", "waiting", "plan", "hour", "many", "before", "taken", "place", "room", "takes"]) (sc := (defScope s16)) (by decide +kernel)) (fun _ _ _ _ _ => (pg_name (i := 11) sc16.nd rfl (Or.inl rfl))) (by decide) (fun _ _ _ _ _ => ts_nil) (fun _ _ _ _ _ => (c_lst true c_nil)) rfl) (by rfl)) (s_cons (s_for PassesOwn.never rfl (i_enum (by rfl) B.enumerate (c_cons (c_pv 1) c_nil)) (g_tup rfl (g_cons (g_name (i := 7) sc16.nd rfl (Or.inl rfl)) (g_cons (g_name (i := 8) sc16.nd rfl (Or.inl rfl)) g_nil)) rfl (noEx_mem [7, 8])) (s_cons (s_par (i := 5) (j := 9) rfl sc16.nd rfl rfl (by decide) rfl rfl (c_bin false (c_pv 5) (c_pv 8)) (c_callTy (bo_list false) (by rfl) B.list_ (by decide +kernel) (c_cons (c_pv 4) c_nil)) (by rfl)) (s_cons (s_set (i := 10) sc16.nd rfl (Or.inl rfl) (c_callB (bo_min2 rfl) (by rfl) B.min (by decide +kernel) (c_cons (c_ix (c_pv 3) (c_pv 7)) (c_cons (c_ix (c_pv 9) (c_neg c_int)) c_nil)))) (s_cons (s_drop (c_meth mo_append (fun _ _ h1 h2 => pe_bm PySem.F.plainAttrs_list PySem.F.slot_list_append PySem.F.type_list_append mt_W h1 h2) (c_ix (c_pv 6) (c_neg c_int)) (c_cons (c_pv 10) c_nil))) (s_cons (s_for PassesOwn.never rfl (i_rng3 (by rfl) B.range (c_cons (c_bin false (c_callB bo_len (by rfl) B.len (by decide +kernel) (c_cons (c_pv 2) c_nil)) c_int) (c_cons (c_neg c_int) (c_cons (c_neg c_int) c_nil))) (fun _ h => pi_range3 (by rfl) B.range h)) (g_name (i := 11) sc16.nd rfl (Or.inl rfl)) (s_cons (s_asg (c_ix (c_pv 2) (c_pv 11)) (g_tup rfl (g_cons (g_name (i := 12) sc16.nd rfl (Or.inl rfl)) (g_cons (g_name (i := 13) sc16.nd rfl (Or.inl rfl)) g_nil)) rfl (noEx_mem [12, 13]))) (s_cons (s_asg (c_bin false (c_ix (c_pv 4) (c_pv 11)) (c_pv 10)) (g_ix (c_pv 4) (c_pv 11) (pg_sub pe_W pe_W st_W))) (s_cons (s_set (i := 10) sc16.nd rfl (Or.inl rfl) (c_callB (bo_min3 rfl) (by rfl) B.min (by decide +kernel) (c_cons (c_ix (c_pv 13) (c_pv 7)) (c_cons (c_bin false (c_pv 12) (c_ix (c_pv 4) (c_pv 11))) (c_cons (c_if (t_cmp hu (c_pv 11) c_int (nomark _)) (c_ix (c_pv 9) (c_bin false (c_pv 11) c_int)) (c_pv 5)) c_nil))))) (s_cons (s_asg (c_bin false (c_ix (c_pv 4) (c_pv 11)) (c_pv 10)) (g_ix (c_pv 4) (c_pv 11) (pg_sub pe_W pe_W st_W))) (s_one (s_drop (c_meth mo_append (fun _ _ h1 h2 => pe_bm PySem.F.plainAttrs_list PySem.F.slot_list_append PySem.F.type_list_append mt_W h1 h2) (c_ix (c_pv 6) (c_pv 11)) (c_cons (c_pv 10) c_nil))))))))) (s_one (s_set (i := 5) sc16.nd rfl (Or.inl rfl) (c_bin false (c_pv 5) (c_pv 10))))))))) (s_one (s_ret (c_frz (c_pv 6)))))))
/-! ### _law_more -/
abbrev s17 : Stmt := topS 17
theorem sc17 : FnScope ["day", "place", "comes", "kettles", "strikes", "room", "takes", "one"] ["day", "place"] (defScope s17) := ⟨rfl, rfl, rfl, by decide +kernel, rfl, by decide +kernel, by decide +kernel⟩
noncomputable def F_law_more : Fn := fnB 2 6
  (kSeq (kAsg (bVar 0) (tgT [(tgN 2), (tgN 3), (tgN 4)])) (kSeq (kIf (bCmpT .Eq (bVar 1) (bCallB sLen [(bVar 3)])) (kRet (bTup [(bVar 2), (bVar 3), (bLc false [7] (iSeq (bVar 4)) (.n 7) tYesT (bBin false .Add (bVar 7) (bC (.int 1))))])) kNil) (kSeq (kAsg (bIx (bVar 3) (bVar 1)) (tgT [(tgN 5), (tgN 6)])) (kRet (bTup [(bVar 2), (bBin false .Add (bBin false .Add (bSl false (bVar 3) oNo (oAt (bVar 1))) (bLst false [(bTup [(bBin false .Add (bVar 5) (bC (.int 1))), (bLc false [7] (iSeq (bVar 6)) (.n 7) tYesT (bBin false .Add (bVar 7) (bC (.int 1))))])])) (bSl false (bVar 3) (oAt (bBin false .Add (bVar 1) (bC (.int 1)))) oNo)), (bVar 4)])))))
theorem cal_law_more {P : Program} {w : World} {K : PySem.W.Frag} {mg : Str → Option Value} {base : Heap} {f : Addr} {fd : FuncData} (B : Blt mg) (F : Fun K "_law_more" "_law_more" s17 f fd) (g : mg "_law_more" = some (.ref f)) : Cal P w K mg base 1 "_law_more" 2 F_law_more := by
  refine ⟨f, fd, ["day", "place"], fn_ok (k := 0) F sc17 rfl rfl ?_, g, F.kp, (F.binds fun _ _ _ _ _ _ us hl => match us, hl with | [_, _], _ => rfl)⟩
  exact fun cdv A outer s H E hG hr => by
    have hu := hr.units
    exact (s_cons (s_asg (c_pv 0) (g_tup rfl (g_cons (g_name (i := 2) sc17.nd rfl (Or.inl rfl)) (g_cons (g_name (i := 3) sc17.nd rfl (Or.inl rfl)) (g_cons (g_name (i := 4) sc17.nd rfl (Or.inl rfl)) g_nil))) rfl (noEx_mem [2, 3, 4]))) (s_cons (s_if (t_cmp hu (c_pv 1) (c_callB bo_len (by rfl) B.len (by decide +kernel) (c_cons (c_pv 3) c_nil)) (nomark _)) (s_one (s_ret (c_tup (c_cons (c_pv 2) (c_cons (c_pv 3) (c_cons (c_lc false (own := [("one", 7)]) rfl sc17.nd (i_seq (c_pv 4)) (blkOk_by (N := ["day", "place", "comes", "kettles", "strikes", "room", "takes", "one"]) (sc := (defScope s17)) (by decide +kernel)) (fun _ _ _ _ _ => (pg_name (i := 7) sc17.nd rfl (Or.inl rfl))) (by decide) (fun _ _ _ _ _ => ts_nil) (fun _ _ _ _ _ => (c_bin false (c_pv 7) c_int)) rfl) c_nil)))))) s_nil) (s_cons (s_asg (c_ix (c_pv 3) (c_pv 1)) (g_tup rfl (g_cons (g_name (i := 5) sc17.nd rfl (Or.inl rfl)) (g_cons (g_name (i := 6) sc17.nd rfl (Or.inl rfl)) g_nil)) rfl (noEx_mem [5, 6]))) (s_one (s_ret (c_tup (c_cons (c_pv 2) (c_cons (c_bin false (c_bin false (c_sl false (c_pv 3) o_no (o_at (c_pv 1))) (c_lst false (c_cons (c_tup (c_cons (c_bin false (c_pv 5) c_int) (c_cons (c_lc false (own := [("one", 7)]) rfl sc17.nd (i_seq (c_pv 6)) (blkOk_by (N := ["day", "place", "comes", "kettles", "strikes", "room", "takes", "one"]) (sc := (defScope s17)) (by decide +kernel)) (fun _ _ _ _ _ => (pg_name (i := 7) sc17.nd rfl (Or.inl rfl))) (by decide) (fun _ _ _ _ _ => ts_nil) (fun _ _ _ _ _ => (c_bin false (c_pv 7) c_int)) rfl) c_nil))) c_nil))) (c_sl false (c_pv 3) (o_at (c_bin false (c_pv 1) c_int)) o_no)) (c_cons (c_pv 4) c_nil)))))))))
/-! ### _law_struck -/
abbrev s18 : Stmt := topS 18
theorem sc18 : FnScope ["day"] ["day"] (defScope s18) := ⟨rfl, rfl, rfl, by decide +kernel, rfl, by decide +kernel, by decide +kernel⟩
noncomputable def F_law_struck : Fn := fnB 1 0
  (kRet (bCallB sSum [(bIx (bCall 1 F_law_greatest [(bVar 0)]) (bNeg (bC (.int 1))))]))
theorem cal_law_struck {P : Program} {w : World} {K : PySem.W.Frag} {mg : Str → Option Value} {base : Heap} {f : Addr} {fd : FuncData} (B : Blt mg) (F : Fun K "_law_struck" "_law_struck" s18 f fd) (g : mg "_law_struck" = some (.ref f)) (C_law_greatest : Cal P w K mg base 1 "_law_greatest" 1 F_law_greatest) : Cal P w K mg base 2 "_law_struck" 1 F_law_struck := by
  refine ⟨f, fd, ["day"], fn_ok (k := 1) F sc18 rfl rfl ?_, g, F.kp, (F.binds fun _ _ _ _ _ _ us hl => match us, hl with | [_], _ => rfl)⟩
  exact fun cdv A outer s H E hG hr => by
    have hu := hr.units
    exact (s_one (s_ret (c_callB (bo_sum rfl) (by rfl) B.sum (by decide +kernel) (c_cons (c_ix (c_cal C_law_greatest hG (hr.mono (by decide)) (by rfl) (fun _ => passes0) (c_cons (c_pv 0) c_nil)) (c_neg c_int)) c_nil))))
/-! ### law -/
abbrev s19 : Stmt := topS 19
theorem sc19 : FnScope ["script", "k", "box", "day", "hours", "seen", "due", "loose", "one", "told", "free", "still", "place", "room", "takes"] ["script"] (defScope s19) := ⟨rfl, rfl, rfl, by decide +kernel, rfl, by decide +kernel, by decide +kernel⟩
noncomputable def Llaw_1 : CS :=
  (kSeq (kSet 9 (bCall 1 Fbinding_places [(bVar 8)])) (kSeq (kIf (bNotT (bTru (bCall 2 (F_law_same 5) [(bVar 9), (bVar 6)]))) (kRet (bC (.bool false))) kNil) (kDrop (bMeth mAppend (bVar 9) [(bC (.int 9))]))))
noncomputable def Llaw_2 : CS :=
  (kSeq (kSet 2 (bCall 2 F_law_box [(bVar 0), (bVar 1)])) (kSeq (kSet 3 (bCall 1 F_law_some_day [(bVar 2)])) (kSeq (kPar 4 5 (bCallB sLen [(bIx (bVar 3) (bC (.int 0)))]) (bCallB sRepr [(bVar 3)])) (kSeq (kSet 6 (bLc false [12] (iRng rng1 [(bBin false .Add (bCallB sLen [(bIx (bVar 3) (bC (.int 1)))]) (bC (.int 1)))]) (.n 12) (bCmpT .Gt (bCall 1 F_law_struck [(bCall 2 F_law_more [(bVar 3), (bVar 12)])]) (bCall 1 F_law_struck [(bVar 3)])) (bVar 12))) (kSeq (kSet 7 (bTup [(bCallB sTuple [(bIx (bVar 3) (bC (.int 0)))]), (bCallB sTuple [(bLc false [13, 14] (iSeq (bIx (bVar 3) (bC (.int 1)))) (.t [13, 14]) tYesT (bTup [(bVar 13), (bCallB sTuple [(bVar 14)])]))]), (bCallB sTuple [(bIx (bVar 3) (bC (.int 2)))])])) (kSeq (kFor (iSeq (bTup [(bVar 3), (bVar 7)])) (tgN 8) Llaw_1) (kSeq (kIf (bOrT [(bCmpT .NotEq (bCall 1 Fbinding_places [(bTup [(bBin false .Mult (bLst false [(bC (.int 0))]) (bVar 4)), (bIx (bVar 3) (bC (.int 1))), (bIx (bVar 3) (bC (.int 2)))])]) (bLst false [])), (bCmpT .NotEq (bCallB sRepr [(bVar 3)]) (bVar 5))]) (kRet (bC (.bool false))) kNil) (kSeq (kSet 10 (bTup [(bBin false .Add (bLst false [(bC (.int 3))]) (bBin false .Mult (bLst false [(bC (.int 0))]) (bC (.int 8)))), (bLc false [8] (iSeq (bIx (bVar 3) (bC (.int 1)))) (.n 8) tYesT (bTup [(bC (.int 3)), (bBin false .Mult (bLst false [(bC (.int 3))]) (bC (.int 9)))])), (bBin false .Mult (bLst false [(bC (.int 3))]) (bC (.int 9)))])) (kSeq (kSet 11 (bTup [(bIx (bVar 3) (bC (.int 0))), (bIx (bVar 3) (bC (.int 1))), (bBin false .Mult (bLst false [(bC (.int 0))]) (bVar 4))])) (kIf (bOrT [(bCmpT .NotEq (bCall 1 Fbinding_places [(bVar 10)]) (bLst false [])), (bCmpT .NotIn (bCall 1 Fbinding_places [(bVar 11)]) (bTup [(bLst false []), (bLst false [(bCallB sLen [(bIx (bVar 3) (bC (.int 1)))])])]))]) (kRet (bC (.bool false))) kNil))))))))))
noncomputable def Flaw : Fn := fnB 1 14
  (kSeq (kFor (iRng rng1 [(bCallB sMax2 [(bC (.int 2)), (bCallB sMin2 [(bCallB sLen [(bVar 0)]), (bC (.int 4))])])]) (tgN 1) Llaw_2) (kRet (bC (.bool true))))
theorem law_fn {P : Program} {w : World} {K : PySem.W.Frag} {mg : Str → Option Value} {base : Heap} {f : Addr} {fd : FuncData} (F : Fun K "law" "law" s19 f fd) (B : Blt mg) (C_law_box : Cal P w K mg base 2 "_law_box" 2 F_law_box) (C_law_some_day : Cal P w K mg base 4 "_law_some_day" 1 F_law_some_day) (C_law_struck : Cal P w K mg base 2 "_law_struck" 1 F_law_struck) (C_law_more : Cal P w K mg base 1 "_law_more" 2 F_law_more) (Cbinding_places : Cal P w K mg base 4 "binding_places" 1 Fbinding_places) (C_law_same : Cal P w K mg base 5 "_law_same" 2 (F_law_same 5)) : FnG P w K mg base CX0 6 f fd ["script"] (spOf K mg 1 Flaw) := by
  refine fn_ok (k := 5) F sc19 rfl rfl ?_
  exact fun cdv A outer s H E hG hr => by
    have hu := hr.units
    exact (s_cons (s_for PassesOwn.never rfl (i_rng1 (by rfl) B.range (c_cons (c_callB (bo_max2 rfl) (by rfl) B.max (by decide +kernel) (c_cons c_int (c_cons (c_callB (bo_min2 rfl) (by rfl) B.min (by decide +kernel) (c_cons (c_callB bo_len (by rfl) B.len (by decide +kernel) (c_cons (c_pv 0) c_nil)) (c_cons c_int c_nil))) c_nil))) c_nil)) (g_name (i := 1) sc19.nd rfl (Or.inl rfl)) (s_cons (s_set (i := 2) sc19.nd rfl (Or.inl rfl) (c_cal C_law_box hG (hr.mono (by decide)) (by rfl) (fun _ => passes0) (c_cons (c_pv 0) (c_cons (c_pv 1) c_nil)))) (s_cons (s_set (i := 3) sc19.nd rfl (Or.inr rfl) (c_cal C_law_some_day hG (hr.mono (by decide)) (by rfl) (fun _ => passes0) (c_cons (c_pv 2) c_nil))) (s_cons (s_par (i := 4) (j := 5) rfl sc19.nd rfl rfl (by decide) rfl rfl (c_callB bo_len (by rfl) B.len (by decide +kernel) (c_cons (c_ix (c_pv 3) c_int) c_nil)) (c_callB (bo_repr hG hu) (by rfl) B.repr (by decide +kernel) (c_cons (c_pv 3) c_nil)) (by rfl)) (s_cons (s_setLc false (i := 6) (own := [("place", 12)]) rfl sc19.nd rfl rfl (sw_true rfl rfl rfl (by decide +kernel)) (i_rng1 (by rfl) B.range (c_cons (c_bin false (c_callB bo_len (by rfl) B.len (by decide +kernel) (c_cons (c_ix (c_pv 3) c_int) c_nil)) c_int) c_nil)) (blkOk_by (N := ["script", "k", "box", "day", "hours", "seen", "due", "loose", "one", "told", "free", "still", "place", "room", "takes"]) (sc := (defScope s19)) (by decide +kernel)) (fun _ _ _ _ _ => (pg_name (i := 12) sc19.nd rfl (Or.inl rfl))) (by decide) (fun _ _ _ _ _ => ts_one (t_cmp hu (c_cal C_law_struck hG (hr.mono (by decide)) (by rfl) (fun _ => passes0) (c_cons (c_cal C_law_more hG (hr.mono (by decide)) (by rfl) (fun _ => passes0) (c_cons (c_pv 3) (c_cons (c_pv 12) c_nil))) c_nil)) (c_cal C_law_struck hG (hr.mono (by decide)) (by rfl) (fun _ => passes0) (c_cons (c_pv 3) c_nil)) (nomark _))) (fun _ _ _ _ _ => (c_pv 12)) rfl) (s_cons (s_set (i := 7) sc19.nd rfl (Or.inl rfl) (c_tup (c_cons (c_callTy bo_tuple (by rfl) B.tuple_ (by decide +kernel) (c_cons (c_ix (c_pv 3) c_int) c_nil)) (c_cons (c_callTy bo_tuple (by rfl) B.tuple_ (by decide +kernel) (c_cons (c_lc false (own := [("room", 13), ("takes", 14)]) rfl sc19.nd (i_seq (c_ix (c_pv 3) c_int)) (blkOk_by (N := ["script", "k", "box", "day", "hours", "seen", "due", "loose", "one", "told", "free", "still", "place", "room", "takes"]) (sc := (defScope s19)) (by decide +kernel)) (fun _ _ _ _ _ => pg_tup rfl (pgs_cons (pg_name (i := 13) sc19.nd rfl (Or.inl rfl)) (pgs_cons (pg_name (i := 14) sc19.nd rfl (Or.inl rfl)) pgs_nil))) (by decide) (fun _ _ _ _ _ => ts_nil) (fun _ _ _ _ _ => (c_tup (c_cons (c_pv 13) (c_cons (c_callTy bo_tuple (by rfl) B.tuple_ (by decide +kernel) (c_cons (c_pv 14) c_nil)) c_nil)))) rfl) c_nil)) (c_cons (c_callTy bo_tuple (by rfl) B.tuple_ (by decide +kernel) (c_cons (c_ix (c_pv 3) c_int) c_nil)) c_nil))))) (s_cons (s_for PassesOwn.never rfl (i_seq (c_tup (c_cons (c_pv 3) (c_cons (c_pv 7) c_nil)))) (g_name (i := 8) sc19.nd rfl (Or.inl rfl)) (s_cons (s_set (i := 9) sc19.nd rfl (Or.inl rfl) (c_cal Cbinding_places hG (hr.mono (by decide)) (by rfl) (fun _ => passes0) (c_cons (c_pv 8) c_nil))) (s_cons (s_if (t_not (t_tru (c_cal C_law_same hG (hr.mono (by decide)) (by rfl) (fun _ => passes0) (c_cons (c_pv 9) (c_cons (c_pv 6) c_nil))))) (s_one (s_ret c_bl)) s_nil) (s_one (s_drop (c_meth mo_append (fun _ _ h1 h2 => pe_bm PySem.F.plainAttrs_list PySem.F.slot_list_append PySem.F.type_list_append mt_W h1 h2) (c_pv 9) (c_cons c_int c_nil))))))) (s_cons (s_if (t_b (b_or (t_cmp hu (c_cal Cbinding_places hG (hr.mono (by decide)) (by rfl) (fun _ => passes0) (c_cons (c_tup (c_cons (c_bin false (c_lst false (c_cons c_int c_nil)) (c_pv 4)) (c_cons (c_ix (c_pv 3) c_int) (c_cons (c_ix (c_pv 3) c_int) c_nil)))) c_nil)) (c_lst false c_nil) (nomark _)) (b_or1 (t_cmp hu (c_callB (bo_repr hG hu) (by rfl) B.repr (by decide +kernel) (c_cons (c_pv 3) c_nil)) (c_pv 5) (nomark _))))) (s_one (s_ret c_bl)) s_nil) (s_cons (s_set (i := 10) sc19.nd rfl (Or.inl rfl) (c_tup (c_cons (c_bin false (c_lst false (c_cons c_int c_nil)) (c_bin false (c_lst false (c_cons c_int c_nil)) c_int)) (c_cons (c_lc false (own := [("one", 8)]) rfl sc19.nd (i_seq (c_ix (c_pv 3) c_int)) (blkOk_by (N := ["script", "k", "box", "day", "hours", "seen", "due", "loose", "one", "told", "free", "still", "place", "room", "takes"]) (sc := (defScope s19)) (by decide +kernel)) (fun _ _ _ _ _ => (pg_name (i := 8) sc19.nd rfl (Or.inl rfl))) (by decide) (fun _ _ _ _ _ => ts_nil) (fun _ _ _ _ _ => (c_tup (c_cons c_int (c_cons (c_bin false (c_lst false (c_cons c_int c_nil)) c_int) c_nil)))) rfl) (c_cons (c_bin false (c_lst false (c_cons c_int c_nil)) c_int) c_nil))))) (s_cons (s_set (i := 11) sc19.nd rfl (Or.inl rfl) (c_tup (c_cons (c_ix (c_pv 3) c_int) (c_cons (c_ix (c_pv 3) c_int) (c_cons (c_bin false (c_lst false (c_cons c_int c_nil)) (c_pv 4)) c_nil))))) (s_one (s_if (t_b (b_or (t_cmp hu (c_cal Cbinding_places hG (hr.mono (by decide)) (by rfl) (fun _ => passes0) (c_cons (c_pv 10) c_nil)) (c_lst false c_nil) (nomark _)) (b_or1 (t_cmp hu (c_cal Cbinding_places hG (hr.mono (by decide)) (by rfl) (fun _ => passes0) (c_cons (c_pv 11) c_nil)) (c_tup (c_cons (c_lst false c_nil) (c_cons (c_lst false (c_cons (c_callB bo_len (by rfl) B.len (by decide +kernel) (c_cons (c_ix (c_pv 3) c_int) c_nil)) c_nil)) c_nil))) (by rfl))))) (s_one (s_ret c_bl)) s_nil)))))))))))) (s_one (s_ret c_bl)))
/-! ### what the top has written -/
theorem all_mk {l : PySem.W.OpenLaw} {w : World} {K : PySem.W.Frag} {h : Heap} {mg : Str → Option Value} {fa : Addr} (X : K.In h) (G : h.Ns mainGlobals mg) (hfa : mg "law" = some (.ref fa)) {f1 : Addr} {od1 an1 : Option Addr} {sl1 : Array (Option Value)} {oc1 kV1 dc1 pm1 cd1 ct1 : Value} {f2 : Addr} {od2 an2 : Option Addr} {sl2 : Array (Option Value)} {oc2 kV2 dc2 pm2 cd2 ct2 : Value} {f4 : Addr} {od4 an4 : Option Addr} {sl4 : Array (Option Value)} {oc4 kV4 dc4 pm4 cd4 ct4 : Value} {f5 : Addr} {od5 an5 : Option Addr} {sl5 : Array (Option Value)} {oc5 kV5 dc5 pm5 cd5 ct5 : Value} {f6 : Addr} {od6 an6 : Option Addr} {sl6 : Array (Option Value)} {oc6 kV6 dc6 pm6 cd6 ct6 : Value} {f7 : Addr} {od7 an7 : Option Addr} {sl7 : Array (Option Value)} {oc7 kV7 dc7 pm7 cd7 ct7 : Value} {f9 : Addr} {od9 an9 : Option Addr} {sl9 : Array (Option Value)} {oc9 kV9 dc9 pm9 cd9 ct9 : Value} {f10 : Addr} {od10 an10 : Option Addr} {sl10 : Array (Option Value)} {oc10 kV10 dc10 pm10 cd10 ct10 : Value} {f11 : Addr} {od11 an11 : Option Addr} {sl11 : Array (Option Value)} {oc11 kV11 dc11 pm11 cd11 ct11 : Value} {f12 : Addr} {od12 an12 : Option Addr} {sl12 : Array (Option Value)} {oc12 kV12 dc12 pm12 cd12 ct12 : Value} {f13 : Addr} {od13 an13 : Option Addr} {sl13 : Array (Option Value)} {oc13 kV13 dc13 pm13 cd13 ct13 : Value} {f14 : Addr} {od14 an14 : Option Addr} {sl14 : Array (Option Value)} {oc14 kV14 dc14 pm14 cd14 ct14 : Value} {f15 : Addr} {od15 an15 : Option Addr} {sl15 : Array (Option Value)} {oc15 kV15 dc15 pm15 cd15 ct15 : Value} {f16 : Addr} {od16 an16 : Option Addr} {sl16 : Array (Option Value)} {oc16 kV16 dc16 pm16 cd16 ct16 : Value} {f17 : Addr} {od17 an17 : Option Addr} {sl17 : Array (Option Value)} {oc17 kV17 dc17 pm17 cd17 ct17 : Value} {f18 : Addr} {od18 an18 : Option Addr} {sl18 : Array (Option Value)} {oc18 kV18 dc18 pm18 cd18 ct18 : Value} {f19 : Addr} {od19 an19 : Option Addr} {sl19 : Array (Option Value)} {oc19 kV19 dc19 pm19 cd19 ct19 : Value}
    (a1 : PySem.W.nsIn K mainGlobals "may_take" = some (some (.ref f1))) (l1 : K.lookup f1 = some ⟨oc1, od1, .func (PySem.W.fnOf "may_take" "may_take" (defArgs s1) (defBody s1) (defScope s1) .none kV1 dc1 pm1 an1 cd1 ct1), sl1⟩) (c1 : PySem.W.codeIn K cd1 "may_take" = true) (k1 : PySem.W.keepIn K (.ref f1) = true)
    (a2 : PySem.W.nsIn K mainGlobals "come_by" = some (some (.ref f2))) (l2 : K.lookup f2 = some ⟨oc2, od2, .func (PySem.W.fnOf "come_by" "come_by" (defArgs s2) (defBody s2) (defScope s2) .none kV2 dc2 pm2 an2 cd2 ct2), sl2⟩) (c2 : PySem.W.codeIn K cd2 "come_by" = true) (k2 : PySem.W.keepIn K (.ref f2) = true)
    (a4 : PySem.W.nsIn K mainGlobals "least_bound" = some (some (.ref f4))) (l4 : K.lookup f4 = some ⟨oc4, od4, .func (PySem.W.fnOf "least_bound" "least_bound" (defArgs s4) (defBody s4) (defScope s4) .none kV4 dc4 pm4 an4 cd4 ct4), sl4⟩) (c4 : PySem.W.codeIn K cd4 "least_bound" = true) (k4 : PySem.W.keepIn K (.ref f4) = true)
    (a5 : PySem.W.nsIn K mainGlobals "most_sums" = some (some (.ref f5))) (l5 : K.lookup f5 = some ⟨oc5, od5, .func (PySem.W.fnOf "most_sums" "most_sums" (defArgs s5) (defBody s5) (defScope s5) .none kV5 dc5 pm5 an5 cd5 ct5), sl5⟩) (c5 : PySem.W.codeIn K cd5 "most_sums" = true) (k5 : PySem.W.keepIn K (.ref f5) = true)
    (a6 : PySem.W.nsIn K mainGlobals "with_more" = some (some (.ref f6))) (l6 : K.lookup f6 = some ⟨oc6, od6, .func (PySem.W.fnOf "with_more" "with_more" (defArgs s6) (defBody s6) (defScope s6) .none kV6 dc6 pm6 an6 cd6 ct6), sl6⟩) (c6 : PySem.W.codeIn K cd6 "with_more" = true) (k6 : PySem.W.keepIn K (.ref f6) = true)
    (a7 : PySem.W.nsIn K mainGlobals "binding_places" = some (some (.ref f7))) (l7 : K.lookup f7 = some ⟨oc7, od7, .func (PySem.W.fnOf "binding_places" "binding_places" (defArgs s7) (defBody s7) (defScope s7) .none kV7 dc7 pm7 an7 cd7 ct7), sl7⟩) (c7 : PySem.W.codeIn K cd7 "binding_places" = true) (k7 : PySem.W.keepIn K (.ref f7) = true)
    (a9 : PySem.W.nsIn K mainGlobals "_law_cell_at" = some (some (.ref f9))) (l9 : K.lookup f9 = some ⟨oc9, od9, .func (PySem.W.fnOf "_law_cell_at" "_law_cell_at" (defArgs s9) (defBody s9) (defScope s9) .none kV9 dc9 pm9 an9 cd9 ct9), sl9⟩) (c9 : PySem.W.codeIn K cd9 "_law_cell_at" = true) (k9 : PySem.W.keepIn K (.ref f9) = true)
    (a10 : PySem.W.nsIn K mainGlobals "_law_box" = some (some (.ref f10))) (l10 : K.lookup f10 = some ⟨oc10, od10, .func (PySem.W.fnOf "_law_box" "_law_box" (defArgs s10) (defBody s10) (defScope s10) .none kV10 dc10 pm10 an10 cd10 ct10), sl10⟩) (c10 : PySem.W.codeIn K cd10 "_law_box" = true) (k10 : PySem.W.keepIn K (.ref f10) = true)
    (a11 : PySem.W.nsIn K mainGlobals "_law_take" = some (some (.ref f11))) (l11 : K.lookup f11 = some ⟨oc11, od11, .func (PySem.W.fnOf "_law_take" "_law_take" (defArgs s11) (defBody s11) (defScope s11) .none kV11 dc11 pm11 an11 cd11 ct11), sl11⟩) (c11 : PySem.W.codeIn K cd11 "_law_take" = true) (k11 : PySem.W.keepIn K (.ref f11) = true)
    (a12 : PySem.W.nsIn K mainGlobals "_law_ladles" = some (some (.ref f12))) (l12 : K.lookup f12 = some ⟨oc12, od12, .func (PySem.W.fnOf "_law_ladles" "_law_ladles" (defArgs s12) (defBody s12) (defScope s12) .none kV12 dc12 pm12 an12 cd12 ct12), sl12⟩) (c12 : PySem.W.codeIn K cd12 "_law_ladles" = true) (k12 : PySem.W.keepIn K (.ref f12) = true)
    (a13 : PySem.W.nsIn K mainGlobals "_law_day" = some (some (.ref f13))) (l13 : K.lookup f13 = some ⟨oc13, od13, .func (PySem.W.fnOf "_law_day" "_law_day" (defArgs s13) (defBody s13) (defScope s13) .none kV13 dc13 pm13 an13 cd13 ct13), sl13⟩) (c13 : PySem.W.codeIn K cd13 "_law_day" = true) (k13 : PySem.W.keepIn K (.ref f13) = true)
    (a14 : PySem.W.nsIn K mainGlobals "_law_some_day" = some (some (.ref f14))) (l14 : K.lookup f14 = some ⟨oc14, od14, .func (PySem.W.fnOf "_law_some_day" "_law_some_day" (defArgs s14) (defBody s14) (defScope s14) .none kV14 dc14 pm14 an14 cd14 ct14), sl14⟩) (c14 : PySem.W.codeIn K cd14 "_law_some_day" = true) (k14 : PySem.W.keepIn K (.ref f14) = true)
    (a15 : PySem.W.nsIn K mainGlobals "_law_same" = some (some (.ref f15))) (l15 : K.lookup f15 = some ⟨oc15, od15, .func (PySem.W.fnOf "_law_same" "_law_same" (defArgs s15) (defBody s15) (defScope s15) .none kV15 dc15 pm15 an15 cd15 ct15), sl15⟩) (c15 : PySem.W.codeIn K cd15 "_law_same" = true) (k15 : PySem.W.keepIn K (.ref f15) = true)
    (a16 : PySem.W.nsIn K mainGlobals "_law_greatest" = some (some (.ref f16))) (l16 : K.lookup f16 = some ⟨oc16, od16, .func (PySem.W.fnOf "_law_greatest" "_law_greatest" (defArgs s16) (defBody s16) (defScope s16) .none kV16 dc16 pm16 an16 cd16 ct16), sl16⟩) (c16 : PySem.W.codeIn K cd16 "_law_greatest" = true) (k16 : PySem.W.keepIn K (.ref f16) = true)
    (a17 : PySem.W.nsIn K mainGlobals "_law_more" = some (some (.ref f17))) (l17 : K.lookup f17 = some ⟨oc17, od17, .func (PySem.W.fnOf "_law_more" "_law_more" (defArgs s17) (defBody s17) (defScope s17) .none kV17 dc17 pm17 an17 cd17 ct17), sl17⟩) (c17 : PySem.W.codeIn K cd17 "_law_more" = true) (k17 : PySem.W.keepIn K (.ref f17) = true)
    (a18 : PySem.W.nsIn K mainGlobals "_law_struck" = some (some (.ref f18))) (l18 : K.lookup f18 = some ⟨oc18, od18, .func (PySem.W.fnOf "_law_struck" "_law_struck" (defArgs s18) (defBody s18) (defScope s18) .none kV18 dc18 pm18 an18 cd18 ct18), sl18⟩) (c18 : PySem.W.codeIn K cd18 "_law_struck" = true) (k18 : PySem.W.keepIn K (.ref f18) = true)
    (a19 : PySem.W.nsIn K mainGlobals "law" = some (some (.ref f19))) (l19 : K.lookup f19 = some ⟨oc19, od19, .func (PySem.W.fnOf "law" "law" (defArgs s19) (defBody s19) (defScope s19) .none kV19 dc19 pm19 an19 cd19 ct19), sl19⟩) (c19 : PySem.W.codeIn K cd19 "law" = true) (k19 : PySem.W.keepIn K (.ref f19) = true)
    (z_abs : PySem.W.nsIn K mainGlobals "abs" = some none)
    (z_all : PySem.W.nsIn K mainGlobals "all" = some none)
    (z_bool : PySem.W.nsIn K mainGlobals "bool" = some none)
    (z_enumerate : PySem.W.nsIn K mainGlobals "enumerate" = some none)
    (z_int : PySem.W.nsIn K mainGlobals "int" = some none)
    (z_isinstance : PySem.W.nsIn K mainGlobals "isinstance" = some none)
    (z_len : PySem.W.nsIn K mainGlobals "len" = some none)
    (z_list : PySem.W.nsIn K mainGlobals "list" = some none)
    (z_max : PySem.W.nsIn K mainGlobals "max" = some none)
    (z_min : PySem.W.nsIn K mainGlobals "min" = some none)
    (z_range : PySem.W.nsIn K mainGlobals "range" = some none)
    (z_repr : PySem.W.nsIn K mainGlobals "repr" = some none)
    (z_reversed : PySem.W.nsIn K mainGlobals "reversed" = some none)
    (z_str : PySem.W.nsIn K mainGlobals "str" = some none)
    (z_sum : PySem.W.nsIn K mainGlobals "sum" = some none)
    (z_tuple : PySem.W.nsIn K mainGlobals "tuple" = some none)
    (z_zip : PySem.W.nsIn K mainGlobals "zip" = some none) :
    ∃ fd : FuncData, (∀ (s : Shared) (v : Value), BindsTo s fd ⟨[v], []⟩ [("script", v)]) ∧ ∀ base : Heap, K.In base → base.Ns mainGlobals mg → FnG l.prog w K mg base CX0 6 fa fd ["script"] (spOf K mg 1 Flaw) := by
  have e := hfa.symm.trans (PySem.W.mg_of X G a19)
  cases e
  have B : Blt mg := ⟨PySem.W.mg_none_of X G z_abs, PySem.W.mg_none_of X G z_all, PySem.W.mg_none_of X G z_bool, PySem.W.mg_none_of X G z_enumerate, PySem.W.mg_none_of X G z_int, PySem.W.mg_none_of X G z_isinstance, PySem.W.mg_none_of X G z_len, PySem.W.mg_none_of X G z_list, PySem.W.mg_none_of X G z_max, PySem.W.mg_none_of X G z_min, PySem.W.mg_none_of X G z_range, PySem.W.mg_none_of X G z_repr, PySem.W.mg_none_of X G z_reversed, PySem.W.mg_none_of X G z_str, PySem.W.mg_none_of X G z_sum, PySem.W.mg_none_of X G z_tuple, PySem.W.mg_none_of X G z_zip⟩
  refine ⟨PySem.W.fnOf "law" "law" (defArgs s19) (defBody s19) (defScope s19) .none kV19 dc19 pm19 an19 cd19 ct19, fun s v => .of_eq rfl, fun base _ _ => ?_⟩
  have Cmay_take := calmay_take (P := l.prog) (w := w) (base := base) B (fun_mk (st := s1) l1 c1 k1) (PySem.W.mg_of X G a1) 
  have Ccome_by := calcome_by (P := l.prog) (w := w) (base := base) B (fun_mk (st := s2) l2 c2 k2) (PySem.W.mg_of X G a2) 
  have Cleast_bound := calleast_bound (P := l.prog) (w := w) (base := base) B (fun_mk (st := s4) l4 c4 k4) (PySem.W.mg_of X G a4) Cmay_take Ccome_by
  have Cmost_sums := calmost_sums (P := l.prog) (w := w) (base := base) B (fun_mk (st := s5) l5 c5 k5) (PySem.W.mg_of X G a5) Cleast_bound
  have Cwith_more := calwith_more (P := l.prog) (w := w) (base := base) B (fun_mk (st := s6) l6 c6 k6) (PySem.W.mg_of X G a6) 
  have Cbinding_places := calbinding_places (P := l.prog) (w := w) (base := base) B (fun_mk (st := s7) l7 c7 k7) (PySem.W.mg_of X G a7) Cmost_sums Cwith_more
  have C_law_cell_at := cal_law_cell_at (P := l.prog) (w := w) (base := base) B (fun_mk (st := s9) l9 c9 k9) (PySem.W.mg_of X G a9) 
  have C_law_box := cal_law_box (P := l.prog) (w := w) (base := base) B (fun_mk (st := s10) l10 c10 k10) (PySem.W.mg_of X G a10) C_law_cell_at
  have C_law_take := cal_law_take (P := l.prog) (w := w) (base := base) B (fun_mk (st := s11) l11 c11 k11) (PySem.W.mg_of X G a11) 
  have C_law_ladles := cal_law_ladles (P := l.prog) (w := w) (base := base) B (fun_mk (st := s12) l12 c12 k12) (PySem.W.mg_of X G a12) C_law_take
  have C_law_day := cal_law_day (P := l.prog) (w := w) (base := base) B (fun_mk (st := s13) l13 c13 k13) (PySem.W.mg_of X G a13) C_law_take C_law_ladles
  have C_law_some_day := cal_law_some_day (P := l.prog) (w := w) (base := base) B (fun_mk (st := s14) l14 c14 k14) (PySem.W.mg_of X G a14) C_law_take C_law_day
  have C_law_same := cal_law_same (P := l.prog) (w := w) (base := base) B (fun_mk (st := s15) l15 c15 k15) (PySem.W.mg_of X G a15)  5
  have C_law_greatest := cal_law_greatest (P := l.prog) (w := w) (base := base) B (fun_mk (st := s16) l16 c16 k16) (PySem.W.mg_of X G a16) 
  have C_law_more := cal_law_more (P := l.prog) (w := w) (base := base) B (fun_mk (st := s17) l17 c17 k17) (PySem.W.mg_of X G a17) 
  have C_law_struck := cal_law_struck (P := l.prog) (w := w) (base := base) B (fun_mk (st := s18) l18 c18 k18) (PySem.W.mg_of X G a18) C_law_greatest
  exact law_fn (fun_mk (st := s19) l19 c19 k19) B C_law_box C_law_some_day C_law_struck C_law_more Cbinding_places C_law_same
end Gk67

namespace Gk67
open PySem Z L2
/-! ### draws -/
theorem cell_at (ns : List Int) (k : Nat) (st : Store) : ∃ z, F_law_cell_at [.s ns, .d (.int k)] st = .ok (.d (.int z)) st := by
  by_cases h : k < ns.length
  · exact ⟨ns[k], by simp [F_law_cell_at, hand_le, h]⟩
  · exact ⟨0, by simp [F_law_cell_at, hand_le, h]⟩
theorem box_ok (ns : List Int) (k : Nat) (hk : k ≤ 100) (st : Store) (hc : Cl st) : ∃ st1, F_law_box [.s ns, .d (.int k)] st = .ok (.c st.length) st1 ∧ BoxAt st.length 0 st1 ∧ Cl st1 ∧ st1.length = st.length + 1 ∧ (∀ i, i < st.length → st1[i]? = st[i]?) := by
  obtain ⟨z, hz⟩ := cell_at ns k st
  have e1 : (10 : Int) ^ (18 : Nat) = 1000000000000000000 := by decide
  have h2 := Int.emod_nonneg z (show (2305843009213693951 : Int) ≠ 0 by decide)
  have h3 := Int.emod_lt_of_pos z (show (0 : Int) < 2305843009213693951 by decide)
  have hm1 : ∀ x y : Int, 0 ≤ y → y ≤ 1 → mulOk x y := fun x y h1 h2 => .inr (.inl (by omega))
  have hm2 : mulOk 39373 (k : Int) := .inl (by decide)
  have hp : powOk 10 18 := by decide
  refine ⟨st ++ [some [.d (.int ((if z < 0 then -z else z) * (if 1000000000000000000 ≤ (if z < 0 then -z else z) then 1 else 0))), .d (.int (z % 2305843009213693951 + 39373 * k + 17)), .d (.int 0)]], ?_,
    ⟨(if z < 0 then -z else z) * (if 1000000000000000000 ≤ (if z < 0 then -z else z) then 1 else 0), z % 2305843009213693951 + 39373 * k + 17, 0, ?_, ?_, ?_, ?_, ?_, ?_⟩, ?_, ?_, ?_⟩
  · have hm3 := hm1 (if z < 0 then -z else z) (if 1000000000000000000 ≤ (if z < 0 then -z else z) then 1 else 0) (by split <;> omega) (by split <;> omega)
    simp [F_law_box, hz, hp, hm2, hm3, mkL_c, Int.fmod_eq_emod_of_nonneg]
  · simp
  · split <;> split <;> omega
  · omega
  · omega
  · omega
  · omega
  · exact hc.add (below_ds (ds := [_, _, _]))
  · simp
  · intro i hi; exact List.getElem?_append_left hi
theorem take_ok {n : Nat} {B m : Int} {st : Store} (hb : BoxAt n B st) (h0 : 0 < m) (hm : m ≤ 1000000000) (hB : B ≤ 1000000000) :
    ∃ r st', F_law_take [.c n, .d (.int m)] st = .ok (.d (.int r)) st' ∧ 0 ≤ r ∧ r < m ∧ Put n (B + 1) st st' := by
  obtain ⟨a, b, c, h1, h2, h3, h4, h5, h6⟩ := hb
  have hn : n < st.length := (List.getElem?_eq_some_iff.mp h1).1
  have hm' : divOk m := ⟨by omega, Nat.lt_trans (PySem.Flt.log2_lt_of (k := 30) (by decide) (by omega)) (by decide)⟩
  have h64 : divOk 64 := by decide
  by_cases ha : 0 < a
  · refine ⟨a % m, _, ?_, Int.emod_nonneg _ (by omega), Int.emod_lt_of_pos _ h0, a / m, b, c, rfl, hn, ?_, h3, h4, h5, by omega⟩
    · simp [F_law_take, e_ixC _ _ h1, ha, hm', e_setC' _ _ h1, hand_le, fm (Int.le_of_lt h0), fd (Int.le_of_lt h0), Int.ne_of_gt h0]
    · exact Int.ediv_nonneg h2 (Int.le_of_lt h0)
  · have k1 : mulOk 48271 (c + 1) := .inl (by decide)
    have k2 : mulOk (b + 48271 * (c + 1)) (39373 + (c + 1)) := .inr (.inl (by omega))
    have q0 : 0 ≤ (b + 48271 * (c + 1)) * (39373 + (c + 1)) := Int.mul_nonneg (by omega) (by omega)
    have q1 := Int.emod_nonneg ((b + 48271 * (c + 1)) * (39373 + (c + 1))) (show (2147483647 : Int) ≠ 0 by decide)
    have q2 := Int.emod_lt_of_pos ((b + 48271 * (c + 1)) * (39373 + (c + 1))) (show (0 : Int) < 2147483647 by decide)
    generalize hx : (b + 48271 * (c + 1)) * (39373 + (c + 1)) % 2147483647 = x at q1 q2
    have q3 := Int.emod_nonneg x (show (40009 : Int) ≠ 0 by decide)
    have q4 := Int.emod_lt_of_pos x (show (0 : Int) < 40009 by decide)
    have k3 : mulOk (x + (c + 1)) (x % 40009 + 7) := .inl (by omega)
    have q5 := Int.emod_nonneg ((x + (c + 1)) * (x % 40009 + 7)) (show (2147483629 : Int) ≠ 0 by decide)
    have q6 := Int.emod_lt_of_pos ((x + (c + 1)) * (x % 40009 + 7)) (show (0 : Int) < 2147483629 by decide)
    generalize hy : (x + (c + 1)) * (x % 40009 + 7) % 2147483629 = y at q5 q6
    have k4 : mulOk y 48271 := .inr (.inl (by decide))
    refine ⟨(y * 48271 + x) % 2147483587 / 64 % m, _, ?_, Int.emod_nonneg _ (by omega), Int.emod_lt_of_pos _ h0, a, b, c + 1, rfl, hn, h2, h3, h4, by omega, by omega⟩
    · simp [F_law_take, e_ixC _ _ h1, ha, hm', e_setC' _ _ h1, e_ixCs _ _ hn, hand_le, fm, fd, fm (Int.le_of_lt h0), Int.ne_of_gt h0, k1, k2, k3, k4, h64, hx, hy]
theorem ladles_ok {n H : Nat} {B W : Int} {st : Store} (hb : BoxAt n B st) (hB : 0 ≤ B ∧ B ≤ 100000) (hH : H ≤ 1000) (hW : 0 ≤ W ∧ W ≤ 1000000) (h1H : 1 ≤ H) :
    ∃ l st', F_law_ladles [.c n, .d (.int H), .d (.int W)] st = .ok (.d (dInts l)) st' ∧ Lad H W l ∧ Put n (B + 1 + 3 * H) st st' := by
  obtain ⟨way, st1, w1, w2, w3, p1⟩ := take_ok (m := 6) hb (by decide) (by decide) (by omega)
  by_cases hw : way < 2
  · have q : ∀ k : Int, (List.replicate H (PyData.int k)) = (List.replicate H k).map PyData.int := fun k => by rw [List.map_replicate]
    have q2 : ∀ k : Int, mkL false (List.replicate H (Val.d (.int k))) st1 = .ok (.d (dInts (List.replicate H k))) st1 := fun k => by
      rw [← List.map_replicate (f := Val.d), mkL_f _ _ (by simp; omega), q]
      rfl
    have hl : st1.length ≤ st.length := Nat.le_of_eq p1.len
    have hr : -1000000 ≤ (H : Int) ∧ (H : Int) ≤ 1000000 := by omega
    have hlad : ∀ k : Int, 0 ≤ k → k ≤ W → Lad H W (List.replicate H k) := fun k a c => ⟨by simp, fun z hz => by rw [(List.mem_replicate.mp hz).2]; exact ⟨a, c⟩⟩
    rcases (by omega : way = 0 ∨ way = 1) with rfl | rfl
    · refine ⟨List.replicate H W, st1, ?_, hlad _ hW.1 (Int.le_refl _), p1.mono (by omega)⟩
      simp [F_law_ladles, w1, q2, hr, hand_le, hl]
    · refine ⟨List.replicate H 0, st1, ?_, hlad _ (Int.le_refl _) hW.1, p1.mono (by omega)⟩
      simp [F_law_ladles, w1, q2, hr, hand_le, hl]
  · let env0 : Z.Env := [some (.c n), some (.d (.int H)), some (.d (.int W)), some (.d (.int way)), none]
    obtain ⟨acc, st2, l1, ds, l2, l3, l4, l5⟩ := lcL_inv (gs := []) (lt := .n 4) (tt := tYesT) (env0 := env0) (fe := (bIx (bLst false [(bCall 2 F_law_take [(bVar 0), (bBin false .Add (bVar 2) (bC (.int 1)))]), (bC (.int 0)), (bVar 2), (bCall 2 F_law_take [(bVar 0), (bBin false .Add (bVar 2) (bC (.int 1)))])]) (bCall 2 F_law_take [(bVar 0), (bC (.int 4))]))) (fun j acc st' => ∃ ds : List Int, acc = ds.map (fun z => Val.d (.int z)) ∧ ds.length = j ∧ (∀ z ∈ ds, 0 ≤ z ∧ z ≤ W) ∧ Put n (B + 1 + 3 * j) st st')
      (intsR 0 H) 0 [] st1 ⟨[], rfl, rfl, by simp, p1.mono (by omega)⟩ (fun j acc st' _ _ h => ⟨holds0 _, by obtain ⟨ds, rfl, h, _⟩ := h; rw [List.length_map]; exact h⟩) (by simp; omega)
      (fun j x acc st' hx hI => by
        obtain ⟨rfl, hj⟩ := intsR_get hx
        obtain ⟨ds, rfl, i2, i3, i4⟩ := hI
        obtain ⟨r1, st3, a1, a2, a3, a4⟩ := take_ok (m := W + 1) i4.box (by omega) (by omega) (by omega)
        obtain ⟨r2, st4, b1, b2, b3, b4⟩ := take_ok (m := W + 1) a4.box (by omega) (by omega) (by omega)
        obtain ⟨r3, st5, c1, c2, c3, c4⟩ := take_ok (m := 4) b4.box (by omega) (by omega) (by omega)
        have hp : Put n (B + 1 + 3 * ((0 + j + 1 : Nat) : Int)) st st5 := ((((i4.trans a4)).trans b4).trans c4).mono (by omega)
        rcases (by omega : r3 = 0 ∨ r3 = 1 ∨ r3 = 2 ∨ r3 = 3) with rfl | rfl | rfl | rfl
        · exact ⟨_, st', _, st5, rfl, rfl, by simp [env0, a1, b1, c1]; rfl, ds ++ [r1], by simp, by simp; omega, by simpa [or_imp, forall_and] using ⟨⟨fun z h => (i3 z h).1, a2⟩, fun z h => (i3 z h).2, by omega⟩, hp⟩
        · exact ⟨_, st', _, st5, rfl, rfl, by simp [env0, a1, b1, c1]; rfl, ds ++ [0], by simp, by simp; omega, by simpa [or_imp, forall_and] using ⟨fun z h => (i3 z h).1, fun z h => (i3 z h).2, by omega⟩, hp⟩
        · exact ⟨_, st', _, st5, rfl, rfl, by simp [env0, a1, b1, c1]; rfl, ds ++ [W], by simp, by simp; omega, by simpa [or_imp, forall_and] using ⟨⟨fun z h => (i3 z h).1, hW.1⟩, fun z h => (i3 z h).2⟩, hp⟩
        · exact ⟨_, st', _, st5, rfl, rfl, by simp [env0, a1, b1, c1]; rfl, ds ++ [r2], by simp, by simp; omega, by simpa [or_imp, forall_and] using ⟨⟨fun z h => (i3 z h).1, b2⟩, fun z h => (i3 z h).2, by omega⟩, hp⟩)
    subst l2
    rw [intsR_length, Nat.zero_add] at l3 l5
    refine ⟨ds, st2, ?_, ⟨l3, l4⟩, l5⟩
    have hl : st2.length ≤ st.length := Nat.le_of_eq l5.len
    simp [F_law_ladles, w1, hw, e_rng1 _ _ (show -1000000000 ≤ (H : Int) ∧ (H : Int) ≤ 1000000000 by omega), env0] at l1 ⊢
    rw [l1]
    simp only [e_bind_ok]
    rw [show (fun z => Val.d (PyData.int z)) = Val.d ∘ PyData.int from rfl, mkL_ints st2 ds (by omega)]
    simp [hand_le, hl]
/-! ### days -/
theorem day_ok {n H P : Nat} {B W : Int} {st : Store} (hb : BoxAt n B st) (hc : Cl st) (hB : 0 ≤ B ∧ B ≤ 50000) (hH : 1 ≤ H ∧ H ≤ 48) (hP : P ≤ 8) (hW : 1 ≤ W ∧ W ≤ 1000000) :
    ∃ D st', F_law_day [.c n, .d (.int H), .d (.int P), .d (.int W)] st = .ok (.d D.pd) st' ∧ DayOk H P W D ∧ Put n (B + 4000) st st' := by
  let env0 : Option Val → Z.Env := fun x => [some (.c n), some (.d (.int H)), some (.d (.int P)), some (.d (.int W)), some (.c st.length), x, none, none]
  have hn := hb.lt
  obtain ⟨env1, st1, f1, ps, x5, s1, rfl, f3, f4, f5, rfl⟩ := forL_inv (gs := []) (t := tgN 5) (b := L_law_day_1) (fun j env st' => ∃ ps : List (Int × List Int), ∃ x5 s1, env = env0 x5 ∧ ps.length = j ∧ (∀ p ∈ ps, 1 ≤ p.1 ∧ p.1 ≤ 3 * W + 1 ∧ Lad H W p.2) ∧ Put n (B + 200 * j) st s1 ∧ st' = s1 ++ [some (dPots ps)])
    (intsR 0 P) 0 (env0 none) (st ++ [some []]) ⟨[], none, st, rfl, rfl, by simp, hb.put.mono (by omega), rfl⟩ (fun _ _ _ _ _ _ => holds0 _)
    (fun j x env st' hx hI => by
      obtain ⟨rfl, hj⟩ := intsR_get hx
      obtain ⟨ps, x5, s1, rfl, i2, i3, i4, rfl⟩ := hI
      obtain ⟨r1, st3, a1, a2, a3, a4⟩ := take_ok (m := 3) (i4.add (some (dPots ps))).box (by omega) (by omega) (by omega)
      obtain ⟨r2, st4, b1, b2, b3, b4⟩ := take_ok (m := if r1 = 0 then 1 else if r1 = 1 then W else 3 * W) a4.box (by omega) (by omega) (by omega)
      obtain ⟨l, st5, c1, c2, c3⟩ := ladles_ok (H := H) (W := W) b4.box (by omega) (by omega) (by omega) (by omega)
      obtain ⟨s5, rfl, p5⟩ := ((a4.trans b4).trans c3).add_inv (by rw [i4.len]; exact hn)
      have e5 : st.length = s5.length := by rw [p5.len, i4.len]
      refine ⟨_, _, .inl ?_, ps ++ [(1 + r2, l)], some (.d (.int (0 + j))), s5, rfl, by simp; omega, by simpa [or_imp, forall_and] using ⟨⟨fun a b h => (i3 (a, b) h).1, by omega⟩, ⟨fun a b h => (i3 (a, b) h).2.1, by omega⟩, fun a b h => (i3 (a, b) h).2.2, c2⟩, (i4.trans p5).mono (by omega), by rw [dPots_snoc]⟩
      have ea : ∀ ys, mAppend (.c st.length) [ys] (s5 ++ [some (dPots ps)]) = .ok (.d .none) (s5 ++ [some (dPots ps ++ [ys])]) := fun ys => e_appL s5 ys e5 (by rw [dPots_len]; omega)
      have eg : (s1 ++ [some (dPots ps)])[st.length]? = some (some (dPots ps)) := last_get s1 _ (by rw [i4.len])
      have em : mulOk 3 W := .inl (by decide)
      have hix : atI [PyData.int 1, .int W, .int (3 * W)] r1 = some (.int (if r1 = 0 then 1 else if r1 = 1 then W else 3 * W)) := by
        rcases (by omega : r1 = 0 ∨ r1 = 1 ∨ r1 = 2) with rfl | rfl | rfl <;> simp
      show (kDrop (bMeth mAppend (bVar 4) _) ((env0 x5).set 5 (some (.d (.int (0 + j))))) _) = _
      rw [e_drop, e_meth (n := st.length) (st1 := s1 ++ [some (dPots ps)]) (hf := rfl) (h := eg)]
      simp [env0, a1, em, hix, b1, c1, ea, dPots_snoc, dPot])
  rw [intsR_length, Nat.zero_add] at f3 f5
  have e1 : st.length = s1.length := f5.len.symm
  let ds : List Val := dPots ps
  obtain ⟨l1, st2, a1, a2, a3⟩ := ladles_ok (H := H) (W := W) ((f5.add (some ds)).box) (by omega) (by omega) (by omega) (by omega)
  obtain ⟨l2, st3, b1, b2, b3⟩ := ladles_ok (H := H) (W := W) a3.box (by omega) (by omega) (by omega) (by omega)
  obtain ⟨s3, rfl, p3⟩ := (a3.trans b3).add_inv (by rw [f5.len]; exact hn)
  have q := f5.trans p3
  have e3 : s3.length = st.length := q.len
  let g : Int × List Int → Int × List Int := fun p => (if p.1 < 1000000 then p.1 else 1000000, p.2)
  have hit : itOf (.c st.length) (s1 ++ [some ds]) = .ok ⟨ds, [(st.length, ds)]⟩ (s1 ++ [some ds]) := e_itC _ (last_get s1 _ e1)
  have hlc := lcL_map (gs := [(st.length, ds)]) (lt := .t [6, 7]) (tt := tYesT) (env0 := env0 x5) (fe := (bTup [(bCallB sMin2 [(bBin false .Pow (bC (.int 10)) (bC (.int 6))), (bVar 6)]), (bVar 7)])) (holds1 (last_get s1 _ e1))
    (fun x => match x with | .d (.tuple [.int a, y]) => .d (.tuple [.int (if a < 1000000 then a else 1000000), y]) | x => x) ds [] (by simp [ds, dPots_len]; omega) fun x hx => by
      obtain ⟨d, hd, rfl⟩ := List.mem_map.mp hx
      obtain ⟨p, hp, rfl⟩ := List.mem_map.mp hd
      have hpw : powOk 10 6 := by decide
      refine ⟨_, rfl, rfl, ?_⟩
      simp [env0, hpw, dPot]
  have hm : (ds.map fun x => match x with | .d (.tuple [.int a, y]) => Val.d (.tuple [.int (if a < 1000000 then a else 1000000), y]) | x => x) = dPots (ps.map g) := by
    simp [ds, g, dPots, dPot]
  rw [hm, List.nil_append] at hlc
  have hmk : mkL false (dPots (ps.map g)) (s1 ++ [some ds]) = .ok (.d (.list ((ps.map g).map dPot))) (s1 ++ [some ds]) := mkL_f _ _ (by simp; omega)
  refine ⟨⟨l1, ps.map g, l2⟩, s3, ?_, ⟨a2, b2, by simp [f3], fun p hp => ?_⟩, q.mono (by omega)⟩
  · have hr : -1000000000 ≤ (P : Int) ∧ (P : Int) ≤ 1000000000 := by omega
    have hmk0 : mkL true [] st = .ok (.c st.length) (st ++ [some []]) := mkL_c st [] (by simp)
    have hh : handB st.length (.d (Day.mk l1 (ps.map g) l2).pd) (s3 ++ [some ds]) = .ok (.d (Day.mk l1 (ps.map g) l2).pd) s3 := hand_d _ e3.symm (by rw [← e3]; simp) (q.cl hc)
    simp [Day.pd] at hh
    simp only [F_law_day, env0, ds] at *
    simp [hmk0, e_rng1 _ _ hr, f1, hit, hlc, hmk, a1, b1, hh, Day.pd]
  · obtain ⟨p', hp', rfl⟩ := List.mem_map.mp hp
    obtain ⟨k1, k2, k3⟩ := f4 p' hp'
    refine ⟨?_, ?_, ?_, k3⟩ <;> (simp only [g]; split <;> omega)
theorem some_day_ok {n : Nat} {B : Int} {st : Store} (hb : BoxAt n B st) (hc : Cl st) (hB : 0 ≤ B ∧ B ≤ 40000) :
    ∃ D H P W st', F_law_some_day [.c n] st = .ok (.d D.pd) st' ∧ (1 ≤ H ∧ H ≤ 48) ∧ (1 ≤ P ∧ P ≤ 8) ∧ (1 ≤ W ∧ W ≤ 1000000) ∧ DayOk H P W D ∧ Put n (B + 5000) st st' := by
  obtain ⟨r1, st1, a1, a2, a3, a4⟩ := take_ok (m := 6) hb (by decide) (by decide) (by omega)
  obtain ⟨r2, st2, b1, b2, b3, b4⟩ := take_ok (m := 3) a4.box (by decide) (by decide) (by omega)
  obtain ⟨r3, st3, c1, c2, c3, c4⟩ := take_ok (m := 8) b4.box (by decide) (by decide) (by omega)
  obtain ⟨r4, st4, d1, d2, d3, d4⟩ := take_ok (m := 3) c4.box (by decide) (by decide) (by omega)
  have q := ((a4.trans b4).trans c4).trans d4
  have hW : ∃ W : Int, (1 ≤ W ∧ W ≤ 1000000) ∧ atI [PyData.int 3, .int 20, .int 1000000] r4 = some (.int W) := by
    rcases (by omega : r4 = 0 ∨ r4 = 1 ∨ r4 = 2) with rfl | rfl | rfl
    · exact ⟨3, by decide, by simp⟩
    · exact ⟨20, by decide, by simp⟩
    · exact ⟨1000000, by decide, by simp⟩
  obtain ⟨W, hW, hW'⟩ := hW
  have hHP : ∃ H P : Nat, (1 ≤ H ∧ H ≤ 48) ∧ (1 ≤ P ∧ P ≤ 8) ∧ atI [PyData.tuple [.int (1 + r1), .int (1 + r2)], .tuple [.int 48, .int 8]] (if r3 = 0 then 1 else 0) = some (.tuple [.int H, .int P]) := by
    by_cases h : r3 = 0
    · exact ⟨48, 8, by decide, by decide, by simp [h]⟩
    · obtain ⟨x, rfl⟩ := Int.eq_ofNat_of_zero_le a2
      obtain ⟨y, rfl⟩ := Int.eq_ofNat_of_zero_le b2
      exact ⟨1 + x, 1 + y, by omega, by omega, by simp [h]⟩
  obtain ⟨H, P, hH, hP, hHP⟩ := hHP
  have hp : powOk 10 6 := by decide
  obtain ⟨D, st5, e1, e2, e3⟩ := day_ok (H := H) (P := P) (W := W) d4.box (q.cl hc) (by omega) hH hP.2 hW
  refine ⟨D, H, P, W, st5, ?_, hH, hP, hW, e2, (q.trans e3).mono (by omega)⟩
  have hl : st5.length ≤ st.length := Nat.le_of_eq (q.trans e3).len
  simp [F_law_some_day, a1, b1, c1, hHP, d1, hp, hW', e1, hand_le, hl]
/-! ### bounds -/
theorem may_take_V {D : Day} (s : D.Shape) {y : PyData} (v : DayV D y) {p h : Nat} (hp : p ≤ D.P) (hh : h < D.H) (st : Store) : Fmay_take [.d y, .d (.int p), .d (.int h)] st = .ok (.d (.int (D.may p h))) st := by
  obtain ⟨t0, t1, t2, ks, rfl, hk, hks⟩ := v.ex
  by_cases e : p < D.P
  · obtain ⟨l, h1, h2, _⟩ := s.pot e hh
    obtain ⟨t, h3⟩ := hks p _ _ h1
    obtain ⟨_, h3'⟩ := List.getElem?_eq_some_iff.mp h3
    have e' : (p : Int) < (D.P : Int) := by omega
    simp -implicitDefEqProofs [Fmay_take, hand_le, hk, e, e', h3', h2]
  · obtain rfl : p = D.P := by omega
    have h1 := s.strike hh
    simp -implicitDefEqProofs [Fmay_take, hand_le, hk, e, h1]
theorem come_by_V {D : Day} {y : PyData} (v : DayV D y) {h : Nat} (hH : D.H ≤ 1000) (st : Store) : Fcome_by [.d y, .d (.int h)] st = .ok (.d (.int (D.come h))) st := by
  obtain ⟨t, t1, t2, ks, rfl, hk, hks⟩ := v.ex
  have hl : (D.comes.take (h + 1)).length ≤ 1000000 := by
    have : D.comes.length ≤ 1000 := hH
    simp; omega
  have m1 : mkL false (List.take (h + 1) (List.map (Val.d ∘ PyData.int) D.comes)) st = .ok (.d (.list (List.take (h + 1) (List.map PyData.int D.comes)))) st := by
    rw [← List.map_take, mkL_ints _ _ hl, ← List.map_take]; rfl
  have m2 : mkT (List.take (h + 1) (List.map (Val.d ∘ PyData.int) D.comes)) st = .ok (.d (.tuple (List.take (h + 1) (List.map PyData.int D.comes)))) st := by
    rw [← List.map_take, mkT_ints _ _ hl, ← List.map_take]
  have n1 : sSum [.d (.list (List.take (h + 1) (List.map PyData.int D.comes)))] st = .ok (.d (.int (D.come h))) st := by
    rw [← List.map_take]; exact e_sumL st _
  have n2 : sSum [.d (.tuple (List.take (h + 1) (List.map PyData.int D.comes)))] st = .ok (.d (.int (D.come h))) st := by
    rw [← List.map_take]; exact e_sumT st _
  cases t
  · simp -implicitDefEqProofs [Fcome_by, hand_le, cutL_to', m1, n1]
  · simp -implicitDefEqProofs [Fcome_by, hand_le, cutL_to', m2, n2]
theorem least_bound_V {D : Day} (s : D.Shape) {y : PyData} (v : DayV D y) (hH : D.H ≤ 1000) {g : Nat → Nat → Int} {p h : Nat} {x : Val} {st : Store} (hc : Cl st) (hp : p ≤ D.P) (hh : h < D.H)
    (r0 : Rd x st p h (g h p)) (r1 : 0 < p → Rd x st (p - 1) h (g h (p - 1))) (r2 : p < D.P → Rd x st (p + 1) (h + 1) (g (h + 1) (p + 1))) :
    Fleast_bound [.d y, x, .d (.int p), .d (.int h)] st = .ok (.d (.tuple [.int (D.lb g p h).1, (D.lb g p h).2])) st := by
  have m0 := may_take_V s v hp hh st
  have c0 := come_by_V v (h := h) hH st
  obtain ⟨t0, t1, t2, ks, rfl, hk, hks⟩ := v.ex
  have dy1 : ∀ st' : Store, ixG (.d (.tuple [sq t0 (D.comes.map PyData.int), sq t1 ks, sq t2 (D.strikes.map PyData.int)])) st' 1 = .ok (.d (sq t1 ks)) st' := fun _ => rfl
  have dyl : ∀ st' : Store, lenV (.d (sq t1 ks)) st' = .ok (.d (.int D.P)) st' := fun st' => by rw [e_lenSq, hk]
  generalize hy : (.tuple [sq t0 (D.comes.map PyData.int), sq t1 ks, sq t2 (D.strikes.map PyData.int)] : PyData) = y at *
  obtain ⟨y0, i0, j0⟩ := r0 []
  rw [List.append_nil] at i0 j0
  let en : Int × PyData → Val := fun o => .d (.tuple [.int o.1, o.2])
  let stp : Int × PyData → Int × PyData → Int × PyData := fun f o => if o.1 < f.1 then o else f
  let E : Int × PyData → Nat → Option Val → Z.Env := fun f n x6 => [some (.d y), some x, some (.d (.int p)), some (.d (.int h)), some (en f), some (.c n), x6]
  have loop : ∀ (gs : List (Nat × List Val)) (n : Nat) (st' : Store), Holds gs st' → ∀ (os : List (Int × PyData)) (f : Int × PyData) (x6 : Option Val), ∃ x6', forL gs (tgN 6) Lleast_bound_1 (os.map en) (E f n x6) st' = .ok (.nx (E (os.foldl stp f) n x6')) st' := by
    intro gs n st' hh os
    induction os with
    | nil => intro f x6; exact ⟨x6, forL_nil _ _ _ _ _ hh⟩
    | cons o os ih =>
      intro f x6
      obtain ⟨x6', h6⟩ := ih (stp f o) (some (en o))
      refine ⟨x6', ?_⟩
      rw [List.map_cons, forL_cons _ _ _ _ _ _ _ hh, List.foldl_cons, ← h6]
      by_cases hlt : o.1 < f.1
      · simp [Lleast_bound_1, E, en, hlt, stp]
      · simp [Lleast_bound_1, E, en, hlt, stp]
  have k0 : ∀ v : PyData, handB st.length (.d v) st = .ok (.d v) st := fun v => hand_le st (Nat.le_refl _)
  let C : List Val := [en (D.come h, bd "comes" 0 h)]
  have mc : mkL true C st = .ok (.c st.length) (st ++ [some C]) := mkL_c _ _ (by simp [C])
  by_cases hp0 : 0 < p
  · obtain ⟨y1, i1, j1⟩ := r1 hp0 [some C]
    rw [show ((p - 1 : Nat) : Int) = (p : Int) - 1 by omega] at i1
    let A : List Val := [en (g h (p - 1), bd "ahead" p h)]
    have ma : mkL true A (st ++ [some C]) = .ok (.c (st.length + 1)) (st ++ [some C] ++ [some A]) := by
      rw [mkL_c _ _ (by simp [A]), List.length_append, List.length_singleton]
    have hp0' : (0 : Int) < p := by omega
    let f0 : Int × PyData := (g h p + D.may p h, bd "takes" p h)
    let o1 : Int × PyData := (g h (p - 1), bd "ahead" p h)
    by_cases hpP : p < D.P
    · obtain ⟨y2, i2, j2⟩ := r2 hpP ([some C] ++ [some A])
      rw [← List.append_assoc] at i2 j2
      rw [show ((p + 1 : Nat) : Int) = (p : Int) + 1 by omega] at i2
      rw [show ((h + 1 : Nat) : Int) = (h : Int) + 1 by omega] at j2
      obtain ⟨l, h1, h2, _⟩ := s.pot hpP hh
      obtain ⟨tp, h3⟩ := hks _ _ _ h1
      have hpP' : (p : Int) < (D.P : Int) := by omega
      let o2 : Int × PyData := (g (h + 1) (p + 1) + D.room p, bd "room" p h)
      have ga := cell_true (last_get (st ++ [some C]) (some A) (n := st.length + 1) (by simp))
      have ea := e_appL (st ++ [some C]) (n := st.length + 1) (xs := A) (en o2) (by simp) (by simp [A])
      have gb : (st ++ [some C] ++ [some [en o1, en o2]])[st.length + 1]? = some (some [en o1, en o2]) := last_get _ _ (by simp)
      have it := e_itC _ gb
      obtain ⟨x6', hl⟩ := loop [(st.length + 1, [en o1, en o2])] (st.length + 1) (st ++ [some C] ++ [some [en o1, en o2]]) (holds1 gb) [o1, o2] f0 none
      have hr : [o1, o2].foldl stp f0 = D.lb g p h := by simp [Day.lb, hp0, hpP, stp, o1, o2, f0]
      have hcut := hand_d (st := st ++ [some C] ++ [some [en o1, en o2]]) st rfl (y := .tuple [.int (D.lb g p h).1, (D.lb g p h).2]) (by simp) hc
      rw [hr] at hl
      simp only [E, en, A, C, o1, o2, f0, bd, List.map_cons, List.map_nil, List.cons_append, List.nil_append] at *
      simp -implicitDefEqProofs [-List.append_assoc, Fleast_bound, dy1, dyl, hpP, e_bMeth, m0, c0, i0, j0, hp0, hp0', i1, j1, mc, ma, hpP', h3, ga, i2, j2, ea, it, hl, hcut]
    · have hpP' : ¬ (p : Int) < (D.P : Int) := by omega
      have gb : (st ++ [some C] ++ [some [en o1]])[st.length + 1]? = some (some [en o1]) := last_get _ _ (by simp)
      have it := e_itC _ gb
      obtain ⟨x6', hl⟩ := loop [(st.length + 1, [en o1])] (st.length + 1) (st ++ [some C] ++ [some [en o1]]) (holds1 gb) [o1] f0 none
      have hr : [o1].foldl stp f0 = D.lb g p h := by simp [Day.lb, hp0, hpP, stp, o1, f0]
      have hcut := hand_d (st := st ++ [some C] ++ [some [en o1]]) st rfl (y := .tuple [.int (D.lb g p h).1, (D.lb g p h).2]) (by simp) hc
      rw [hr] at hl
      simp only [E, en, A, C, o1, f0, bd, List.map_cons, List.map_nil, List.cons_append, List.nil_append] at *
      simp -implicitDefEqProofs [-List.append_assoc, Fleast_bound, dy1, dyl, hpP, e_bMeth, m0, c0, i0, j0, hp0, hp0', i1, j1, mc, ma, hpP', it, hl, hcut]
  · obtain rfl : p = 0 := by omega
    rw [show ((0 : Nat) : Int) = 0 from rfl] at *
    let f0 : Int × PyData := (g h 0 + D.may 0 h, bd "takes" 0 h)
    let o1 : Int × PyData := (D.come h, bd "comes" 0 h)
    by_cases hpP : 0 < D.P
    · obtain ⟨y2, i2, j2⟩ := r2 hpP [some C]
      rw [show ((0 + 1 : Nat) : Int) = 1 from rfl] at i2
      rw [show ((h + 1 : Nat) : Int) = (h : Int) + 1 by omega] at j2
      obtain ⟨l, h1, h2, _⟩ := s.pot hpP hh
      obtain ⟨tp, h3⟩ := hks _ _ _ h1
      have hpP' : (0 : Int) < (D.P : Int) := by omega
      let o2 : Int × PyData := (g (h + 1) (0 + 1) + D.room 0, bd "room" 0 h)
      have ga := cell_true (last_get st (some C) (n := st.length) rfl)
      have ea := e_appL st (n := st.length) (xs := C) (en o2) rfl (by simp [C])
      have gb : (st ++ [some [en o1, en o2]])[st.length]? = some (some [en o1, en o2]) := last_get _ _ rfl
      have it := e_itC _ gb
      obtain ⟨x6', hl⟩ := loop [(st.length, [en o1, en o2])] st.length (st ++ [some [en o1, en o2]]) (holds1 gb) [o1, o2] f0 none
      have hr : [o1, o2].foldl stp f0 = D.lb g 0 h := by simp [Day.lb, hpP, stp, o1, o2, f0]
      have hcut := hand_d (st := st ++ [some [en o1, en o2]]) st rfl (y := .tuple [.int (D.lb g 0 h).1, (D.lb g 0 h).2]) (by simp) hc
      rw [hr] at hl
      simp only [E, en, C, o1, o2, f0, bd, List.map_cons, List.map_nil, List.cons_append, List.nil_append, Nat.zero_add, show ((0 : Nat) : Int) = 0 from rfl] at *
      simp -implicitDefEqProofs [-List.append_assoc, Fleast_bound, dy1, dyl, hpP, e_bMeth, m0, c0, i0, j0, mc, hpP', h3, ga, i2, j2, ea, it, hl, hcut]
    · have hpP' : ¬ (0 : Int) < (D.P : Int) := by omega
      have gb : (st ++ [some [en o1]])[st.length]? = some (some [en o1]) := last_get _ _ rfl
      have it := e_itC _ gb
      obtain ⟨x6', hl⟩ := loop [(st.length, [en o1])] st.length (st ++ [some [en o1]]) (holds1 gb) [o1] f0 none
      have hr : [o1].foldl stp f0 = D.lb g 0 h := by simp [Day.lb, hpP, stp, o1, f0]
      have hcut := hand_d (st := st ++ [some [en o1]]) st rfl (y := .tuple [.int (D.lb g 0 h).1, (D.lb g 0 h).2]) (by simp) hc
      rw [hr] at hl
      simp only [E, en, C, o1, f0, bd, List.map_cons, List.map_nil, List.cons_append, List.nil_append, Nat.zero_add, show ((0 : Nat) : Int) = 0 from rfl] at *
      simp -implicitDefEqProofs [-List.append_assoc, Fleast_bound, dy1, dyl, hpP, e_bMeth, m0, c0, i0, j0, mc, hpP', it, hl, hcut]
def msE (D : Day) (y : PyData) (L : Nat) (x3 x4 : Option Val) : Z.Env := [some (.d y), some (.d (.int (D.P + 1))), some (.c (L + (D.P + 1))), x3, x4]
def msF (D : Day) (h i p : Nat) : List Val := (D.rowD p (if D.P + 1 ≤ p + i then h + 2 else h + 1)).map Val.d
theorem ms_inner {D : Day} (s : D.Shape) {y : PyData} (v : DayV D y) (hH : D.H ≤ 1000) (hP : D.P ≤ 1000) {st : Store} (hc : Cl st) (h : Nat) (hh : h < D.H) (x4 : Option Val) : ∃ env1 st1, forL [] (tgN 4) Lmost_sums_1 (intsC D.P (-1) (D.P + 1)) (msE D y st.length (some (.d (.int h))) x4) (rowsSt st (D.P + 1) (msF D h 0)) = .ok (.nx env1) st1 ∧ ∃ x4', env1 = msE D y st.length (some (.d (.int h))) x4' ∧ st1 = rowsSt st (D.P + 1) (msF D h (D.P + 1)) := by
    have := forL_inv (gs := []) (t := tgN 4) (b := Lmost_sums_1) (fun i env1 st1 => ∃ x4', env1 = msE D y st.length (some (.d (.int h))) x4' ∧ st1 = rowsSt st (D.P + 1) (msF D h i)) (intsC D.P (-1) (D.P + 1)) 0 (msE D y st.length (some (.d (.int h))) x4) (rowsSt st (D.P + 1) (msF D h 0)) ⟨x4, rfl, rfl⟩ (fun _ _ _ _ _ _ => holds0 _)
      (fun i x env1 st1 hx hI => by
        obtain ⟨rfl, hi⟩ := intsC_get hx
        obtain ⟨x4', rfl, rfl⟩ := hI
        rw [Nat.zero_add]
        obtain ⟨p, hp⟩ : ∃ p, p + i = D.P := ⟨D.P - i, by omega⟩
        have hpi : ((D.P : Int) + (i : Int) * -1) = (p : Int) := by omega
        rw [hpi]
        have hp1 : p < D.P + 1 := by omega
        have rd : ∀ q h', q < D.P + 1 → h' < (if D.P + 1 ≤ q + i then h + 2 else h + 1) → Rd (.c (st.length + (D.P + 1))) (rowsSt st (D.P + 1) (msF D h i)) q h' (D.M h' q) := fun q h' hq hh' => rows_rd _ _ _ hq (D.rowD_get hh')
        have lb := least_bound_V s v hH (g := D.M) (p := p) (h := h) (x := .c (st.length + (D.P + 1))) (st := rowsSt st (D.P + 1) (msF D h i)) (rows_cl hc fun q _ x hx => by obtain ⟨d, _, rfl⟩ := List.mem_map.mp hx; exact ⟨d, rfl⟩) (by omega) hh
          (rd p h hp1 (by split <;> omega)) (fun h0 => rd (p - 1) h (by omega) (by split <;> omega)) (fun h0 => rd (p + 1) (h + 1) (by omega) (by rw [if_pos (by omega)]; omega))
        have ix := rows_ix st (D.P + 1) (msF D h i) hp1 []
        have ge := rows_get st (D.P + 1) (msF D h i) hp1 []
        rw [List.append_nil] at ix ge
        have fp : msF D h i p = (D.rowD p (h + 1)).map Val.d := by show (D.rowD p (if D.P + 1 ≤ p + i then h + 2 else h + 1)).map Val.d = _; rw [if_neg (by omega)]
        have ap := e_app _ (Val.d (.int (D.M (h + 1) p))) ge (by rw [fp]; simp [Day.rowD]; omega)
        rw [rows_set st (D.P + 1) (msF D h i) hp1, fp, D.rowD_snoc] at ap
        have fs : (fun q => if q = p then (D.rowD p (h + 1 + 1)).map Val.d else msF D h i q) = msF D h (i + 1) := by
          funext q
          show (if q = p then _ else (D.rowD q (if D.P + 1 ≤ q + i then h + 2 else h + 1)).map Val.d) = (D.rowD q (if D.P + 1 ≤ q + (i + 1) then h + 2 else h + 1)).map Val.d
          by_cases e : q = p
          · subst e; rw [if_pos rfl, if_pos (by omega)]
          · rw [if_neg e]
            by_cases e2 : D.P + 1 ≤ q + i
            · rw [if_pos e2, if_pos (by omega)]
            · rw [if_neg e2, if_neg (by omega)]
        rw [fs] at ap
        have fst := D.lb_fst h p (by omega)
        refine ⟨msE D y st.length (some (.d (.int h))) (some (.d (.int p))), _, .inl ?_, _, rfl, rfl⟩
        simp [msE, Lmost_sums_1, e_bMeth, ix, cell_true ge, lb, fst, ap])
    rw [intsC_length, Nat.zero_add] at this
    exact this
theorem ms_outer {D : Day} (s : D.Shape) {y : PyData} (v : DayV D y) (hH : D.H ≤ 1000) (hP : D.P ≤ 1000) {st : Store} (hc : Cl st) : ∃ env1 st1, forL [] (tgN 3) Lmost_sums_2 (intsR 0 D.H) (msE D y st.length none none) (rowsSt st (D.P + 1) fun _ => [.d (.int 0)]) = .ok (.nx env1) st1 ∧ ∃ x3 x4, env1 = msE D y st.length x3 x4 ∧ st1 = rowsSt st (D.P + 1) (msF D D.H 0) := by
  have hr2 : -1000000000 ≤ ((D.P : Int) + 1) ∧ ((D.P : Int) + 1) ≤ 1000000000 := by omega
  have hr3 : -1000000000 ≤ (D.H : Int) ∧ (D.H : Int) ≤ 1000000000 := by omega
  have := forL_inv (gs := []) (t := tgN 3) (b := Lmost_sums_2) (fun h env1 st1 => ∃ x3 x4, env1 = msE D y st.length x3 x4 ∧ st1 = rowsSt st (D.P + 1) (msF D h 0)) (intsR 0 D.H) 0 (msE D y st.length none none) (rowsSt st (D.P + 1) fun _ => [.d (.int 0)]) ⟨none, none, rfl, rows_congr fun p hp => by
      show _ = (D.rowD p (if D.P + 1 ≤ p + 0 then 0 + 2 else 0 + 1)).map Val.d
      rw [if_neg (by omega)]; rfl⟩ (fun _ _ _ _ _ _ => holds0 _)
    (fun h x env1 st1 hx hI => by
      obtain ⟨rfl, hh⟩ := intsR_get hx
      obtain ⟨x3, x4, rfl, rfl⟩ := hI
      rw [Nat.zero_add, Int.zero_add]
      obtain ⟨env1, st1, i1, x4', rfl, rfl⟩ := ms_inner s v hH hP hc h hh x4
      refine ⟨_, _, .inl ?_, some (.d (.int h)), x4', rfl, rows_congr (f := msF D h (D.P + 1)) fun p hp => ?_⟩
      · simp [msE] at i1
        simp -implicitDefEqProofs [msE, Lmost_sums_2, e_revR _ _ hr2, show ((D.P : Int) + 1).toNat = D.P + 1 by omega, i1]
      · show (D.rowD p (if D.P + 1 ≤ p + (D.P + 1) then h + 2 else h + 1)).map Val.d = (D.rowD p (if D.P + 1 ≤ p + 0 then h + 1 + 2 else h + 1 + 1)).map Val.d
        rw [if_pos (by omega), if_neg (by omega)])
  rw [intsR_length, Nat.zero_add] at this
  exact this
theorem most_sums_V {D : Day} (s : D.Shape) {y : PyData} (v : DayV D y) (hH : D.H ≤ 1000) (hP : D.P ≤ 1000) {st : Store} (hc : Cl st) : Fmost_sums [.d y] st = .ok (.d D.sumsD) st := by
  have hr2 : -1000000000 ≤ ((D.P : Int) + 1) ∧ ((D.P : Int) + 1) ≤ 1000000000 := by omega
  have hr3 : -1000000000 ≤ (D.H : Int) ∧ (D.H : Int) ≤ 1000000000 := by omega
  have hmake := lc_rows (gs := []) (lt := .n 4) (fe := bLst true [(bC (.int 0))]) (env0 := [some (.d y), some (.d (.int (D.P + 1))), none, none, none]) st (D.P + 1) [.d (.int 0)] (intsR 0 (D.P + 1)) (intsR_length _ _) (by omega) (fun _ => holds0 _)
    (fun j x hx st' => ⟨_, rfl, by simp [mkL_c]⟩)
  have hmk := rows_mk st (D.P + 1) [.d (.int 0)] (by omega)
  obtain ⟨env2, st2, o1, x3, x4, rfl, rfl⟩ := ms_outer s v hH hP hc
  have fl : rowsSt st (D.P + 1) (msF D D.H 0) = rowsSt st (D.P + 1) fun p => (D.rowD p (D.H + 1)).map Val.d := rows_congr fun p hp => by
    show (D.rowD p (if D.P + 1 ≤ p + 0 then D.H + 2 else D.H + 1)).map Val.d = _
    rw [if_neg (by omega)]
  rw [fl] at o1
  obtain ⟨st3, z1, z2⟩ := frz_rows st (D.P + 1) (fun p => D.rowD p (D.H + 1)) 6 (by omega)
  have hh := hand_d (st := st3) st rfl (y := D.sumsD) z2 hc
  have l1 : D.pots.length = D.P := rfl
  have l2 : D.comes.length = D.H := rfl
  have hz : frz 8 (.c (st.length + (D.P + 1))) (rowsSt st (D.P + 1) fun p => (D.rowD p (D.H + 1)).map Val.d) = some (D.sumsD, st3) := z1
  simp only [msE] at o1
  obtain ⟨t0, t1, t2, ks, hye, hk, hks⟩ := v.ex
  have dy0 : ∀ st' : Store, ixG (.d y) st' 0 = .ok (.d (sq t0 (D.comes.map PyData.int))) st' := fun _ => by rw [hye]; rfl
  have dy1 : ∀ st' : Store, ixG (.d y) st' 1 = .ok (.d (sq t1 ks)) st' := fun _ => by rw [hye]; rfl
  clear hye
  simp -implicitDefEqProofs [Fmost_sums, dy0, dy1, hk, l2, e_rng1 _ _ hr2, e_rng1 _ _ hr3, show ((D.P : Int) + 1).toNat = D.P + 1 by omega, hmake, hmk, o1, hz, hh]
/-! ### the law's own plan -/
def grH (D : Day) (h i : Nat) : List Int := (List.range D.P).map fun q => if D.P ≤ q + i then D.M (h + 1) q - D.M (h + 1) (q + 1) else D.M h q - D.M h (q + 1)
def grF (D : Day) (h i : Nat) (q : Nat) : List Int := (List.range (if D.P ≤ q + i then h + 1 else h)).map fun k => D.M (k + 1) q - D.M k q
def grE (D : Day) (L : Nat) (x5 x7 x8 x9 x10 x11 x12 x13 : Option Val) : Z.Env := [some (.d D.pd), some (.d (dInts D.comes)), some (.d (.list (D.pots.map dPot))), some (.d (dInts D.strikes)), some (.c L), x5, some (.c (L + 1 + (D.P + 1))), x7, x8, x9, x10, x11, x12, x13]
theorem grH_get (D : Day) {h i q : Nat} (hq : q < D.P) : (grH D h i)[q]? = some (if D.P ≤ q + i then D.M (h + 1) q - D.M (h + 1) (q + 1) else D.M h q - D.M h (q + 1)) := by simp [grH, hq]
theorem grH_len (D : Day) (h i : Nat) : (grH D h i).length = D.P := by simp [grH]
theorem gr1 {D : Day} (o : D.Shape) {h i p : Nat} (hh : h < D.H) (hpi : p + i + 1 = D.P) (hH : D.H ≤ 48) (x8 x11 x12 x13 : Option Val) (st : Store) :
    ∃ l, turn (tgN 11) L_law_greatest_1 (.d (.int p)) (grE D st.length (some (.d (.int (D.come h - D.M h 0)))) (some (.d (.int h))) x8 (some (.d (dInts (grH D h 0)))) (some (.d (.int (D.M (h + 1) (p + 1) - D.M h (p + 1))))) x11 x12 x13) (grS st (D.P + 1) (grH D h i) (grF D h i))
      = .ok (.nx (grE D st.length (some (.d (.int (D.come h - D.M h 0)))) (some (.d (.int h))) x8 (some (.d (dInts (grH D h 0)))) (some (.d (.int (D.M (h + 1) p - D.M h p)))) (some (.d (.int p))) (some (.d (.int (D.room p)))) (some (.d (dInts l))))) (grS st (D.P + 1) (grH D h (i + 1)) (grF D h (i + 1))) := by
  obtain ⟨l, q1, q2, _⟩ := o.pot (p := p) (by omega) hh
  refine ⟨l, ?_⟩
  let a1 : Int := D.M h p - D.M h (p + 1) - (D.M (h + 1) (p + 1) - D.M h (p + 1))
  let tk : Int := D.M (h + 1) p - D.M h p
  have g0 := grH_get D (h := h) (i := i) (q := p) (by omega)
  rw [if_neg (by omega)] at g0
  have c1 := gr_hix st (D.P + 1) (grH D h i) (grF D h i) g0
  have c2 := gr_hset st (D.P + 1) (grH D h i) (grF D h i) (p := p) (by rw [grH_len]; omega) a1
  have g1 : ((grH D h i).set p a1)[p]? = some a1 := List.getElem?_set_self (by rw [grH_len]; omega)
  have c3 := gr_hix st (D.P + 1) ((grH D h i).set p a1) (grF D h i) g1
  have c4 := gr_hset st (D.P + 1) ((grH D h i).set p a1) (grF D h i) (p := p) (by rw [List.length_set, grH_len]; omega) (a1 + tk)
  have hfin : ((grH D h i).set p a1).set p (a1 + tk) = grH D h (i + 1) := by
    rw [List.set_set]
    refine List.ext_getElem? fun q => ?_
    by_cases e : q = p
    · subst e
      rw [List.getElem?_set_self (by rw [grH_len]; omega), grH_get D (by omega), if_pos (by omega)]
      congr 1
      show D.M h q - D.M h (q + 1) - (D.M (h + 1) (q + 1) - D.M h (q + 1)) + (D.M (h + 1) q - D.M h q) = _
      omega
    · rw [List.getElem?_set_ne (Ne.symm e)]
      by_cases hq : q < D.P
      · rw [grH_get D hq, grH_get D hq]
        by_cases e2 : D.P ≤ q + i
        · rw [if_pos e2, if_pos (by omega)]
        · rw [if_neg e2, if_neg (by omega)]
      · rw [List.getElem?_eq_none (by rw [grH_len]; omega), List.getElem?_eq_none (by rw [grH_len]; omega)]
  rw [hfin] at c4
  have c5 := gr_ix st (D.P + 1) (grH D h (i + 1)) (grF D h i) (p := p) (by omega)
  have c6 := gr_cell st (D.P + 1) (grH D h (i + 1)) (grF D h i) (p := p) (by omega)
  have hF : grF D h i p = (List.range h).map fun k => D.M (k + 1) p - D.M k p := by
    unfold grF; rw [if_neg (by omega)]
  have c7 := gr_app st (D.P + 1) (grH D h (i + 1)) (grF D h i) (p := p) (by omega) tk (by rw [hF]; simp; omega)
  have hfin2 : grS st (D.P + 1) (grH D h (i + 1)) (fun q => if q = p then grF D h i p ++ [tk] else grF D h i q) = grS st (D.P + 1) (grH D h (i + 1)) (grF D h (i + 1)) := gr_congr rfl fun q hq => by
    by_cases e : q = p
    · subst e
      rw [if_pos rfl, hF]
      unfold grF
      rw [if_pos (by omega), List.range_succ, List.map_append]
      rfl
    · rw [if_neg e]
      unfold grF
      by_cases e2 : D.P ≤ q + i
      · rw [if_pos e2, if_pos (by omega)]
      · rw [if_neg e2, if_neg (by omega)]
  rw [hfin2] at c7
  have ixh := dInts_ix (grS st (D.P + 1) ((grH D h i).set p a1) (grF D h i)) q2
  have hM := D.M_low h p (by omega)
  simp -implicitDefEqProofs only [grE]
  by_cases e : 0 < p
  · have g2 := grH_get D (h := h) (i := 0) (q := p - 1) (by omega)
    rw [if_neg (by omega), show p - 1 + 1 = p by omega] at g2
    have c8 := dInts_ix (grS st (D.P + 1) ((grH D h i).set p a1) (grF D h i)) g2
    rw [show ((p - 1 : Nat) : Int) = (p : Int) - 1 by omega] at c8
    rw [if_pos e] at hM
    have hmin : (if D.room p - a1 < D.may p h then (if D.M h (p - 1) - D.M h p < D.room p - a1 then D.M h (p - 1) - D.M h p else D.room p - a1) else (if D.M h (p - 1) - D.M h p < D.may p h then D.M h (p - 1) - D.M h p else D.may p h)) = tk := by
      show _ = D.M (h + 1) p - D.M h p
      have ha : a1 = D.M h p - D.M (h + 1) (p + 1) := by show D.M h p - D.M h (p + 1) - (D.M (h + 1) (p + 1) - D.M h (p + 1)) = _; omega
      rw [ha, hM]
      clear hM c1 c2 c3 c4 c5 c6 c7 c8 hfin hfin2 hF g0 g1 g2 ixh
      split <;> split <;> omega
    have hmin' : sMin3 [.d (.int (D.may p h)), .d (.int (D.room p - a1)), .d (.int (D.M h (p - 1) - D.M h p))] (grS st (D.P + 1) ((grH D h i).set p a1) (grF D h i)) = .ok (.d (.int tk)) (grS st (D.P + 1) ((grH D h i).set p a1) (grF D h i)) := by rw [e_min3, hmin]
    have ha : D.M h p - D.M h (p + 1) - (D.M (h + 1) (p + 1) - D.M h (p + 1)) = a1 := rfl
    have ht : D.M (h + 1) p - D.M h p = tk := rfl
    rw [ht]
    clear_value a1 tk
    simp -implicitDefEqProofs [-e_min3, turn_n, L_law_greatest_1, e_bMeth, q1, dPot, c1, ha, c2, ixh, c3, e, c8, hmin', c4, c5, c6, c7]
  · obtain rfl : p = 0 := by omega
    rw [if_neg e] at hM
    have hmin : (if D.room 0 - a1 < D.may 0 h then (if D.come h - D.M h 0 < D.room 0 - a1 then D.come h - D.M h 0 else D.room 0 - a1) else (if D.come h - D.M h 0 < D.may 0 h then D.come h - D.M h 0 else D.may 0 h)) = tk := by
      show _ = D.M (h + 1) 0 - D.M h 0
      have ha : a1 = D.M h 0 - D.M (h + 1) (0 + 1) := by show D.M h 0 - D.M h (0 + 1) - (D.M (h + 1) (0 + 1) - D.M h (0 + 1)) = _; omega
      rw [ha, hM]
      clear hM c1 c2 c3 c4 c5 c6 c7 hfin hfin2 hF g0 g1 ixh
      split <;> split <;> omega
    have hmin' : sMin3 [.d (.int (D.may 0 h)), .d (.int (D.room 0 - a1)), .d (.int (D.come h - D.M h 0))] (grS st (D.P + 1) ((grH D h i).set 0 a1) (grF D h i)) = .ok (.d (.int tk)) (grS st (D.P + 1) ((grH D h i).set 0 a1) (grF D h i)) := by rw [e_min3, hmin]
    have ha : D.M h 0 - D.M h (0 + 1) - (D.M (h + 1) (0 + 1) - D.M h (0 + 1)) = a1 := rfl
    have ht : D.M (h + 1) 0 - D.M h 0 = tk := rfl
    rw [ht]
    rw [show ((0 : Nat) : Int) = 0 from rfl] at *
    simp only [Nat.zero_add, Nat.add_zero] at *
    clear_value a1 tk
    simp -implicitDefEqProofs [-e_min3, turn_n, L_law_greatest_1, e_bMeth, q1, dPot, c1, ha, c2, ixh, c3, hmin', c4, c5, c6, c7]
def grR (D : Day) (h q : Nat) : List Int := (List.range h).map fun k => D.M (k + 1) q - D.M k q
def grW (D : Day) (h : Nat) : Int := (D.comes.take h).sum - D.M h 0
theorem gr2 {D : Day} (o : D.Shape) {h : Nat} {z : Int} (hh : h < D.H) (hz : D.comes[h]? = some z) (hH : D.H ≤ 48) (hP : 1 ≤ D.P ∧ D.P ≤ 8) (x7 x8 x9 x10 x11 x12 x13 : Option Val) (st : Store) :
    ∃ x7' x8' x9' x10' x11' x12' x13', turn (tgT [(tgN 7), (tgN 8)]) L_law_greatest_2 (.d (.tuple [.int h, .int z])) (grE D st.length (some (.d (.int (grW D h)))) x7 x8 x9 x10 x11 x12 x13) (grS st (D.P + 1) (grH D h 0) (grR D h))
      = .ok (.nx (grE D st.length (some (.d (.int (grW D (h + 1))))) x7' x8' x9' x10' x11' x12' x13')) (grS st (D.P + 1) (grH D (h + 1) 0) (grR D (h + 1))) := by
  have hcs : D.come h = (D.comes.take h).sum + z := by
    unfold Day.come
    rw [List.take_succ, hz]
    simp
  have hw : grW D h + z = D.come h - D.M h 0 := by unfold grW; omega
  have hh0 := gr_held st (D.P + 1) (grH D h 0) (grR D h)
  have hlst : sList false [.c st.length] (grS st (D.P + 1) (grH D h 0) (grR D h)) = .ok (.d (dInts (grH D h 0))) (grS st (D.P + 1) (grH D h 0) (grR D h)) := by
    rw [e_listC _ _ hh0, mkL_dI _ _ (by rw [grH_len]; omega)]
  have s1 := dInts_ix (grS st (D.P + 1) (grH D h 0) (grR D h)) (o.strike hh)
  have g0 := grH_get D (h := h) (i := 0) (q := D.P - 1) (by omega)
  rw [if_neg (by omega), show D.P - 1 + 1 = D.P by omega] at g0
  have s2 : ixG (.d (dInts (grH D h 0))) (grS st (D.P + 1) (grH D h 0) (grR D h)) (-1) = .ok (.d (.int (D.M h (D.P - 1) - D.M h D.P))) (grS st (D.P + 1) (grH D h 0) (grR D h)) := by
    unfold dInts
    rw [e_ixL, atI_neg1, List.length_map, grH_len, List.getElem?_map, g0]
    rfl
  have hmin : sMin2 [.d (.int (D.may D.P h)), .d (.int (D.M h (D.P - 1) - D.M h D.P))] (grS st (D.P + 1) (grH D h 0) (grR D h)) = .ok (.d (.int (D.M (h + 1) D.P - D.M h D.P))) (grS st (D.P + 1) (grH D h 0) (grR D h)) := by
    have e : (if D.M h (D.P - 1) - D.M h D.P < D.may D.P h then D.M h (D.P - 1) - D.M h D.P else D.may D.P h) = D.M (h + 1) D.P - D.M h D.P := by
      rw [D.M_top h, if_pos (show 0 < D.P by omega)]
      split <;> omega
    rw [e_min2, e]
  have s3 := gr_ixl st (D.P + 1) (grH D h 0) (grR D h) (by omega)
  rw [show D.P + 1 - 1 = D.P by omega] at s3
  have s4 := gr_cell st (D.P + 1) (grH D h 0) (grR D h) (p := D.P) (by omega)
  have s5 := gr_app st (D.P + 1) (grH D h 0) (grR D h) (p := D.P) (by omega) (D.M (h + 1) D.P - D.M h D.P) (by simp [grR]; omega)
  have hF : grS st (D.P + 1) (grH D h 0) (fun q => if q = D.P then grR D h D.P ++ [D.M (h + 1) D.P - D.M h D.P] else grR D h q) = grS st (D.P + 1) (grH D h 0) (grF D h 0) := gr_congr rfl fun q hq => by
    by_cases e : q = D.P
    · subst e
      rw [if_pos rfl]
      unfold grF grR
      rw [if_pos (by omega), List.range_succ, List.map_append]
      rfl
    · rw [if_neg e]
      unfold grF grR
      rw [if_neg (by omega)]
  rw [hF] at s5
  obtain ⟨env1, st1, a1, x11', x12', x13', rfl, rfl⟩ := forL_inv (gs := []) (t := tgN 11) (b := L_law_greatest_1) (fun i env st1 => ∃ x11 x12 x13, env = grE D st.length (some (.d (.int (D.come h - D.M h 0)))) (some (.d (.int h))) (some (.d (.int z))) (some (.d (dInts (grH D h 0)))) (some (.d (.int (D.M (h + 1) (D.P - i) - D.M h (D.P - i))))) x11 x12 x13 ∧ st1 = grS st (D.P + 1) (grH D h i) (grF D h i))
    (intsC ((D.P : Int) - 1) (-1) D.P) 0 (grE D st.length (some (.d (.int (D.come h - D.M h 0)))) (some (.d (.int h))) (some (.d (.int z))) (some (.d (dInts (grH D h 0)))) (some (.d (.int (D.M (h + 1) D.P - D.M h D.P)))) x11 x12 x13) (grS st (D.P + 1) (grH D h 0) (grF D h 0)) ⟨x11, x12, x13, rfl, rfl⟩ (fun _ _ _ _ _ _ => holds0 _)
    (fun i x env st1 hx hI => by
      obtain ⟨rfl, hi⟩ := intsC_get hx
      obtain ⟨x11, x12, x13, rfl, rfl⟩ := hI
      rw [Nat.zero_add]
      obtain ⟨p, hp⟩ : ∃ p, p + i + 1 = D.P := ⟨D.P - i - 1, by omega⟩
      rw [show ((D.P : Int) - 1 + (i : Int) * -1) = (p : Int) by omega, show D.P - i = p + 1 by omega, show D.P - (i + 1) = p by omega]
      obtain ⟨l, q⟩ := gr1 o hh hp hH (some (.d (.int z))) x11 x12 x13 st
      exact ⟨_, _, .inl q, _, _, _, rfl, rfl⟩)
  rw [intsC_length, Nat.zero_add, Nat.sub_self] at a1
  have hH1 : grH D h D.P = grH D (h + 1) 0 := List.map_congr_left fun q hq => by
    have hq : q < D.P := by simpa using hq
    rw [if_pos (by omega), if_neg (by omega)]
  have hF1 : grS st (D.P + 1) (grH D h D.P) (grF D h D.P) = grS st (D.P + 1) (grH D (h + 1) 0) (grR D (h + 1)) := gr_congr hH1 fun q hq => by
    unfold grF grR
    rw [if_pos (by omega)]
  rw [hF1] at a1
  have hw2 : D.come h - D.M h 0 - (D.M (h + 1) 0 - D.M h 0) = grW D (h + 1) := by unfold grW Day.come; omega
  have hr := e_rng3 (grS st (D.P + 1) (grH D h 0) (grF D h 0)) ((D.P : Int) - 1) (-1) (by omega)
  rw [show ((D.P : Int) - 1 - -1).toNat = D.P by omega] at hr
  have hDl : D.pots.length = D.P := rfl
  refine ⟨some (.d (.int h)), some (.d (.int z)), some (.d (dInts (grH D h 0))), some (.d (.int (D.M (h + 1) 0 - D.M h 0))), x11', x12', x13', ?_⟩
  · simp -implicitDefEqProofs only [grE] at a1 ⊢
    generalize grW D h = w0 at *
    simp -implicitDefEqProofs [-e_min2, turn, L_law_greatest_2, e_bMeth, hw, hlst, s1, s2, hmin, s3, s4, s5, hDl, hr, a1, hw2]
theorem greatest_ok {D : Day} (o : D.Shape) (hH : 1 ≤ D.H ∧ D.H ≤ 48) (hP : 1 ≤ D.P ∧ D.P ≤ 8) {st : Store} (hc : Cl st) : F_law_greatest [.d D.pd] st = .ok (.d D.planD) st := by
  obtain ⟨env1, st1, a1, x5', x7', x8', x9', x10', x11', x12', x13', rfl, rfl, e5⟩ := forL_inv (gs := []) (t := tgT [(tgN 7), (tgN 8)]) (b := L_law_greatest_2) (fun h env st1 => ∃ x5 x7 x8 x9 x10 x11 x12 x13, env = grE D st.length x5 x7 x8 x9 x10 x11 x12 x13 ∧ st1 = grS st (D.P + 1) (grH D h 0) (grR D h) ∧ x5 = some (.d (.int (grW D h))))
    (enums ((D.comes.map PyData.int).map Val.d)) 0 (grE D st.length (some (.d (.int 0))) none none none none none none none) (grS st (D.P + 1) (List.replicate D.P 0) (fun _ => [])) ⟨_, none, none, none, none, none, none, none, rfl, gr_congr (by
      refine List.ext_getElem? fun q => ?_
      by_cases hq : q < D.P
      · rw [grH_get D hq, if_neg (by omega)]
        simp [hq, Day.M]
      · rw [List.getElem?_eq_none (by simp; omega), List.getElem?_eq_none (by rw [grH_len]; omega)]) fun _ _ => rfl, rfl⟩ (fun _ _ _ _ _ _ => holds0 _)
    (fun h x env st1 hx hI => by
      obtain ⟨x5, x7, x8, x9, x10, x11, x12, x13, rfl, rfl, rfl⟩ := hI
      obtain ⟨hh, z, hz, rfl⟩ := enums_get hx
      rw [Nat.zero_add]
      obtain ⟨x7', x8', x9', x10', x11', x12', x13', q⟩ := gr2 o hh hz hH.2 hP x7 x8 x9 x10 x11 x12 x13 st
      exact ⟨_, _, .inl q, _, _, _, _, _, _, _, _, rfl, rfl, rfl⟩)
  subst e5
  have hel : (enums ((D.comes.map PyData.int).map Val.d)).length = D.H := by simp [enums]; rfl
  rw [hel, Nat.zero_add] at a1
  have hDl : D.pots.length = D.P := rfl
  have hr := e_rng1 (st ++ [some (dI (List.replicate D.P 0))]) ((D.P : Int) + 1) (by omega)
  rw [show ((D.P : Int) + 1).toNat = D.P + 1 by omega] at hr
  have hmake := lc_rows (gs := []) (lt := .n 11) (fe := bLst true []) (env0 := [some (.d D.pd), some (.d (dInts D.comes)), some (.d (.list (D.pots.map dPot))), some (.d (dInts D.strikes)), none, none, none, none, none, none, none, none, none, none]) (st ++ [some (dI (List.replicate D.P 0))]) (D.P + 1) [] (intsR 0 (D.P + 1)) (intsR_length _ _) (by omega) (fun _ => holds0 _)
    (fun j x hx st' => ⟨_, rfl, by simp [mkL_c]⟩)
  have hmk := rows_mk (st ++ [some (dI (List.replicate D.P 0))]) (D.P + 1) [] (by omega)
  have hl1 : (st ++ [some (dI (List.replicate D.P 0))]).length = st.length + 1 := by simp
  rw [hl1] at hmake hmk
  generalize (st ++ [some (dI (List.replicate D.P 0))] ++ (List.range (D.P + 1)).map fun _ => some []) = S1 at hmake hmk
  have hgr : rowsSt (st ++ [some (dI (List.replicate D.P 0))]) (D.P + 1) (fun _ => []) = grS st (D.P + 1) (List.replicate D.P 0) (fun _ => []) := rfl
  rw [hgr] at hmk
  have hmk0 : mkL true (List.replicate D.P (Val.d (.int 0))) st = .ok (.c st.length) (st ++ [some (dI (List.replicate D.P 0))]) := by
    rw [mkL_c _ _ (by simp; omega)]
    simp [dI]
  have hfz := frz_rows (st ++ [some (dI (grH D D.H 0))]) (D.P + 1) (fun p => (grR D D.H p).map PyData.int) 6 (by omega)
  rw [show (st ++ [some (dI (grH D D.H 0))]).length = st.length + 1 by simp] at hfz
  obtain ⟨st3, z1, z2⟩ := hfz
  have hgr2 : (rowsSt (st ++ [some (dI (grH D D.H 0))]) (D.P + 1) fun p => ((grR D D.H p).map PyData.int).map Val.d) = grS st (D.P + 1) (grH D D.H 0) (grR D D.H) := by
    unfold grS
    refine rows_congr fun p _ => ?_
    simp [dI]
  rw [hgr2] at z1
  have hpl : PyData.list ((List.range (D.P + 1)).map fun p => PyData.list ((grR D D.H p).map PyData.int)) = D.planD := by
    unfold Day.planD Day.diffD grR
    simp [List.map_map]
  rw [hpl] at z1
  have z3 : st3.take st.length = st := by
    have : st3.take st.length = (st3.take (st.length + 1)).take st.length := by rw [List.take_take, Nat.min_eq_left (by omega)]
    rw [this, z2]
    simp
  have hh := hand_d (st := st3) st rfl (y := D.planD) z3 hc
  have hday : D.pd = .tuple [dInts D.comes, .list (D.pots.map dPot), dInts D.strikes] := rfl
  have hen : enumL [.d (dInts D.comes)] (grS st (D.P + 1) (List.replicate D.P 0) (fun _ => [])) = .ok ⟨enums ((D.comes.map PyData.int).map Val.d), []⟩ (grS st (D.P + 1) (List.replicate D.P 0) (fun _ => [])) := e_enumL _ _
  have hrp : -1000000 ≤ (D.P : Int) ∧ (D.P : Int) ≤ 1000000 := by omega
  generalize enums ((D.comes.map PyData.int).map Val.d) = ev at a1 hen
  simp -implicitDefEqProofs only [grE] at a1
  rw [hday] at hmake a1 ⊢
  have z1' : frz 8 (.c (st.length + 1 + (D.P + 1))) (grS st (D.P + 1) (grH D D.H 0) (grR D D.H)) = some (D.planD, st3) := z1
  simp -implicitDefEqProofs [F_law_greatest, hDl, hrp, hmk0, hr, hmake, hmk, hen, a1, z1', hh]
/-! ### more at a place -/
theorem with_more_ok {D : Day} (s : D.Shape) {y : PyData} (v : DayV D y) (hH : D.H ≤ 1000) (hP : D.P ≤ 1000) {p : Nat} (hp : p ≤ D.P) (st : Store) : ∃ y', Fwith_more [.d y, .d (.int p)] st = .ok (.d y') st ∧ DayV (D.more p) y' := by
  obtain ⟨t0, t1, t2, ks, rfl, hk, hks⟩ := v.ex
  have hsl := s.st
  by_cases e : p = D.P
  · subst e
    refine ⟨.tuple [sq t0 (D.comes.map PyData.int), sq t1 ks, dInts (inc D.strikes)], ?_, ?_⟩
    · have lc := inc_lc D.strikes 8 [some (.d (.tuple [sq t0 (D.comes.map PyData.int), sq t1 ks, sq t2 (D.strikes.map PyData.int)])), some (.d (.int D.P)), some (.d (sq t0 (D.comes.map PyData.int))), some (.d (sq t1 ks)), some (.d (sq t2 (D.strikes.map PyData.int))), none, none, none, none] st (by omega) (by simp)
      have mk := mkL_dI st (inc D.strikes) (by rw [inc_len]; omega)
      have it := e_itSq t2 st (D.strikes.map PyData.int)
      generalize (D.strikes.map PyData.int).map Val.d = iv at it lc
      simp -implicitDefEqProofs [-e_itSq, Fwith_more, hk, it, lc, mk, hand_le]
    · have hm : D.more D.P = ⟨D.comes, D.pots, inc D.strikes⟩ := by unfold Day.more; rw [if_pos rfl]
      rw [hm]
      exact ⟨t0, t1, false, ks, rfl, hk, hks⟩
  · have hp' : p < D.P := by omega
    have hpl : D.pots[p]? = some D.pots[p] := List.getElem?_eq_getElem hp'
    have hrm : D.room p = D.pots[p].1 := by unfold Day.room; rw [List.getD_eq_getElem?_getD, hpl]; rfl
    obtain ⟨l, hl⟩ : ∃ l, D.pots[p]? = some (D.room p, l) := ⟨D.pots[p].2, by rw [hpl, hrm]⟩
    have hll : l.length = D.H := s.tk _ (List.mem_of_getElem? hl)
    obtain ⟨t, h3⟩ := hks p _ _ hl
    refine ⟨_, ?_, moreV (t0 := t0) (t1 := t1) (t2 := t2) hk hks hp' hl⟩
    have lc := inc_lc l 8 [some (.d (.tuple [sq t0 (D.comes.map PyData.int), sq t1 ks, sq t2 (D.strikes.map PyData.int)])), some (.d (.int p)), some (.d (sq t0 (D.comes.map PyData.int))), some (.d (sq t1 ks)), some (.d (sq t2 (D.strikes.map PyData.int))), some (.d (.int (D.room p))), some (.d (sq t (l.map PyData.int))), none, none] st (by omega) (by simp)
    have mk := mkL_dI st (inc l) (by rw [inc_len]; omega)
    have it := e_itSq t st (l.map PyData.int)
    generalize (l.map PyData.int).map Val.d = iv at it lc
    have s1 := slSqTo t1 st ks p (by omega)
    have s2 := slSqFrom1 t1 st ks p (by omega)
    have l1 := listSq t1 st (ks.take p) (by simp; omega)
    have l2 := listSq t1 st (ks.drop (p + 1)) (by simp; omega)
    have c1 := catL st (ks.take p) [.tuple [.int (D.room p + 1), dInts (inc l)]] (by simp; omega)
    have c2 := catL st (ks.take p ++ [.tuple [.int (D.room p + 1), dInts (inc l)]]) (ks.drop (p + 1)) (by simp; omega)
    have e4 : ¬ ((p : Int) = (D.P : Int)) := by omega
    simp -implicitDefEqProofs [-e_itSq, -e_catL, -List.append_assoc, Fwith_more, hk, e4, e, h3, it, lc, mk, s1, s2, l1, l2, c1, c2, hand_le]
theorem binding_ok {D : Day} (s : D.Shape) {y : PyData} (v : DayV D y) (hH : D.H ≤ 1000) (hP : D.P ≤ 1000) {st : Store} (hc : Cl st) : Fbinding_places [.d y] st = .ok (.c st.length) (st ++ [some (dI D.bindL)]) := by
  have hs := most_sums_V s v hH hP hc
  have s1 := sums_last D st
  have s2 := row_last D st
  have lc := lcL_filterI (gs := []) (lt := .n 2) (tt := (bCmpT .Gt (bIx (bIx (bCall 1 Fmost_sums [(bCall 2 Fwith_more [(bVar 0), (bVar 2)])]) (bNeg (bC (.int 1)))) (bNeg (bC (.int 1)))) (bVar 1))) (fe := bVar 2) (env0 := [some (.d y), some (.d (.int D.str)), none]) (st := st) (holds0 _)
    (fun p => decide (D.str < (D.more p).str)) (fun p : Nat => Val.d (.int (0 + (p : Nat)))) (fun p : Nat => Val.d (.int (p : Nat))) (List.range (D.P + 1)) [] (by simp; omega) fun p hp => by
      have hp : p < D.P + 1 := by simpa using hp
      obtain ⟨y', w1, w2⟩ := with_more_ok s v hH hP (p := p) (by omega) st
      have hs' := most_sums_V (more_shape s (p := p) (by omega)) w2 (by rw [more_H]; exact hH) (by rw [more_P]; exact hP) hc
      have s1' := sums_last (D.more p) st
      have s2' := row_last (D.more p) st
      refine ⟨_, rfl, ?_, fun _ => ?_⟩
      · rw [Int.zero_add]
        simp -implicitDefEqProofs [w1, hs', s1', s2']
      · rw [Int.zero_add]
        simp
  rw [List.nil_append] at lc
  have hd : ((List.range (D.P + 1)).filter fun p => decide (D.str < (D.more p).str)).map (fun p : Nat => Val.d (.int (p : Nat))) = dI D.bindL := by
    unfold dI Day.bindL Day.bindN
    rw [List.map_map]
    rfl
  rw [hd] at lc
  have hb := bindL_len D
  have mk := mkL_c st (dI D.bindL) (by rw [dI_len]; omega)
  have hr := e_rng1 st ((D.P : Int) + 1) (by omega)
  rw [show ((D.P : Int) + 1).toNat = D.P + 1 by omega] at hr
  have hit : intsR 0 (D.P + 1) = (List.range (D.P + 1)).map fun p : Nat => Val.d (.int (0 + (p : Nat))) := rfl
  rw [hit] at hr
  generalize ((List.range (D.P + 1)).map fun p : Nat => Val.d (.int (0 + (p : Nat)))) = iv at hr lc
  obtain ⟨t0, t1, t2, ks, hye, hk, hks⟩ := v.ex
  have dy1 : ∀ st' : Store, ixG (.d y) st' 1 = .ok (.d (sq t1 ks)) st' := fun _ => by rw [hye]; rfl
  clear hye
  simp -implicitDefEqProofs [Fbinding_places, hs, s1, s2, dy1, hk, hr, lc, mk]
/-! ### alike -/
theorem same_int (n : Nat) (a : Int) (st : Store) : F_law_same (n + 1) [.d (.int a), .d (.int a)] st = .ok (.d (.bool true)) st := by
  have i1 : vInst [.list, .tuple] (.d (.int a)) st = .ok false st := rfl
  have i2 : vInst [.str, .bool] (.d (.int a)) st = .ok false st := rfl
  have i3 : vInst [.int] (.d (.int a)) st = .ok true st := rfl
  have i4 : vInst [.bool] (.d (.int a)) st = .ok false st := rfl
  simp -implicitDefEqProofs [F_law_same, i1, i2, i3, i4, hand_le]
theorem same_list (n : Nat) {α : Type} (ks : List α) (f g : α → Val) (due : List PyData) (x : Val) (gs : List (Nat × List Val)) {st : Store} (hl : ks.length ≤ 100000) (hd : due.length = ks.length) (hgs : Holds gs st)
    (i3 : vInst [.list] x st = .ok true st) (i4 : vInst [.tuple] x st = .ok false st) (hlen : lenV x st = .ok (.d (.int ks.length)) st) (hz : zipL [x, .d (.list due)] st = .ok ⟨ks.map fun k => tupV [f k, g k], gs⟩ st)
    (hs : ∀ k ∈ ks, F_law_same n [f k, g k] st = .ok (.d (.bool true)) st) : F_law_same (n + 1) [x, .d (.list due)] st = .ok (.d (.bool true)) st := by
  have i1 : vInst [.list, .tuple] (.d (.list due)) st = .ok true st := rfl
  have i5 : vInst [.list] (.d (.list due)) st = .ok true st := rfl
  have i6 : vInst [.tuple] (.d (.list due)) st = .ok false st := rfl
  have lc := lcL_mapI (gs := gs) (lt := .t [3, 4]) (tt := tYesT) (fe := (bCall 2 (F_law_same n) [(bVar 3), (bVar 4)])) (env0 := [some x, some (.d (.list due)), none, none, none]) (st := st) hgs (fun k => tupV [f k, g k]) (fun _ => .d (.bool true)) ks [] (by simp; omega) fun k hk => by
    refine ⟨[some x, some (.d (.list due)), none, some (f k), some (g k)], ?_, rfl, ?_⟩
    · cases f k <;> cases g k <;> rfl
    · simp -implicitDefEqProofs [hs k hk]
  rw [List.nil_append] at lc
  have mk : mkL false (ks.map fun _ => Val.d (.bool true)) st = .ok (.d (.list ((ks.map fun _ => true).map PyData.bool))) st := by
    have e : (ks.map fun _ => Val.d (.bool true)) = ((ks.map fun _ => true).map PyData.bool).map Val.d := by rw [List.map_map, List.map_map]; rfl
    rw [e, mkL_f _ _ (by simp; omega)]
  have al := e_allL st (ks.map fun _ => true)
  have al2 : (ks.map fun _ => true).all id = true := by simp
  rw [al2] at al
  generalize (ks.map fun _ => Val.d (.bool true)) = ov at lc mk
  generalize (ks.map fun k => tupV [f k, g k]) = iv at lc hz
  generalize (.list ((ks.map fun _ => true).map PyData.bool) : PyData) = bl at mk al
  simp -implicitDefEqProofs [F_law_same, i1, i3, i4, i5, i6, hlen, hd, hz, lc, mk, al, hand_le]
theorem law_more_ok {D : Day} (s : D.Shape) (hH : D.H ≤ 1000) (hP : D.P ≤ 1000) {p : Nat} (hp : p ≤ D.P) (st : Store) : F_law_more [.d D.pd, .d (.int p)] st = .ok (.d (D.more p).pd) st := by
  have hsl := s.st
  have hday : D.pd = .tuple [dInts D.comes, .list (D.pots.map dPot), dInts D.strikes] := rfl
  have hDl : D.pots.length = D.P := rfl
  by_cases e : p = D.P
  · subst e
    have hm : (D.more D.P).pd = .tuple [dInts D.comes, .list (D.pots.map dPot), dInts (inc D.strikes)] := by unfold Day.more; rw [if_pos rfl]; rfl
    rw [hm, hday]
    have lc := inc_lc D.strikes 7 [some (.d (.tuple [dInts D.comes, .list (D.pots.map dPot), dInts D.strikes])), some (.d (.int D.P)), some (.d (dInts D.comes)), some (.d (.list (D.pots.map dPot))), some (.d (dInts D.strikes)), none, none, none] st (by omega) (by simp)
    have mk := mkL_dI st (inc D.strikes) (by rw [inc_len]; omega)
    have it := itI st D.strikes
    generalize (D.strikes.map PyData.int).map Val.d = iv at it lc
    simp -implicitDefEqProofs [F_law_more, hDl, it, lc, mk, hand_le]
  · have hp' : p < D.P := by omega
    have hpl : D.pots[p]? = some D.pots[p] := List.getElem?_eq_getElem hp'
    have hrm : D.room p = D.pots[p].1 := by unfold Day.room; rw [List.getD_eq_getElem?_getD, hpl]; rfl
    obtain ⟨l, hl⟩ : ∃ l, D.pots[p]? = some (D.room p, l) := ⟨D.pots[p].2, by rw [hpl, hrm]⟩
    have hll : l.length = D.H := s.tk _ (List.mem_of_getElem? hl)
    have hg : (D.pots.getD p (0, [])).2 = l := by rw [List.getD_eq_getElem?_getD, hl]; rfl
    have hm : (D.more p).pd = .tuple [dInts D.comes, .list ((D.pots.map dPot).take p ++ [.tuple [.int (D.room p + 1), dInts (inc l)]] ++ (D.pots.map dPot).drop (p + 1)), dInts D.strikes] := by
      unfold Day.more
      rw [if_neg e, hg]
      unfold Day.pd
      congr 3; refine congrArg PyData.list ?_
      show (D.pots.set p (D.room p + 1, inc l)).map dPot = _
      rw [List.set_eq_take_append_cons_drop, if_pos (show p < D.pots.length from hp')]
      simp [dPot]
    rw [hm, hday]
    have lc := inc_lc l 7 [some (.d (.tuple [dInts D.comes, .list (D.pots.map dPot), dInts D.strikes])), some (.d (.int p)), some (.d (dInts D.comes)), some (.d (.list (D.pots.map dPot))), some (.d (dInts D.strikes)), some (.d (.int (D.room p))), some (.d (dInts l)), none] st (by omega) (by simp)
    have mk := mkL_dI st (inc l) (by rw [inc_len]; omega)
    have it := itI st l
    generalize (l.map PyData.int).map Val.d = iv at it lc
    have s1 := slTo st (D.pots.map dPot) p (by simp; omega)
    have s2 := slFrom1 st (D.pots.map dPot) p (by simp; omega)
    have c1 := catL st ((D.pots.map dPot).take p) [.tuple [.int (D.room p + 1), dInts (inc l)]] (by simp; omega)
    have c2 := catL st ((D.pots.map dPot).take p ++ [.tuple [.int (D.room p + 1), dInts (inc l)]]) ((D.pots.map dPot).drop (p + 1)) (by simp; omega)
    have e4 : ¬ ((p : Int) = (D.P : Int)) := by omega
    simp -implicitDefEqProofs [-e_catL, -e_slL, -List.append_assoc, -List.map_take, -List.map_drop, F_law_more, hDl, e4, e, hl, dPot, it, lc, mk, s1, s2, c1, c2, hand_le]
theorem struck_ok {D : Day} (s : D.Shape) (hH : 1 ≤ D.H ∧ D.H ≤ 48) (hP : 1 ≤ D.P ∧ D.P ≤ 8) {st : Store} (hc : Cl st) : F_law_struck [.d D.pd] st = .ok (.d (.int D.str)) st := by
  have gp := greatest_ok s hH hP hc
  have ixp : ixG (.d D.planD) st (-1) = .ok (.d (.list (D.diffD D.P))) st := by
    unfold Day.planD
    rw [e_ixL, atI_neg1]
    simp
  have sm : sSum [.d (.list (D.diffD D.P))] st = .ok (.d (.int D.str)) st := by
    have hdd : D.diffD D.P = ((List.range D.H).map fun k => D.M (k + 1) D.P - D.M k D.P).map PyData.int := by unfold Day.diffD; rw [List.map_map]; rfl
    rw [hdd, e_sumL, D.diff_sum]
    rfl
  simp -implicitDefEqProofs [F_law_struck, gp, ixp, sm, hand_le]
theorem same_bind (l : List Int) (hl : l.length ≤ 1000) {st : Store} {n : Nat} (h : st[n]? = some (some (dI l))) : F_law_same 5 [.c n, .d (dInts l)] st = .ok (.d (.bool true)) st := by
  refine same_list 4 l (fun z => .d (.int z)) (fun z => .d (.int z)) (l.map PyData.int) _ [(n, dI l)] (by omega) (by simp) (holds1 h) (inst_c [.list] h rfl) (inst_c [.tuple] h rfl) (by rw [e_lenC _ h, dI_len]) ?_ fun k _ => same_int 3 _ st
  rw [zip_cd h]
  congr 2
  have e : (l.map PyData.int).map Val.d = dI l := by rw [List.map_map]; rfl
  rw [e]
  exact zips_map _ _ l
/-! ### the law -/
theorem k67_one {D : Day} (s : D.Shape) {y : PyData} (v : DayV D y) (hH : D.H ≤ 48) (hP : D.P ≤ 8) {st : Store} (hc : Cl st) (x0 x1 x2 x3 x4 x5 x7 x8 x9 x10 x11 x12 x13 x14 : Option Val) :
    ∃ x9' st', turn (tgN 8) Llaw_1 (.d y) [x0, x1, x2, x3, x4, x5, some (.d (dInts D.bindL)), x7, x8, x9, x10, x11, x12, x13, x14] st
      = .ok (.nx [x0, x1, x2, x3, x4, x5, some (.d (dInts D.bindL)), x7, some (.d y), x9', x10, x11, x12, x13, x14]) st' ∧ Cl st' := by
  have b := binding_ok s v (by omega) (by omega) hc
  have hg := last_get st (some (dI D.bindL)) (n := st.length) rfl
  have hl := bindL_len D
  have sm := same_bind D.bindL (by omega) hg
  have ap := e_appL st (n := st.length) (xs := dI D.bindL) (.d (.int 9)) rfl (by rw [dI_len]; omega)
  have ce := cell_true hg
  refine ⟨some (.c st.length), st ++ [some (dI D.bindL ++ [.d (.int 9)])], ?_, hc.add fun x hx => ?_⟩
  · generalize dI D.bindL = bv at *
    generalize dInts D.bindL = bd at *
    simp -implicitDefEqProofs [turn_n, Llaw_1, e_bMeth, b, sm, ce, ap]
  · rcases List.mem_append.mp hx with hx | hx
    · obtain ⟨z, _, rfl⟩ := List.mem_map.mp hx; trivial
    · rw [List.mem_singleton.mp hx]; trivial
def k67I (ns : List Int) (env : Z.Env) (st : Store) : Prop := Cl st ∧ ∃ x1 x2 x3 x4 x5 x6 x7 x8 x9 x10 x11 x12 x13 x14, env = [some (.s ns), x1, x2, x3, x4, x5, x6, x7, x8, x9, x10, x11, x12, x13, x14]
theorem k67_step (ns : List Int) (j : Nat) (hj : j ≤ 100) (env : Z.Env) (st : Store) (hI : k67I ns env st) : ∃ env' st', turn (tgN 1) Llaw_2 (.d (.int j)) env st = .ok (.nx env') st' ∧ k67I ns env' st' := by
  obtain ⟨hc, x1, x2, x3, x4, x5, x6, x7, x8, x9, x10, x11, x12, x13, x14, rfl⟩ := hI
  obtain ⟨st1, b1, b2, b3, b4, _⟩ := box_ok ns j hj st hc
  obtain ⟨D, H, P, W, S, d1, hH1, hP1, hW, o, d3⟩ := some_day_ok b2 b3 (by omega)
  have hc2 := d3.cl b3
  have hDH : D.H = H := o.comes.1
  have hDP : D.P = P := o.pots
  subst hDH
  subst hDP
  let D0 : Day := ⟨List.replicate D.H 0, D.pots, D.strikes⟩
  have o0 : DayOk D.H D.P W D0 := ⟨⟨by show (List.replicate D.H (0 : Int)).length = _; simp, fun z hz => by rw [(List.mem_replicate.mp (show z ∈ List.replicate D.H (0 : Int) from hz)).2]; omega⟩, o.strikes, rfl, o.pot⟩
  have h0H : D0.H = D.H := by show (List.replicate D.H (0 : Int)).length = _; simp
  let Ds : Day := ⟨D.comes, D.pots, List.replicate D.H 0⟩
  have os : DayOk D.H D.P W Ds := ⟨o.comes, ⟨by show (List.replicate D.H (0 : Int)).length = _; simp, fun z hz => by rw [(List.mem_replicate.mp (show z ∈ List.replicate D.H (0 : Int) from hz)).2]; omega⟩, rfl, o.pot⟩
  have rp := repr_ok o hH1.2 hP1.2 hW.2
  have hpd0 : ∀ st' : Store, ixG (.d D.pd) st' 0 = .ok (.d (dInts D.comes)) st' := fun _ => rfl
  have hpd1 : ∀ st' : Store, ixG (.d D.pd) st' 1 = .ok (.d (.list (D.pots.map dPot))) st' := fun _ => rfl
  have hpd2 : ∀ st' : Store, ixG (.d D.pd) st' 2 = .ok (.d (dInts D.strikes)) st' := fun _ => rfl
  have hpl0 : ∀ st' : Store, lenV (.d (dInts D.comes)) st' = .ok (.d (.int D.H)) st' := fun st' => by
    unfold dInts; rw [e_lenL, List.length_map]; rfl
  have hDl : D.pots.length = D.P := rfl
  -- due
  have hr := e_rng1 S ((D.P : Int) + 1) (by omega)
  rw [show ((D.P : Int) + 1).toNat = D.P + 1 by omega] at hr
  have hit : intsR 0 (D.P + 1) = (List.range (D.P + 1)).map fun p : Nat => Val.d (.int (0 + (p : Nat))) := rfl
  rw [hit] at hr
  have lc := lcL_filterI (gs := []) (lt := .n 12) (tt := (bCmpT .Gt (bCall 1 F_law_struck [(bCall 2 F_law_more [(bVar 3), (bVar 12)])]) (bCall 1 F_law_struck [(bVar 3)]))) (fe := bVar 12) (env0 := [some (.s ns), some (.d (.int j)), some (.c st.length), some (.d D.pd), some (.d (.int D.H)), some (.d (.str (PyData.shown D.pd))), x6, x7, x8, x9, x10, x11, none, x13, x14]) (st := S) (holds0 _)
    (fun p => decide (D.str < (D.more p).str)) (fun p : Nat => Val.d (.int (0 + (p : Nat)))) (fun p : Nat => Val.d (.int (p : Nat))) (List.range (D.P + 1)) [] (by simp; omega) fun p hp => by
      have hp : p < D.P + 1 := by simpa using hp
      have w1 := law_more_ok o.shape (by omega) (by omega) (p := p) (by omega) S
      have t1 := struck_ok (more_shape o.shape (p := p) (by omega)) (by rw [more_H]; exact hH1) (by rw [more_P]; exact hP1) hc2
      have t0 := struck_ok o.shape hH1 hP1 hc2
      refine ⟨_, rfl, ?_, fun _ => ?_⟩
      · rw [Int.zero_add]
        simp -implicitDefEqProofs [w1, t1, t0]
      · rw [Int.zero_add]
        simp
  rw [List.nil_append] at lc
  have hd : ((List.range (D.P + 1)).filter fun p => decide (D.str < (D.more p).str)).map (fun p : Nat => Val.d (.int (p : Nat))) = dI D.bindL := by
    unfold dI Day.bindL Day.bindN
    rw [List.map_map]
    rfl
  rw [hd] at lc
  have hbl := bindL_len D
  have mk := mkL_dI S D.bindL (by omega)
  generalize ((List.range (D.P + 1)).map fun p : Nat => Val.d (.int (0 + (p : Nat)))) = iv at hr lc
  generalize dI D.bindL = bv at lc mk
  have hlo := loose_ok o.shape (by omega) (by omega) 3 13 14 [some (.s ns), some (.d (.int j)), some (.c st.length), some (.d D.pd), some (.d (.int D.H)), some (.d (.str (PyData.shown D.pd))), some (.d (dInts D.bindL)), x7, x8, x9, x10, x11, x12, x13, x14] S rfl (by decide) (by simp) (by simp)
  unfold looseE at hlo
  obtain ⟨y9, s1, q1, c1⟩ := k67_one o.shape (DayV.pd D) hH1.2 hP1.2 hc2 (some (.s ns)) (some (.d (.int j))) (some (.c st.length)) (some (.d D.pd)) (some (.d (.int D.H))) (some (.d (.str (PyData.shown D.pd)))) (some (.d (D.pdv true))) x8 x9 x10 x11 x12 x13 x14
  obtain ⟨z9, s2, q2, c2⟩ := k67_one o.shape (DayV.pdv D true) hH1.2 hP1.2 c1 (some (.s ns)) (some (.d (.int j))) (some (.c st.length)) (some (.d D.pd)) (some (.d (.int D.H))) (some (.d (.str (PyData.shown D.pd)))) (some (.d (D.pdv true))) (some (.d D.pd)) y9 x10 x11 x12 x13 x14
  have fin : forL [] (tgN 8) Llaw_1 [.d D.pd, .d (D.pdv true)] [some (.s ns), some (.d (.int j)), some (.c st.length), some (.d D.pd), some (.d (.int D.H)), some (.d (.str (PyData.shown D.pd))), some (.d (dInts D.bindL)), some (.d (D.pdv true)), x8, x9, x10, x11, x12, x13, x14] S
      = .ok (.nx [some (.s ns), some (.d (.int j)), some (.c st.length), some (.d D.pd), some (.d (.int D.H)), some (.d (.str (PyData.shown D.pd))), some (.d (dInts D.bindL)), some (.d (D.pdv true)), some (.d (D.pdv true)), z9, x10, x11, x12, x13, x14]) s2 := by
    rw [forL_cons _ _ _ _ _ _ _ (holds0 _), q1]
    simp only [e_bind_ok]
    rw [forL_cons _ _ _ _ _ _ _ (holds0 _), q2]
    simp only [e_bind_ok]
    exact forL_nil _ _ _ _ _ (holds0 _)
  have itup : ∀ st' : Store, itOf (.d (.tuple [D.pd, D.pdv true])) st' = .ok ⟨[.d D.pd, .d (D.pdv true)], []⟩ st' := fun _ => rfl
  -- without juice
  have hz : ∀ st', mkL false (List.replicate D.H (Val.d (.int 0))) st' = .ok (.d (dInts (List.replicate D.H 0))) st' := fun st' => by
    have e : List.replicate D.H (Val.d (.int 0)) = dI (List.replicate D.H 0) := by simp [dI]
    rw [e, mkL_dI _ _ (by simp; omega)]
  have hrp : -1000000 ≤ (D.H : Int) ∧ (D.H : Int) ≤ 1000000 := by omega
  have hD0p : PyData.tuple [dInts (List.replicate D.H 0), .list (D.pots.map dPot), dInts D.strikes] = D0.pd := rfl
  have hDsp : PyData.tuple [dInts D.comes, .list (D.pots.map dPot), dInts (List.replicate D.H 0)] = Ds.pd := rfl
  have bz := binding_ok o0.shape (DayV.pd D0) (by omega) (show D0.P ≤ 1000 by show D.P ≤ 1000; omega) c2
  have bz0 : D0.bindL = [] := bind_zero o0 fun h => zero_come _ _ _ h
  rw [bz0] at bz
  have nz := ne_cell (last_get s2 (some (dI [])) (n := s2.length) rfl)
  let s3 := s2 ++ [some (dI [])]
  have c3 : Cl s3 := c2.add fun x hx => by cases hx
  have es := eq_str s3 (PyData.shown D.pd)
  -- the free day
  have of := free_ok D.P
  have hfH : (freeDay D.P).H = 9 := rfl
  have bf := binding_ok of.shape (DayV.pd (freeDay D.P)) (by rw [hfH]; omega) (by rw [free_P]; omega) c3
  rw [bind_free D.P hP1.2] at bf
  have nf := ne_cell (last_get s3 (some (dI [])) (n := s3.length) rfl)
  let s4 := s3 ++ [some (dI [])]
  have c4 : Cl s4 := c3.add fun x hx => by cases hx
  have bs := binding_ok os.shape (DayV.pd Ds) (show Ds.H ≤ 1000 by show D.H ≤ 1000; omega) (show Ds.P ≤ 1000 by show D.P ≤ 1000; omega) c4
  have hsl : Ds.bindL = [] ∨ Ds.bindL = [(D.P : Int)] := bind_still os fun z hz => (List.mem_replicate.mp (show z ∈ List.replicate D.H (0 : Int) from hz)).2
  have ni := notin_cell (last_get s4 (some (dI Ds.bindL)) (n := s4.length) rfl) hsl
  let s5 := s4 ++ [some (dI Ds.bindL)]
  have c5 : Cl s5 := c4.add fun x hx => by obtain ⟨z, _, rfl⟩ := List.mem_map.mp hx; trivial
  have fr : (bTup [(bBin false .Add (bLst false [(bC (.int 3))]) (bBin false .Mult (bLst false [(bC (.int 0))]) (bC (.int 8)))), (bLc false [8] (iSeq (bIx (bVar 3) (bC (.int 1)))) (.n 8) tYesT (bTup [(bC (.int 3)), (bBin false .Mult (bLst false [(bC (.int 3))]) (bC (.int 9)))])), (bBin false .Mult (bLst false [(bC (.int 3))]) (bC (.int 9)))]) [some (.s ns), some (.d (.int j)), some (.c st.length), some (.d D.pd), some (.d (.int D.H)), some (.d (.str (PyData.shown D.pd))), some (.d (dInts D.bindL)), some (.d (D.pdv true)), some (.d (D.pdv true)), z9, x10, x11, x12, x13, x14] s3 = .ok (.d (freeDay D.P).pd) s3 := by
    have mul9 : vBin false .Mult (.d (.list [.int 3])) (.d (.int 9)) s3 = .ok (.d (dInts (List.replicate 9 3))) s3 := by
      have m9 : mkL false (dI (List.replicate 9 3)) s3 = .ok (.d (dInts (List.replicate 9 3))) s3 := mkL_dI s3 (List.replicate 9 3) (by simp)
      rw [e_repL, if_pos (by omega), ← m9]
      rfl
    have mul8 : vBin false .Mult (.d (.list [.int 0])) (.d (.int 8)) s3 = .ok (.d (dInts (List.replicate 8 0))) s3 := by
      have m8 : mkL false (dI (List.replicate 8 0)) s3 = .ok (.d (dInts (List.replicate 8 0))) s3 := mkL_dI s3 (List.replicate 8 0) (by simp)
      rw [e_repL, if_pos (by omega), ← m8]
      rfl
    have ca : vBin false .Add (.d (.list [.int 3])) (.d (dInts (List.replicate 8 0))) s3 = .ok (.d (dInts ([3] ++ List.replicate 8 0))) s3 := catI s3 [3] (List.replicate 8 0) (by simp)
    have lcf := lcL_mapI (gs := []) (lt := .n 8) (tt := tYesT) (fe := (bTup [(bC (.int 3)), (bBin false .Mult (bLst false [(bC (.int 3))]) (bC (.int 9)))])) (env0 := [some (.s ns), some (.d (.int j)), some (.c st.length), some (.d D.pd), some (.d (.int D.H)), some (.d (.str (PyData.shown D.pd))), some (.d (dInts D.bindL)), some (.d (D.pdv true)), none, z9, x10, x11, x12, x13, x14]) (st := s3) (holds0 _) (fun p : Int × List Int => Val.d (dPot p)) (fun _ => .d (dPot (3, List.replicate 9 3))) D.pots [] (by simp; omega) fun p _ => by
      refine ⟨_, rfl, rfl, ?_⟩
      have hpq : dPot (3, List.replicate 9 3) = .tuple [.int 3, dInts (List.replicate 9 3)] := rfl
      rw [hpq]
      generalize dInts (List.replicate 9 (3 : Int)) = q9 at mul9 ⊢
      simp -implicitDefEqProofs [-e_repL, mul9]
    rw [List.nil_append] at lcf
    have itp : itOf (.d (.list (D.pots.map dPot))) s3 = .ok ⟨D.pots.map fun p => Val.d (dPot p), []⟩ s3 := by rw [e_itL, List.map_map]; rfl
    have mkf : mkL false (D.pots.map fun _ => Val.d (dPot (3, List.replicate 9 3))) s3 = .ok (.d (.list ((freeDay D.P).pots.map dPot))) s3 := by
      have e : (D.pots.map fun _ => Val.d (dPot (3, List.replicate 9 3))) = ((freeDay D.P).pots.map dPot).map Val.d := by
        show _ = ((List.replicate D.P ((3 : Int), List.replicate 9 (3 : Int))).map dPot).map Val.d
        rw [List.map_replicate, List.map_replicate, List.map_const', hDl]
      rw [e, mkL_f _ _ (by rw [List.length_map]; show (freeDay D.P).P ≤ _; rw [free_P]; omega)]
    have hfp : (freeDay D.P).pd = .tuple [dInts ([3] ++ List.replicate 8 0), .list ((freeDay D.P).pots.map dPot), dInts (List.replicate 9 3)] := rfl
    rw [hfp]
    generalize (D.pots.map fun p => Val.d (dPot p)) = iv at lcf itp
    generalize (D.pots.map fun _ => Val.d (dPot (3, List.replicate 9 3))) = ov at lcf mkf
    generalize (.list ((freeDay D.P).pots.map dPot) : PyData) = fp at mkf ⊢
    generalize dInts ([3] ++ List.replicate 8 (0 : Int)) = fc at ca ⊢
    generalize dInts (List.replicate 9 (3 : Int)) = f9 at mul9 ⊢
    generalize dInts (List.replicate 8 (0 : Int)) = f8 at mul8 ca
    simp -implicitDefEqProofs [-e_repL, -e_catL, -e_itL, mul9, mul8, ca, hpd1, itp, lcf, mkf]
  refine ⟨_, s5, ?_, c5, some (.d (.int j)), some (.c st.length), some (.d D.pd), some (.d (.int D.H)), some (.d (.str (PyData.shown D.pd))), some (.d (dInts D.bindL)), some (.d (D.pdv true)), some (.d (D.pdv true)), z9, some (.d (freeDay D.P).pd), some (.d Ds.pd), x12, x13, x14, rfl⟩
  have stl : (bTup [(bIx (bVar 3) (bC (.int 0))), (bIx (bVar 3) (bC (.int 1))), (bBin false .Mult (bLst false [(bC (.int 0))]) (bVar 4))]) [some (.s ns), some (.d (.int j)), some (.c st.length), some (.d D.pd), some (.d (.int D.H)), some (.d (.str (PyData.shown D.pd))), some (.d (dInts D.bindL)), some (.d (D.pdv true)), some (.d (D.pdv true)), z9, some (.d (freeDay D.P).pd), x11, x12, x13, x14] s3 = .ok (.d Ds.pd) s3 := by
    simp -implicitDefEqProofs [hpd0, hpd1, hrp, hz, hDsp]
  have zer : (bTup [(bBin false .Mult (bLst false [(bC (.int 0))]) (bVar 4)), (bIx (bVar 3) (bC (.int 1))), (bIx (bVar 3) (bC (.int 2)))]) [some (.s ns), some (.d (.int j)), some (.c st.length), some (.d D.pd), some (.d (.int D.H)), some (.d (.str (PyData.shown D.pd))), some (.d (dInts D.bindL)), some (.d (D.pdv true)), some (.d (D.pdv true)), z9, x10, x11, x12, x13, x14] s2 = .ok (.d D0.pd) s2 := by
    simp -implicitDefEqProofs [hpd1, hpd2, hrp, hz, hD0p]
  have tup2 : ∀ env st', env = ([some (.s ns), some (.d (.int j)), some (.c st.length), some (.d D.pd), some (.d (.int D.H)), some (.d (.str (PyData.shown D.pd))), some (.d (dInts D.bindL)), some (.d (D.pdv true)), x8, x9, x10, x11, x12, x13, x14] : Z.Env) → (bTup [(bVar 3), (bVar 7)]) env st' = .ok (.d (.tuple [D.pd, D.pdv true])) st' := fun env st' h => by
    subst h
    simp -implicitDefEqProofs
  have tup2 := tup2 _ S rfl
  have tup3 : (bTup [(bLst false []), (bLst false [(bCallB sLen [(bIx (bVar 3) (bC (.int 1)))])])]) [some (.s ns), some (.d (.int j)), some (.c st.length), some (.d D.pd), some (.d (.int D.H)), some (.d (.str (PyData.shown D.pd))), some (.d (dInts D.bindL)), some (.d (D.pdv true)), some (.d (D.pdv true)), z9, some (.d (freeDay D.P).pd), some (.d Ds.pd), x12, x13, x14] (s4 ++ [some (dI Ds.bindL)]) = .ok (.d (.tuple [.list [], .list [.int D.P]])) (s4 ++ [some (dI Ds.bindL)]) := by
    simp -implicitDefEqProofs [hpd1, hDl]
  have bf' : Fbinding_places [.d (freeDay D.P).pd] s3 = .ok (.c s3.length) s4 := bf
  have bs' : Fbinding_places [.d Ds.pd] s4 = .ok (.c s4.length) s5 := bs
  have bz' : Fbinding_places [.d D0.pd] s2 = .ok (.c s2.length) s3 := bz
  have nz' : vCmp .NotEq (.c s2.length) (.d (.list [])) s3 = some false := nz
  have nf' : vCmp .NotEq (.c s3.length) (.d (.list [])) s4 = some false := nf
  have ni' : vCmp .NotIn (.c s4.length) (.d (.tuple [.list [], .list [.int D.P]])) s5 = some false := ni
  have tup3' : (bTup [(bLst false []), (bLst false [(bCallB sLen [(bIx (bVar 3) (bC (.int 1)))])])]) [some (.s ns), some (.d (.int j)), some (.c st.length), some (.d D.pd), some (.d (.int D.H)), some (.d (.str (PyData.shown D.pd))), some (.d (dInts D.bindL)), some (.d (D.pdv true)), some (.d (D.pdv true)), z9, some (.d (freeDay D.P).pd), some (.d Ds.pd), x12, x13, x14] s5 = .ok (.d (.tuple [.list [], .list [.int D.P]])) s5 := tup3
  clear_value s5 s4 s3 D0 Ds
  generalize hgf : (freeDay D.P).pd = fpd at *
  generalize hgs : Ds.pd = spd at *
  generalize hg0 : D0.pd = zpd at *
  generalize dInts D.bindL = bl at *
  generalize PyData.shown D.pd = sh at *
  simp -implicitDefEqProofs [-e_tup, turn_n, Llaw_2, b1, d1, hpd0, hpd1, hpl0, hDl, rp, hr, lc, mk, hlo, tup2, itup, fin, zer, bz', nz', es, fr, stl, bf', nf', bs', tup3', ni']
theorem law_true : ∀ ns : List Int, ns.length ≤ 63 → ∃ st, Flaw [.s ns] [] = .ok (.d (.bool true)) st := by
  intro ns hns
  let n : Nat := max 2 (min ns.length 4)
  obtain ⟨env1, st1, a1, hc, x1, x2, x3, x4, x5, x6, x7, x8, x9, x10, x11, x12, x13, x14, rfl⟩ := forL_inv (gs := []) (t := tgN 1) (b := Llaw_2) (fun _ env st => k67I ns env st) (intsR 0 n) 0 [some (.s ns), none, none, none, none, none, none, none, none, none, none, none, none, none, none] [] ⟨Cl.nil, none, none, none, none, none, none, none, none, none, none, none, none, none, none, rfl⟩ (fun _ _ _ _ _ _ => holds0 _)
    (fun j x env st hx hI => by
      obtain ⟨rfl, hj⟩ := intsR_get hx
      rw [Int.zero_add]
      have hj2 : j ≤ 100 := by omega
      obtain ⟨env', st', q, r⟩ := k67_step ns j hj2 env st hI
      exact ⟨env', st', .inl q, r⟩)
  have hr := e_rng1 [] (n : Int) (by omega)
  rw [show ((n : Int)).toNat = n by omega] at hr
  have hn : (if (if (4 : Int) < ns.length then 4 else (ns.length : Int)) > 2 then (if (4 : Int) < ns.length then 4 else (ns.length : Int)) else 2) = (n : Int) := by
    show _ = ((max 2 (min ns.length 4) : Nat) : Int)
    split <;> split <;> omega
  have hh := hand_d (st := st1) [] (n := 0) rfl (y := .bool true) rfl Cl.nil
  refine ⟨[], ?_⟩
  simp -implicitDefEqProofs [Flaw, hn, hr, a1, hh]
end Gk67
open PySem PySem.W PyProof.Rows
set_option maxHeartbeats 0 in
theorem PySem.Challenge.cw_kettlerow_k67_places_that_bind_holds : PySem.Challenge.rw_kettlerow_k67_places_that_bind.Holds := by
  w_on; o_law; k_head; (case hw => w_witness2)
  k_fill
  refine Z.walk_end (l := PySem.Challenge.rw_kettlerow_k67_places_that_bind) (n := 63) (k := 6) (x := "script") (sem := Gk67.Flaw) rfl (by decide) rfl ⟨rfl, by decide, by decide⟩ (fun w h Y => PySem.W.kIn_of Y) ?F Gk67.law_true
  case F =>
    intro w mg fa h KX G hmg
    refine' Gk67.all_mk KX G hmg ?a1 ?l1 ?c1 ?k1 ?a2 ?l2 ?c2 ?k2 ?a4 ?l4 ?c4 ?k4 ?a5 ?l5 ?c5 ?k5 ?a6 ?l6 ?c6 ?k6 ?a7 ?l7 ?c7 ?k7 ?a9 ?l9 ?c9 ?k9 ?a10 ?l10 ?c10 ?k10 ?a11 ?l11 ?c11 ?k11 ?a12 ?l12 ?c12 ?k12 ?a13 ?l13 ?c13 ?k13 ?a14 ?l14 ?c14 ?k14 ?a15 ?l15 ?c15 ?k15 ?a16 ?l16 ?c16 ?k16 ?a17 ?l17 ?c17 ?k17 ?a18 ?l18 ?c18 ?k18 ?a19 ?l19 ?c19 ?k19 ?z_abs ?z_all ?z_bool ?z_enumerate ?z_int ?z_isinstance ?z_len ?z_list ?z_max ?z_min ?z_range ?z_repr ?z_reversed ?z_str ?z_sum ?z_tuple ?z_zip
    (case a1 => k_is); (case l1 => k_is); (case c1 => k_is); (case k1 => k_is); (case a2 => k_is); (case l2 => k_is); (case c2 => k_is); (case k2 => k_is); (case a4 => k_is); (case l4 => k_is); (case c4 => k_is); (case k4 => k_is); (case a5 => k_is); (case l5 => k_is); (case c5 => k_is); (case k5 => k_is); (case a6 => k_is); (case l6 => k_is); (case c6 => k_is); (case k6 => k_is); (case a7 => k_is); (case l7 => k_is); (case c7 => k_is); (case k7 => k_is); (case a9 => k_is); (case l9 => k_is); (case c9 => k_is); (case k9 => k_is); (case a10 => k_is); (case l10 => k_is); (case c10 => k_is); (case k10 => k_is); (case a11 => k_is); (case l11 => k_is); (case c11 => k_is); (case k11 => k_is); (case a12 => k_is); (case l12 => k_is); (case c12 => k_is); (case k12 => k_is); (case a13 => k_is); (case l13 => k_is); (case c13 => k_is); (case k13 => k_is); (case a14 => k_is); (case l14 => k_is); (case c14 => k_is); (case k14 => k_is); (case a15 => k_is); (case l15 => k_is); (case c15 => k_is); (case k15 => k_is); (case a16 => k_is); (case l16 => k_is); (case c16 => k_is); (case k16 => k_is); (case a17 => k_is); (case l17 => k_is); (case c17 => k_is); (case k17 => k_is); (case a18 => k_is); (case l18 => k_is); (case c18 => k_is); (case k18 => k_is); (case a19 => k_is); (case l19 => k_is); (case c19 => k_is); (case k19 => k_is); (case z_abs => k_is); (case z_all => k_is); (case z_bool => k_is); (case z_enumerate => k_is); (case z_int => k_is); (case z_isinstance => k_is); (case z_len => k_is); (case z_list => k_is); (case z_max => k_is); (case z_min => k_is); (case z_range => k_is); (case z_repr => k_is); (case z_reversed => k_is); (case z_str => k_is); (case z_sum => k_is); (case z_tuple => k_is); (case z_zip => k_is)
