import PyProof.Rows.All
import Wide.All
import OpenK.AllK
import Wide.FinOn
import HandS.ForMost
import HandS.ForExc
import HandS.IsInst
import HandS.Wide
import HandS.Deep
import HandS.Steps
import PySem.Challenge.RW_shopbound_k04_names_and_numbers
set_option Elab.async false
set_option linter.all false
set_option maxRecDepth 100000
/-! Ly: data instead of addresses. D: what a value is, as data; Rep: the stable part S of the heap bears it; W: a value with what is owned; mirrors: plain functions over lists of W. -/
namespace Ly
open PySem L2

/-- data -/
inductive D where
  | non | bl (b : Bool) | int (i : Int) | str (x : Str)
  | lst (xs : List D) | tup (xs : List D)
  | dic (ks : List Key) (xs : List D) | dit (ks : List (List Key)) (xs : List D)
  | obj (C : Addr) (fs : List Str) (xs : List D)
  | scr (ns : List Int)
  /-- a tuple of the module; a built-in type; a class -/
  | ktup (xs : List D)
  | ty (n : String)
  | cls (C : Addr)

mutual
/-- v is d in the stable heap S -/
inductive Rep (K : PySem.W.Frag) (S : Hp) : V → D → Prop
  | non : Rep K S .non .non
  | bl (b : Bool) : Rep K S (.bl b) (.bl b)
  | int (i : Int) : Rep K S (.int i) (.int i)
  | str (x : Str) : Rep K S (.str x) (.str x)
  | ty (n : String) : Rep K S (.ty n) (.ty n)
  | cls (C : Addr) : Rep K S (.ref C) (.cls C)
  | lst {a : Addr} {vs : List V} {xs : List D} : S a = some (.lst vs) → Reps K S vs xs → Rep K S (.ref a) (.lst xs)
  | tup {a : Addr} {vs : List V} {xs : List D} : S a = some (.tup vs) → Reps K S vs xs → Rep K S (.ref a) (.tup xs)
  | ktup {a : Addr} {vs : List V} {xs : List D} : SqT K S a vs → Reps K S vs xs → Rep K S (.ref a) (.ktup xs)
  | dic {a : Addr} {ks : List Key} {vs : List V} {xs : List D} : S a = some (.dK (ks.zip vs)) → vs.length = ks.length → Reps K S vs xs → Rep K S (.ref a) (.dic ks xs)
  | dit {a : Addr} {ks : List (List Key)} {vs : List V} {xs : List D} : S a = some (.dT (ks.zip vs)) → vs.length = ks.length → Reps K S vs xs → Rep K S (.ref a) (.dit ks xs)
  | obj {a C dx : Addr} {fs : List Str} {vs : List V} {xs : List D} : S a = some (.ins C dx (fs.zip vs)) → vs.length = fs.length → Reps K S vs xs → Rep K S (.ref a) (.obj C fs xs)
  | scr {a : Addr} {ns : List Int} : SqL K S a (ns.map V.int) → Rep K S (.ref a) (.scr ns)
inductive Reps (K : PySem.W.Frag) (S : Hp) : List V → List D → Prop
  | nil : Reps K S [] []
  | cons {v : V} {vs : List V} {d : D} {ds : List D} : Rep K S v d → Reps K S vs ds → Reps K S (v :: vs) (d :: ds)
end

theorem sqT_up {K : PySem.W.Frag} {S S' : Hp} {a : Addr} {xs : List V} (e : Same S S') (h : SqT K S a xs) : SqT K S' a xs := by
  rcases h with (h | ⟨o, h⟩) | h
  · exact .inl (.inl (e _ _ h))
  · exact .inl (.inr ⟨o, e _ _ h⟩)
  · exact .inr h
section
variable {K : PySem.W.Frag} {S S' H H' : Hp}
mutual
theorem Rep.mono (h : Same S S') : ∀ (d : D) (v : V), Rep K S v d → Rep K S' v d
  | .non, _, r => by cases r; exact .non
  | .bl b, _, r => by cases r; exact .bl b
  | .int i, _, r => by cases r; exact .int i
  | .str x, _, r => by cases r; exact .str x
  | .ty x, _, r => by cases r; exact .ty x
  | .cls x, _, r => by cases r; exact .cls x
  | .lst xs, _, r => by cases r with | lst e q => exact .lst (h _ _ e) (Reps.mono h xs _ q)
  | .tup xs, _, r => by cases r with | tup e q => exact .tup (h _ _ e) (Reps.mono h xs _ q)
  | .ktup xs, _, r => by cases r with | ktup e q => exact .ktup (sqT_up h e) (Reps.mono h xs _ q)
  | .dic ks xs, _, r => by cases r with | dic e l q => exact .dic (h _ _ e) l (Reps.mono h xs _ q)
  | .dit ks xs, _, r => by cases r with | dit e l q => exact .dit (h _ _ e) l (Reps.mono h xs _ q)
  | .obj C fs xs, _, r => by cases r with | obj e l q => exact .obj (h _ _ e) l (Reps.mono h xs _ q)
  | .scr ns, _, r => by cases r with | scr e => exact .scr (h.seq e)
theorem Reps.mono (h : Same S S') : ∀ (ds : List D) (vs : List V), Reps K S vs ds → Reps K S' vs ds
  | [], _, r => by cases r; exact .nil
  | d :: ds, _, r => by cases r with | cons a b => exact .cons (Rep.mono h d _ a) (Reps.mono h ds _ b)
end
theorem Rep.up {v : V} {d : D} (r : Rep K S v d) (h : Same S S') : Rep K S' v d := Rep.mono h d v r
theorem Reps.up {vs : List V} {ds : List D} (r : Reps K S vs ds) (h : Same S S') : Reps K S' vs ds := Reps.mono h ds vs r
theorem Reps.len : ∀ {vs : List V} {ds : List D}, Reps K S vs ds → vs.length = ds.length
  | _, _, .nil => rfl
  | _, _, .cons _ t => congrArg (· + 1) (Reps.len t)
theorem Reps.get : ∀ {vs : List V} {ds : List D} {i : Nat} {d : D}, Reps K S vs ds → ds[i]? = some d → ∃ v, vs[i]? = some v ∧ Rep K S v d
  | _, _, _, _, .nil, e => by simp at e
  | _, _, 0, _, .cons r _, e => by simp at e; subst e; exact ⟨_, rfl, r⟩
  | _, _, i + 1, d, .cons _ t, e => by
    obtain ⟨v, h1, h2⟩ := Reps.get (i := i) (d := d) t (by simpa using e)
    exact ⟨v, by simpa using h1, h2⟩
theorem Reps.getV : ∀ {vs : List V} {ds : List D} {i : Nat} {v : V}, Reps K S vs ds → vs[i]? = some v → ∃ d, ds[i]? = some d ∧ Rep K S v d
  | _, _, _, _, .nil, e => by simp at e
  | _, _, 0, _, .cons r _, e => by simp at e; subst e; exact ⟨_, rfl, r⟩
  | _, _, i + 1, d, .cons _ t, e => by
    obtain ⟨v, h1, h2⟩ := Reps.getV (i := i) (v := d) t (by simpa using e)
    exact ⟨v, by simpa using h1, h2⟩
theorem Reps.app : ∀ {vs ws : List V} {ds es : List D}, Reps K S vs ds → Reps K S ws es → Reps K S (vs ++ ws) (ds ++ es)
  | _, _, _, _, .nil, s => s
  | _, _, _, _, .cons r t, s => .cons r (Reps.app t s)
theorem Reps.take : ∀ {vs : List V} {ds : List D} (n : Nat), Reps K S vs ds → Reps K S (vs.take n) (ds.take n)
  | _, _, 0, _ => by rw [List.take_zero, List.take_zero]; exact .nil
  | _, _, _ + 1, .nil => .nil
  | _, _, n + 1, .cons r t => .cons r (Reps.take n t)
theorem Reps.drop : ∀ {vs : List V} {ds : List D} (n : Nat), Reps K S vs ds → Reps K S (vs.drop n) (ds.drop n)
  | _, _, 0, r => r
  | _, _, _ + 1, .nil => .nil
  | _, _, n + 1, .cons _ t => Reps.drop n t
theorem Reps.set {v : V} {d : D} (r : Rep K S v d) : ∀ {vs : List V} {ds : List D} (i : Nat), Reps K S vs ds → Reps K S (vs.set i v) (ds.set i d)
  | _, _, _, .nil => .nil
  | _, _, 0, .cons _ t => .cons r t
  | _, _, i + 1, .cons q t => .cons q (Reps.set r i t)
theorem Reps.rep {v : V} {d : D} (r : Rep K S v d) : ∀ n : Nat, Reps K S (List.replicate n v) (List.replicate n d)
  | 0 => .nil
  | n + 1 => .cons r (Reps.rep r n)
theorem Reps.ints : ∀ (ns : List Int), Reps K S (ns.map V.int) (ns.map D.int)
  | [] => .nil
  | n :: ns => .cons (.int n) (Reps.ints ns)
end

/-! ### growth -/
/-- from a stable part and a heap to later ones: nothing that was tracked is touched, what comes to the stable part is new -/
structure Gr (S H S' H' : Hp) : Prop where
  ss : Same S S'
  hh : Same H H'
  sub : Same S' H'
  nw : ∀ a o, S' a = some o → S a = some o ∨ H a = none

section
variable {S H S1 H1 S2 H2 S' H' : Hp}
theorem Gr.refl (h : Same S H) : Gr S H S H := ⟨Same.refl S, Same.refl H, h, fun _ _ e => .inl e⟩
theorem Gr.trans (a : Gr S H S1 H1) (b : Gr S1 H1 S2 H2) : Gr S H S2 H2 where
  ss := a.ss.trans b.ss
  hh := a.hh.trans b.hh
  sub := b.sub
  nw := fun c o e => by
    rcases b.nw c o e with h | h
    · exact a.nw c o h
    · exact .inr (a.hh.free h)
/-- the stable part stays, the heap grows -/
theorem Gr.hp (h : Same S H) (g : Same H H') : Gr S H S H' := ⟨Same.refl S, g, fun a o e => g a o (h a o e), fun _ _ e => .inl e⟩
/-- a new object, stable -/
theorem Gr.new {p : Addr} {o : HO} (h : Same S H) (e : H p = none) : Gr S H (upd S p o) (upd H p o) where
  ss := fun a u q => by rw [upd_ne (ne_of_none q (h.free e))]; exact q
  hh := fun a u q => by rw [upd_ne (ne_of_none q e)]; exact q
  sub := fun a u q => by
    by_cases z : a = p
    · subst z; rw [upd_same] at q ⊢; exact q
    · rw [upd_ne z] at q ⊢; exact h a u q
  nw := fun a u q => by
    by_cases z : a = p
    · subst z; exact .inr e
    · rw [upd_ne z] at q; exact .inl q
theorem Gr.gone (g : Gr S H S' H') {p : Addr} (hs : S p = none) (hh : (H p).isSome = true) : S' p = none := by
  cases e : S' p with
  | none => rfl
  | some o =>
    rcases g.nw p o e with z | z
    · rw [hs] at z; cases z
    · rw [z] at hh; cases hh
end

/-! ### values with what is owned -/
inductive W where
  | sh (d : D)
  | lst (xs : List D)
  | dic (ks : List Key) (xs : List D)
  | dit (ks : List (List Key)) (xs : List D)
  | obj (C : Addr) (fs : List Str) (ws : List W)
mutual
def W.toD : W → D
  | .sh d => d
  | .lst xs => .lst xs
  | .dic ks xs => .dic ks xs
  | .dit ks xs => .dit ks xs
  | .obj C fs ws => .obj C fs (W.toDs ws)
def W.toDs : List W → List D
  | [] => []
  | w :: ws => w.toD :: W.toDs ws
end
mutual
/-- v is w in the heap H with the stable part S; fp: the addresses that it owns -/
inductive Own (K : PySem.W.Frag) (S H : Hp) : V → W → List Addr → Prop
  | sh {v : V} {d : D} : Rep K S v d → Own K S H v (.sh d) []
  | lst {p : Addr} {vs : List V} {xs : List D} : H p = some (.lst vs) → Reps K S vs xs → Own K S H (.ref p) (.lst xs) [p]
  | dic {p : Addr} {ks : List Key} {vs : List V} {xs : List D} : H p = some (.dK (ks.zip vs)) → vs.length = ks.length → Reps K S vs xs → Own K S H (.ref p) (.dic ks xs) [p]
  | dit {p : Addr} {ks : List (List Key)} {vs : List V} {xs : List D} : H p = some (.dT (ks.zip vs)) → vs.length = ks.length → Reps K S vs xs → Own K S H (.ref p) (.dit ks xs) [p]
  | obj {p C dx : Addr} {fs : List Str} {vs : List V} {ws : List W} {fp : List Addr} : H p = some (.ins C dx (fs.zip vs)) → vs.length = fs.length → Owns K S H vs ws fp → Own K S H (.ref p) (.obj C fs ws) (p :: fp)
inductive Owns (K : PySem.W.Frag) (S H : Hp) : List V → List W → List Addr → Prop
  | nil : Owns K S H [] [] []
  | cons {v : V} {vs : List V} {w : W} {ws : List W} {fp fq : List Addr} : Own K S H v w fp → Owns K S H vs ws fq → Owns K S H (v :: vs) (w :: ws) (fp ++ fq)
end
section
variable {K : PySem.W.Frag} {S S' H H' : Hp}
mutual
/-- carried: the stable part grows, the owned addresses keep what they hold -/
theorem Own.carry (h : Same S S') : ∀ {v : V} (w : W) {fp : List Addr}, Own K S H v w fp → (∀ p ∈ fp, H' p = H p) → Own K S' H' v w fp
  | _, .sh d, _, r, k => by cases r with | sh q => exact .sh (q.up h)
  | _, .lst xs, _, r, k => by cases r with | lst e q => exact .lst (by rw [k _ (by simp)]; exact e) (q.up h)
  | _, .dic ks xs, _, r, k => by cases r with | dic e l q => exact .dic (by rw [k _ (by simp)]; exact e) l (q.up h)
  | _, .dit ks xs, _, r, k => by cases r with | dit e l q => exact .dit (by rw [k _ (by simp)]; exact e) l (q.up h)
  | _, .obj C fs ws, _, r, k => by cases r with | obj e l q => exact .obj (by rw [k _ (by simp)]; exact e) l (Owns.carry h ws q fun p hp => k p (List.mem_cons_of_mem _ hp))
theorem Owns.carry (h : Same S S') : ∀ {vs : List V} (ws : List W) {fp : List Addr}, Owns K S H vs ws fp → (∀ p ∈ fp, H' p = H p) → Owns K S' H' vs ws fp
  | _, [], _, r, k => by cases r; exact .nil
  | _, w :: ws, _, r, k => by cases r with | cons a b => exact .cons (Own.carry h w a fun p hp => k p (List.mem_append_left _ hp)) (Owns.carry h ws b fun p hp => k p (List.mem_append_right _ hp))
end
mutual
theorem Own.there : ∀ {v : V} (w : W) {fp : List Addr}, Own K S H v w fp → ∀ p ∈ fp, (H p).isSome = true
  | _, .sh d, _, r => by cases r; intro p hp; cases hp
  | _, .lst xs, _, r => by cases r with | lst e q => intro p hp; rw [List.mem_singleton.mp hp, e]; rfl
  | _, .dic ks xs, _, r => by cases r with | dic e l q => intro p hp; rw [List.mem_singleton.mp hp, e]; rfl
  | _, .dit ks xs, _, r => by cases r with | dit e l q => intro p hp; rw [List.mem_singleton.mp hp, e]; rfl
  | _, .obj C fs ws, _, r => by
    cases r with
    | obj e l q =>
      intro p hp
      rcases List.mem_cons.mp hp with rfl | hp
      · rw [e]; rfl
      · exact Owns.there ws q p hp
theorem Owns.there : ∀ {vs : List V} (ws : List W) {fp : List Addr}, Owns K S H vs ws fp → ∀ p ∈ fp, (H p).isSome = true
  | _, [], _, r => by cases r; intro p hp; cases hp
  | _, w :: ws, _, r => by
    cases r with
    | cons a b =>
      intro p hp
      rcases List.mem_append.mp hp with hp | hp
      · exact Own.there w a p hp
      · exact Owns.there ws b p hp
end
mutual
/-- read as data: in any stable heap that has the owned addresses as they are -/
theorem Own.rep (h : Same S S') : ∀ {v : V} (w : W) {fp : List Addr}, Own K S H v w fp → (∀ p ∈ fp, S' p = H p) → Rep K S' v w.toD
  | _, .sh d, _, r, k => by cases r with | sh q => unfold W.toD; exact q.up h
  | _, .lst xs, _, r, k => by cases r with | lst e q => unfold W.toD; exact .lst (by rw [k _ (by simp)]; exact e) (q.up h)
  | _, .dic ks xs, _, r, k => by cases r with | dic e l q => unfold W.toD; exact .dic (by rw [k _ (by simp)]; exact e) l (q.up h)
  | _, .dit ks xs, _, r, k => by cases r with | dit e l q => unfold W.toD; exact .dit (by rw [k _ (by simp)]; exact e) l (q.up h)
  | _, .obj C fs ws, _, r, k => by cases r with | obj e l q => unfold W.toD; exact .obj (by rw [k _ (by simp)]; exact e) l (Owns.rep h ws q fun p hp => k p (List.mem_cons_of_mem _ hp))
theorem Owns.rep (h : Same S S') : ∀ {vs : List V} (ws : List W) {fp : List Addr}, Owns K S H vs ws fp → (∀ p ∈ fp, S' p = H p) → Reps K S' vs (W.toDs ws)
  | _, [], _, r, k => by cases r; exact .nil
  | _, w :: ws, _, r, k => by cases r with | cons a b => unfold W.toDs; exact .cons (Own.rep h w a fun p hp => k p (List.mem_append_left _ hp)) (Owns.rep h ws b fun p hp => k p (List.mem_append_right _ hp))
end
/-- the stable part with the addresses fp as they are -/
def frz (S H : Hp) (fp : List Addr) : Hp := fun a => if a ∈ fp then H a else S a
theorem frz_same {fp : List Addr} (hn : ∀ p ∈ fp, S p = none) : Same S (frz S H fp) := fun a o e => by
  unfold frz
  rw [if_neg fun z => by rw [hn a z] at e; cases e]
  exact e
theorem frz_sub {fp : List Addr} (h : Same S H) : Same (frz S H fp) H := fun a o e => by
  unfold frz at e
  split at e
  · exact e
  · exact h a o e
theorem frz_at {fp : List Addr} {p : Addr} (hp : p ∈ fp) : frz S H fp p = H p := by unfold frz; rw [if_pos hp]
theorem frz_out {fp : List Addr} {p : Addr} (hp : p ∉ fp) : frz S H fp p = S p := by unfold frz; rw [if_neg hp]
/-- a new thing, made stable -/
theorem Gr.frz {S1 H1 : Hp} (g : Gr S H S1 H1) {fp : List Addr} (hn : ∀ p ∈ fp, H p = none ∧ S1 p = none) : Gr S H (frz S1 H1 fp) H1 where
  ss := g.ss.trans (frz_same fun p hp => (hn p hp).2)
  hh := g.hh
  sub := frz_sub g.sub
  nw := fun a o e => by
    by_cases z : a ∈ fp
    · exact .inr (hn a z).1
    · rw [frz_out z] at e; exact g.nw a o e
end
end Ly

set_option Elab.async false
set_option linter.all false
set_option maxRecDepth 100000
namespace Ly
open PySem L2

/-! ### results -/
/-- an exception of an own class: its class, its one field -/
structure Xc where
  cls : Addr
  fld : Option (Str × D)
inductive Res (α : Type) where
  | ok (a : α) | ex (x : Xc) | st
def Res.bind {α β : Type} (r : Res α) (f : α → Res β) : Res β := match r with
  | .ok a => f a
  | .ex x => .ex x
  | .st => .st
def Res.map {α β : Type} (f : α → β) (r : Res α) : Res β := r.bind fun a => .ok (f a)
@[simp] theorem Res.bind_ok {α β : Type} (a : α) (f : α → Res β) : (Res.ok a).bind f = f a := rfl
@[simp] theorem Res.bind_ex {α β : Type} (x : Xc) (f : α → Res β) : (Res.ex x : Res α).bind f = .ex x := rfl
@[simp] theorem Res.bind_st {α β : Type} (f : α → Res β) : (Res.st : Res α).bind f = .st := rfl
@[simp] theorem Res.map_ok {α β : Type} (a : α) (f : α → β) : (Res.ok a).map f = .ok (f a) := rfl
@[simp] theorem Res.map_ex {α β : Type} (x : Xc) (f : α → β) : (Res.ex x : Res α).map f = .ex x := rfl
@[simp] theorem Res.map_st {α β : Type} (f : α → β) : (Res.st : Res α).map f = .st := rfl
theorem Res.of_ok {α β : Type} {r : Res α} {f : α → Res β} {b : β} (h : r.bind f = .ok b) : ∃ a, r = .ok a ∧ f a = .ok b := by
  cases r with
  | ok a => exact ⟨a, rfl, h⟩
  | ex x => cases h
  | st => cases h
theorem Res.of_ex {α β : Type} {r : Res α} {f : α → Res β} {x : Xc} (h : r.bind f = .ex x) : r = .ex x ∨ ∃ a, r = .ok a ∧ f a = .ex x := by
  cases r with
  | ok a => exact .inr ⟨a, rfl, h⟩
  | ex y => exact .inl (by cases h; rfl)
  | st => cases h
theorem Res.of_okm {α β : Type} {r : Res α} {f : α → β} {b : β} (h : r.map f = .ok b) : ∃ a, r = .ok a ∧ b = f a := by
  cases r with
  | ok a => exact ⟨a, rfl, by cases h; rfl⟩
  | ex x => cases h
  | st => cases h
theorem Res.of_exm {α β : Type} {r : Res α} {f : α → β} {x : Xc} (h : r.map f = .ex x) : r = .ex x := by
  cases r with
  | ok a => cases h
  | ex y => cases h; rfl
  | st => cases h
/-- how the exception lies -/
def XR (K : PySem.W.Frag) (x : Xc) (cls : Value) (d : Option Addr) (H : Hp) : Prop :=
  cls = .ref x.cls ∧ match x.fld with
    | none => d = none
    | some (f, z) => ∃ p v, d = some p ∧ H p = some (.xd [(f, v)]) ∧ Rep K H v z

/-! ### views -/
abbrev En := List (Option W)
structure Vw (K : PySem.W.Frag) (env : En) (σ : L2.St) (S H : Hp) : Prop where
  len : env.length = σ.length
  sub : Same S H
  at_ : ∀ (i : Nat) (w : W), env[i]? = some (some w) → ∃ v fp, σ[i]? = some (some v) ∧ Own K S H v w fp ∧ ∀ p ∈ fp, S p = none
/-- a value whose top may be owned -/
inductive View (K : PySem.W.Frag) (S H : Hp) : V → D → Prop
  | rep {v : V} {d : D} : Rep K S v d → View K S H v d
  | lst {p : Addr} {vs : List V} {xs : List D} : H p = some (.lst vs) → Reps K S vs xs → View K S H (.ref p) (.lst xs)
  | dic {p : Addr} {ks : List Key} {vs : List V} {xs : List D} : H p = some (.dK (ks.zip vs)) → vs.length = ks.length → Reps K S vs xs → View K S H (.ref p) (.dic ks xs)
  | dit {p : Addr} {ks : List (List Key)} {vs : List V} {xs : List D} : H p = some (.dT (ks.zip vs)) → vs.length = ks.length → Reps K S vs xs → View K S H (.ref p) (.dit ks xs)
section
variable {K : PySem.W.Frag} {env : En} {σ : L2.St} {S S' H H' : Hp} {v : V} {d : D} {w : W} {fp : List Addr}
theorem Own.gr (o : Own K S H v w fp) (g : Gr S H S' H') : Own K S' H' v w fp := o.carry g.ss w fun p hp => by
  obtain ⟨u, e⟩ := Option.isSome_iff_exists.mp (Own.there w o p hp)
  rw [e]
  exact g.hh p u e
theorem Own.apart (o : Own K S H v w fp) (g : Gr S H S' H') (h : ∀ p ∈ fp, S p = none) : ∀ p ∈ fp, S' p = none := fun p hp => g.gone (h p hp) (Own.there w o p hp)
theorem Vw.gr (x : Vw K env σ S H) (g : Gr S H S' H') : Vw K env σ S' H' := ⟨x.len, g.sub, fun i w e => by
  obtain ⟨v, fp, a, b, c⟩ := x.at_ i w e
  exact ⟨v, fp, a, b.gr g, b.apart g c⟩⟩
theorem View.gr (x : View K S H v d) (g : Gr S H S' H') : View K S' H' v d := by
  cases x with
  | rep r => exact .rep (r.up g.ss)
  | lst e r => exact .lst (g.hh _ _ e) (r.up g.ss)
  | dic e l r => exact .dic (g.hh _ _ e) l (r.up g.ss)
  | dit e l r => exact .dit (g.hh _ _ e) l (r.up g.ss)
theorem View.toX (x : View K S H v d) (h : Same S H) : Rep K H v d := by
  cases x with
  | rep r => exact r.up h
  | lst e r => exact .lst e (r.up h)
  | dic e l r => exact .dic e l (r.up h)
  | dit e l r => exact .dit e l (r.up h)
theorem View.lst_inv {xs : List D} (x : View K S H v (.lst xs)) (h : Same S H) : ∃ p vs, v = .ref p ∧ H p = some (.lst vs) ∧ Reps K S vs xs := by
  cases x with
  | rep r => cases r with | lst e q => exact ⟨_, _, rfl, h _ _ e, q⟩
  | lst e q => exact ⟨_, _, rfl, e, q⟩
theorem View.dic_inv {ks : List Key} {xs : List D} (x : View K S H v (.dic ks xs)) (h : Same S H) : ∃ p vs, v = .ref p ∧ H p = some (.dK (ks.zip vs)) ∧ vs.length = ks.length ∧ Reps K S vs xs := by
  cases x with
  | rep r => cases r with | dic e l q => exact ⟨_, _, rfl, h _ _ e, l, q⟩
  | dic e l q => exact ⟨_, _, rfl, e, l, q⟩
theorem View.dit_inv {ks : List (List Key)} {xs : List D} (x : View K S H v (.dit ks xs)) (h : Same S H) : ∃ p vs, v = .ref p ∧ H p = some (.dT (ks.zip vs)) ∧ vs.length = ks.length ∧ Reps K S vs xs := by
  cases x with
  | rep r => cases r with | dit e l q => exact ⟨_, _, rfl, h _ _ e, l, q⟩
  | dit e l q => exact ⟨_, _, rfl, e, l, q⟩
theorem View.tup_inv {xs : List D} (x : View K S H v (.tup xs)) : ∃ p vs, v = .ref p ∧ S p = some (.tup vs) ∧ Reps K S vs xs := by
  cases x with
  | rep r => cases r with | tup e q => exact ⟨_, _, rfl, e, q⟩
theorem View.ktup_inv {xs : List D} (x : View K S H v (.ktup xs)) : ∃ p vs, v = .ref p ∧ SqT K S p vs ∧ Reps K S vs xs := by
  cases x with
  | rep r => cases r with | ktup e q => exact ⟨_, _, rfl, e, q⟩
theorem View.scr_inv {ns : List Int} (x : View K S H v (.scr ns)) : ∃ p, v = .ref p ∧ SqL K S p (ns.map V.int) := by
  cases x with
  | rep r => cases r with | scr e => exact ⟨_, rfl, e⟩
theorem View.int_inv {i : Int} (x : View K S H v (.int i)) : v = .int i := by
  cases x with
  | rep r => cases r; rfl
theorem View.bl_inv {b : Bool} (x : View K S H v (.bl b)) : v = .bl b := by
  cases x with
  | rep r => cases r; rfl
theorem View.str_inv {z : Str} (x : View K S H v (.str z)) : v = .str z := by
  cases x with
  | rep r => cases r; rfl
theorem View.non_inv (x : View K S H v .non) : v = .non := by
  cases x with
  | rep r => cases r; rfl
theorem View.obj_inv {C : Addr} {fs : List Str} {xs : List D} (x : View K S H v (.obj C fs xs)) : ∃ p dx vs, v = .ref p ∧ S p = some (.ins C dx (fs.zip vs)) ∧ vs.length = fs.length ∧ Reps K S vs xs := by
  cases x with
  | rep r => cases r with | obj e l q => exact ⟨_, _, _, rfl, e, l, q⟩
end

/-! ### expressions -/
/-- what a new value is: w at v with its own new addresses -/
structure New (K : PySem.W.Frag) (S H S' H' : Hp) (v : V) (w : W) (fp : List Addr) : Prop where
  gr : Gr S H S' H'
  own : Own K S' H' v w fp
  nd : fp.Nodup
  new : ∀ p ∈ fp, H p = none ∧ S' p = none
/-- E: the wish for exceptions; F: the slots that are read as they are (an owned one is made stable ahead) -/
class SemE (K : PySem.W.Frag) (E : XK) (t : TE) (F : outParam (List Nat)) (m : outParam (En → Res W)) : Prop where
  ok : ∀ {env σ S H Q w}, Vw K env σ S H → m env = .ok w → (∀ v S' H' fp, New K S H S' H' v w fp → Q v H') → t σ H Q
  ex : ∀ {env σ S H Q x}, Vw K env σ S H → m env = .ex x → (∀ cls d H', Same H H' → XR K x cls d H' → E cls d H') → t σ H Q
class SemV (K : PySem.W.Frag) (E : XK) (t : TE) (F : outParam (List Nat)) (m : outParam (En → Res D)) : Prop where
  ok : ∀ {env σ S H Q d}, Vw K env σ S H → m env = .ok d → (∀ v S' H', Gr S H S' H' → View K S' H' v d → Q v H') → t σ H Q
  ex : ∀ {env σ S H Q x}, Vw K env σ S H → m env = .ex x → (∀ cls d H', Same H H' → XR K x cls d H' → E cls d H') → t σ H Q
class SemX (K : PySem.W.Frag) (E : XK) (t : TE) (F : outParam (List Nat)) (m : outParam (En → Res D)) : Prop where
  ok : ∀ {env σ S H Q d}, Vw K env σ S H → m env = .ok d → (∀ v H', Same H H' → Rep K H' v d → Q v H') → t σ H Q
  ex : ∀ {env σ S H Q x}, Vw K env σ S H → m env = .ex x → (∀ cls d H', Same H H' → XR K x cls d H' → E cls d H') → t σ H Q
class SemT (K : PySem.W.Frag) (E : XK) (t : TT) (F : outParam (List Nat)) (m : outParam (En → Res Bool)) : Prop where
  ok : ∀ {env σ S H Q b}, Vw K env σ S H → m env = .ok b → (∀ H', Same H H' → Q b H') → t σ H Q
  ex : ∀ {env σ S H Q x}, Vw K env σ S H → m env = .ex x → (∀ cls d H', Same H H' → XR K x cls d H' → E cls d H') → t σ H Q
/-- arguments, made stable -/
class SemA (K : PySem.W.Frag) (E : XK) (t : TA) (F : outParam (List Nat)) (m : outParam (En → Res (List D))) : Prop where
  ok : ∀ {env σ S H Q ds}, Vw K env σ S H → m env = .ok ds → (∀ vs S' H', Gr S H S' H' → Reps K S' vs ds → Q vs H') → t σ H Q
  ex : ∀ {env σ S H Q x}, Vw K env σ S H → m env = .ex x → (∀ cls d H', Same H H' → XR K x cls d H' → E cls d H') → t σ H Q
/-- arguments, looked at -/
class SemAX (K : PySem.W.Frag) (E : XK) (t : TA) (F : outParam (List Nat)) (m : outParam (En → Res (List D))) : Prop where
  ok : ∀ {env σ S H Q ds}, Vw K env σ S H → m env = .ok ds → (∀ vs H', Same H H' → Reps K H' vs ds → Q vs H') → t σ H Q
  ex : ∀ {env σ S H Q x}, Vw K env σ S H → m env = .ex x → (∀ cls d H', Same H H' → XR K x cls d H' → E cls d H') → t σ H Q

section
variable {K : PySem.W.Frag} {E : XK} {t ta tb : TE} {F Fa Fb : List Nat} {m ma mb : En → Res W}
theorem New.stable {S H S' H' : Hp} {v : V} {w : W} {fp : List Addr} (n : New K S H S' H' v w fp) : Gr S H (frz S' H' fp) H' ∧ Rep K (frz S' H' fp) v w.toD :=
  ⟨n.gr.frz n.new, n.own.rep (frz_same fun p hp => (n.new p hp).2) w fun p hp => frz_at hp⟩
theorem New.sh {S H S' H' : Hp} {v : V} {d : D} (g : Gr S H S' H') (r : Rep K S' v d) : New K S H S' H' v (.sh d) [] := ⟨g, .sh r, List.nodup_nil, fun p hp => nomatch hp⟩
theorem New.lst {S H S' H' : Hp} {p : Addr} {vs : List V} {xs : List D} (g : Gr S H S' H') (hp : S' p = none) (hn : H' p = none) (r : Reps K S' vs xs) : New K S H S' (upd H' p (.lst vs)) (.ref p) (.lst xs) [p] :=
  ⟨g.trans (.hp g.sub fun a o e => by rw [upd_ne (ne_of_none e hn)]; exact e), .lst upd_same r, by simp, fun q hq => by rw [List.mem_singleton.mp hq]; exact ⟨g.hh.free hn, hp⟩⟩
/-- made stable at once -/
def mD (m : En → Res W) : En → Res D := fun e => (m e).map W.toD
theorem SemE.okD (h : SemE K E t F m) {env : En} {σ : L2.St} {S H : Hp} {Q : VK} {d : D} (x : Vw K env σ S H) (e : mD m env = .ok d) (k : ∀ v S' H', Gr S H S' H' → Rep K S' v d → Q v H') : t σ H Q := by
  obtain ⟨w, e1, rfl⟩ := Res.of_okm e
  exact h.ok x e1 fun v S' H' fp n => k v _ H' n.stable.1 n.stable.2
instance (priority := low) semV_E [h : SemE K E t F m] : SemV K E t F (mD m) where
  ok := fun x e k => h.okD x e fun v S' H' g r => k v S' H' g (.rep r)
  ex := fun x e k => h.ex x (Res.of_exm e) k
instance (priority := low) semX_V {m : En → Res D} [h : SemV K E t F m] : SemX K E t F m where
  ok := fun x e k => h.ok x e fun v S' H' g r => k v H' g.hh (r.toX g.sub)
  ex := fun x e k => h.ex x e k

/-! names, constants -/
def mVar (i : Nat) : En → Res W := fun e => match e[i]? with
  | some (some (.sh d)) => .ok (.sh d)
  | _ => .st
def mVarV (i : Nat) : En → Res D := fun e => match e[i]? with
  | some (some (.obj _ _ _)) => .st
  | some (some w) => .ok w.toD
  | _ => .st
def mVarX (i : Nat) : En → Res D := fun e => match e[i]? with
  | some (some w) => .ok w.toD
  | _ => .st
instance semE_var {i : Nat} : SemE K E (tVar i) [i] (mVar i) where
  ok := fun {env σ S H Q w} x e k => by
    unfold mVar at e
    split at e
    · rename_i d h
      cases e
      obtain ⟨v, fp, a, b, c⟩ := x.at_ _ _ h
      cases b with
      | sh r => exact ⟨v, a, k v S H [] (.sh (.refl x.sub) r)⟩
    · cases e
  ex := fun x e k => by
    unfold mVar at e
    split at e <;> cases e
instance semV_var {i : Nat} : SemV K E (tVar i) [] (mVarV i) where
  ok := fun {env σ S H Q w} x e k => by
    unfold mVarV at e
    split at e
    · cases e
    · rename_i w h1 h
      cases e
      obtain ⟨v, fp, a, b, c⟩ := x.at_ _ _ h
      refine ⟨v, a, k v S H (.refl x.sub) ?_⟩
      cases b with
      | sh r => exact .rep r
      | lst e r => exact .lst e r
      | dic e l r => exact .dic e l r
      | dit e l r => exact .dit e l r
      | obj _ _ _ => exact (h1 _ _ _ rfl).elim
    · cases e
  ex := fun x e k => by
    unfold mVarV at e
    split at e <;> cases e
instance semX_var {i : Nat} : SemX K E (tVar i) [] (mVarX i) where
  ok := fun {env σ S H Q w} x e k => by
    unfold mVarX at e
    split at e
    · rename_i w h
      cases e
      obtain ⟨v, fp, a, b, c⟩ := x.at_ _ _ h
      exact ⟨v, a, k v H (Same.refl H) (b.rep x.sub w fun p hp => rfl)⟩
    · cases e
  ex := fun x e k => by
    unfold mVarX at e
    split at e <;> cases e
def mK (d : D) : En → Res W := fun _ => .ok (.sh d)
theorem semE_K {v : V} {d : D} (r : ∀ S, Rep K S v d) : SemE K E (tC v) [] (mK d) where
  ok := fun {env σ S H Q w} x e k => by
    cases e
    exact k v S H [] (.sh (.refl x.sub) (r S))
  ex := fun x e k => by cases e
instance semE_int {i : Int} : SemE K E (tC (.int i)) [] (mK (.int i)) := semE_K fun _ => .int i
instance semE_str {i : Str} : SemE K E (tC (.str i)) [] (mK (.str i)) := semE_K fun _ => .str i
instance semE_bl {i : Bool} : SemE K E (tC (.bl i)) [] (mK (.bl i)) := semE_K fun _ => .bl i
instance semE_ty {n : String} : SemE K E (tC (.ty n)) [] (mK (.ty n)) := semE_K fun _ => .ty n
instance semE_cls {C : Addr} : SemE K E (tC (.ref C)) [] (mK (.cls C)) := semE_K fun _ => .cls C
instance semE_non : SemE K E (tC .non) [] (mK .non) := semE_K fun _ => .non

/-! operators: by views; by looks -/
/-- an operator whose result may hold parts of its operands -/
class OpV (K : PySem.W.Frag) (r : R2) (f : outParam (D → D → Res W)) : Prop where
  ok : ∀ {S H v u d e Q w}, Same S H → View K S H v d → View K S H u e → f d e = .ok w → (∀ z S' H' fp, New K S H S' H' z w fp → Q z H') → r v u H Q
  ex : ∀ {d e x}, f d e = .ex x → False
/-- an operator whose result is a number, a text, a truth, None -/
class OpX (K : PySem.W.Frag) (r : R2) (f : outParam (D → D → Res D)) : Prop where
  ok : ∀ {H v u d e Q z}, Rep K H v d → Rep K H u e → f d e = .ok z → (∀ y, (∀ S, Rep K S y z) → Q y H) → r v u H Q
  ex : ∀ {d e x}, f d e = .ex x → False
def mOp (f : D → D → Res W) (ma mb : En → Res D) : En → Res W := fun e => (ma e).bind fun a => (mb e).bind fun b => f a b
def mOpX (f : D → D → Res D) (ma mb : En → Res D) : En → Res W := fun e => (ma e).bind fun a => (mb e).bind fun b => (f a b).map .sh
theorem New.later {S H S1 H1 S' H' : Hp} {v : V} {w : W} {fp : List Addr} (g : Gr S H S1 H1) (n : New K S1 H1 S' H' v w fp) : New K S H S' H' v w fp :=
  ⟨g.trans n.gr, n.own, n.nd, fun p hp => ⟨g.hh.free (n.new p hp).1, (n.new p hp).2⟩⟩
instance semE_op {r : R2} {f : D → D → Res W} {ma mb : En → Res D} [ho : OpV K r f] [ha : SemV K E ta Fa ma] [hb : SemV K E tb Fb mb] : SemE K E (tOp r ta tb) (Fa ++ Fb) (mOp f ma mb) where
  ok := fun {env σ S H Q w} x e k => by
    obtain ⟨a, e1, e⟩ := Res.of_ok e
    obtain ⟨b, e2, e⟩ := Res.of_ok e
    refine ha.ok x e1 fun v S1 H1 g1 r1 => ?_
    refine hb.ok (x.gr g1) e2 fun u S2 H2 g2 r2 => ?_
    exact ho.ok g2.sub (r1.gr g2) r2 e fun z S' H' fp n => k z S' H' fp (n.later (g1.trans g2))
  ex := fun {env σ S H Q w} x e k => by
    rcases Res.of_ex e with e1 | ⟨a, e1, e⟩
    · exact ha.ex x e1 k
    · refine ha.ok x e1 fun v S1 H1 g1 r1 => ?_
      rcases Res.of_ex e with e2 | ⟨b, e2, e⟩
      · exact hb.ex (x.gr g1) e2 fun c d H' s q => k c d H' (g1.hh.trans s) q
      · exact (ho.ex e).elim
instance semE_opX {r : R2} {f : D → D → Res D} {ma mb : En → Res D} [ho : OpX K r f] [ha : SemX K E ta Fa ma] [hb : SemX K E tb Fb mb] : SemE K E (tOp r ta tb) (Fa ++ Fb) (mOpX f ma mb) where
  ok := fun {env σ S H Q w} x e k => by
    obtain ⟨a, e1, e⟩ := Res.of_ok e
    obtain ⟨b, e2, e⟩ := Res.of_ok e
    obtain ⟨z, e3, rfl⟩ := Res.of_okm e
    refine ha.ok x e1 fun v H1 g1 r1 => ?_
    have y1 := Gr.hp x.sub g1
    refine hb.ok (x.gr y1) e2 fun u H2 g2 r2 => ?_
    have y2 := Gr.hp y1.sub g2
    exact ho.ok (r1.up g2) r2 e3 fun y h => k y S H2 [] (.sh (y1.trans y2) (h S))
  ex := fun {env σ S H Q w} x e k => by
    rcases Res.of_ex e with e1 | ⟨a, e1, e⟩
    · exact ha.ex x e1 k
    · refine ha.ok x e1 fun v H1 g1 r1 => ?_
      rcases Res.of_ex e with e2 | ⟨b, e2, e⟩
      · exact hb.ex (x.gr (Gr.hp x.sub g1)) e2 fun c d H' s q => k c d H' (g1.trans s) q
      · exact (ho.ex (Res.of_exm e)).elim

/-! tests -/
def mTest (ma : En → Res D) : En → Res Bool := fun e => (ma e).bind fun d => match d with
  | .bl b => .ok b
  | _ => .st
theorem mTest_ok {ma : En → Res D} {env : En} {b : Bool} (e : mTest ma env = .ok b) : ma env = .ok (.bl b) := by
  obtain ⟨d, e1, e2⟩ := Res.of_ok e
  split at e2
  · cases e2; exact e1
  · cases e2
theorem mTest_ex {ma : En → Res D} {env : En} {x : Xc} (e : mTest ma env = .ex x) : ma env = .ex x := by
  rcases Res.of_ex e with e | ⟨d, _, e2⟩
  · exact e
  · split at e2 <;> cases e2
instance semT_test {ma : En → Res D} [ha : SemX K E ta Fa ma] : SemT K E (tTest ta) Fa (mTest ma) where
  ok := fun x e k => ha.ok x (mTest_ok e) fun v H' g r => by cases r; exact ⟨_, rfl, k H' g⟩
  ex := fun x e k => ha.ex x (mTest_ex e) k
instance semT_B {ma : En → Res D} [ha : SemX K E ta Fa ma] : SemT K E (tB ta) Fa (mTest ma) where
  ok := fun x e k => ha.ok x (mTest_ok e) fun v H' g r => by cases r; exact ⟨_, rfl, k H' g⟩
  ex := fun x e k => ha.ex x (mTest_ex e) k
def mAnd (ma mb : En → Res Bool) : En → Res Bool := fun e => (ma e).bind fun b => if b = true then mb e else .ok false
def mOr (ma mb : En → Res Bool) : En → Res Bool := fun e => (ma e).bind fun b => if b = true then .ok true else mb e
def mNot (ma : En → Res Bool) : En → Res Bool := fun e => (ma e).map (!·)
instance semT_and {t u : TT} {ma mb : En → Res Bool} [ha : SemT K E t Fa ma] [hb : SemT K E u Fb mb] : SemT K E (tAnd t u) (Fa ++ Fb) (mAnd ma mb) where
  ok := fun {env σ S H Q w} x e k => by
    obtain ⟨b, e1, e2⟩ := Res.of_ok e
    refine ha.ok x e1 fun H1 g => ?_
    cases b with
    | true => exact hb.ok (x.gr (Gr.hp x.sub g)) e2 fun H' g' => k H' (g.trans g')
    | false => cases e2; exact k H1 g
  ex := fun {env σ S H Q w} x e k => by
    rcases Res.of_ex e with e1 | ⟨b, e1, e2⟩
    · exact ha.ex x e1 k
    · refine ha.ok x e1 fun H1 g => ?_
      cases b with
      | true => exact hb.ex (x.gr (Gr.hp x.sub g)) e2 fun c d H' s q => k c d H' (g.trans s) q
      | false => cases e2
instance semT_or {t u : TT} {ma mb : En → Res Bool} [ha : SemT K E t Fa ma] [hb : SemT K E u Fb mb] : SemT K E (tOr t u) (Fa ++ Fb) (mOr ma mb) where
  ok := fun {env σ S H Q w} x e k => by
    obtain ⟨b, e1, e2⟩ := Res.of_ok e
    refine ha.ok x e1 fun H1 g => ?_
    cases b with
    | false => exact hb.ok (x.gr (Gr.hp x.sub g)) e2 fun H' g' => k H' (g.trans g')
    | true => cases e2; exact k H1 g
  ex := fun {env σ S H Q w} x e k => by
    rcases Res.of_ex e with e1 | ⟨b, e1, e2⟩
    · exact ha.ex x e1 k
    · refine ha.ok x e1 fun H1 g => ?_
      cases b with
      | false => exact hb.ex (x.gr (Gr.hp x.sub g)) e2 fun c d H' s q => k c d H' (g.trans s) q
      | true => cases e2
instance semT_not {t : TT} {ma : En → Res Bool} [ha : SemT K E t Fa ma] : SemT K E (tNot t) Fa (mNot ma) where
  ok := fun {env σ S H Q w} x e k => by
    obtain ⟨b, e1, rfl⟩ := Res.of_okm e
    exact ha.ok x e1 fun H1 g => k H1 g
  ex := fun {env σ S H Q w} x e k => ha.ex x (Res.of_exm e) k
/-- a value of a test, of and, of or -/
def mBl (m : En → Res Bool) : En → Res W := fun e => (m e).map fun b => .sh (.bl b)
def mAndV (ma mb : En → Res D) : En → Res W := mBl (mAnd (mTest ma) (mTest mb))
def mOrV (ma mb : En → Res D) : En → Res W := mBl (mOr (mTest ma) (mTest mb))
def mNotV (ma : En → Res D) : En → Res W := mBl (mNot (mTest ma))
theorem semE_bl_of {t : TT} {te : TE} {m : En → Res Bool} (h : SemT K E t F m) (hi : ∀ {σ H Q}, t σ H (fun b H' => Q (.bl b) H') → te σ H Q) : SemE K E te F (mBl m) where
  ok := fun {env σ S H Q w} x e k => by
    obtain ⟨b, e1, rfl⟩ := Res.of_okm e
    exact hi (h.ok x e1 fun H1 g => k _ S H1 [] (.sh (.hp x.sub g) (.bl b)))
  ex := fun {env σ S H Q w} x e k => hi (h.ex x (Res.of_exm e) k)
instance semE_andV {ma mb : En → Res D} [ha : SemX K E ta Fa ma] [hb : SemX K E tb Fb mb] : SemE K E (tAndV ta tb) (Fa ++ Fb) (mAndV ma mb) where
  ok := fun {env σ S H Q w} x e k => by
    obtain ⟨b, e1, rfl⟩ := Res.of_okm e
    obtain ⟨c, e2, e3⟩ := Res.of_ok e1
    refine ha.ok x (mTest_ok e2) fun v H1 g r => ?_
    cases r
    refine ⟨c, rfl, ?_⟩
    cases c with
    | true =>
      refine hb.ok (x.gr (Gr.hp x.sub g)) (mTest_ok e3) fun v H2 g2 r => ?_
      cases r
      exact k _ S H2 [] (.sh (.hp x.sub (g.trans g2)) (.bl b))
    | false =>
      cases e3
      exact k _ S H1 [] (.sh (.hp x.sub g) (.bl false))
  ex := fun {env σ S H Q w} x e k => by
    have e1 := Res.of_exm e
    rcases Res.of_ex e1 with e2 | ⟨c, e2, e3⟩
    · exact ha.ex x (mTest_ex e2) k
    · refine ha.ok x (mTest_ok e2) fun v H1 g r => ?_
      cases r
      refine ⟨c, rfl, ?_⟩
      cases c with
      | true => exact hb.ex (x.gr (Gr.hp x.sub g)) (mTest_ex e3) fun c d H' s q => k c d H' (g.trans s) q
      | false => cases e3
instance semE_orV {ma mb : En → Res D} [ha : SemX K E ta Fa ma] [hb : SemX K E tb Fb mb] : SemE K E (tOrV ta tb) (Fa ++ Fb) (mOrV ma mb) where
  ok := fun {env σ S H Q w} x e k => by
    obtain ⟨b, e1, rfl⟩ := Res.of_okm e
    obtain ⟨c, e2, e3⟩ := Res.of_ok e1
    refine ha.ok x (mTest_ok e2) fun v H1 g r => ?_
    cases r
    refine ⟨c, rfl, ?_⟩
    cases c with
    | false =>
      refine hb.ok (x.gr (Gr.hp x.sub g)) (mTest_ok e3) fun v H2 g2 r => ?_
      cases r
      exact k _ S H2 [] (.sh (.hp x.sub (g.trans g2)) (.bl b))
    | true =>
      cases e3
      exact k _ S H1 [] (.sh (.hp x.sub g) (.bl true))
  ex := fun {env σ S H Q w} x e k => by
    have e1 := Res.of_exm e
    rcases Res.of_ex e1 with e2 | ⟨c, e2, e3⟩
    · exact ha.ex x (mTest_ex e2) k
    · refine ha.ok x (mTest_ok e2) fun v H1 g r => ?_
      cases r
      refine ⟨c, rfl, ?_⟩
      cases c with
      | false => exact hb.ex (x.gr (Gr.hp x.sub g)) (mTest_ex e3) fun c d H' s q => k c d H' (g.trans s) q
      | true => cases e3
instance semE_notV {ma : En → Res D} [ha : SemX K E ta Fa ma] : SemE K E (tNotV ta) Fa (mNotV ma) where
  ok := fun {env σ S H Q w} x e k => by
    obtain ⟨b, e1, rfl⟩ := Res.of_okm e
    obtain ⟨c, e2, rfl⟩ := Res.of_okm e1
    refine ha.ok x (mTest_ok e2) fun v H1 g r => ?_
    cases r
    exact ⟨c, rfl, k _ S H1 [] (.sh (.hp x.sub g) (.bl _))⟩
  ex := fun {env σ S H Q w} x e k => ha.ex x (mTest_ex (Res.of_exm (Res.of_exm e))) k
def mIf (mc : En → Res Bool) (ma mb : En → Res W) : En → Res W := fun e => (mc e).bind fun b => if b = true then ma e else mb e
instance semE_if {t : TT} {mc : En → Res Bool} {Fc : List Nat} [hc : SemT K E t Fc mc] [ha : SemE K E ta Fa ma] [hb : SemE K E tb Fb mb] : SemE K E (tIf t ta tb) (Fc ++ Fa ++ Fb) (mIf mc ma mb) where
  ok := fun {env σ S H Q w} x e k => by
    obtain ⟨b, e1, e2⟩ := Res.of_ok e
    refine hc.ok x e1 fun H1 g => ?_
    have y := Gr.hp x.sub g
    cases b with
    | true => exact ha.ok (x.gr y) e2 fun v S' H' fp n => k v S' H' fp (n.later y)
    | false => exact hb.ok (x.gr y) e2 fun v S' H' fp n => k v S' H' fp (n.later y)
  ex := fun {env σ S H Q w} x e k => by
    rcases Res.of_ex e with e1 | ⟨b, e1, e2⟩
    · exact hc.ex x e1 k
    · refine hc.ok x e1 fun H1 g => ?_
      have y := Gr.hp x.sub g
      cases b with
      | true => exact ha.ex (x.gr y) e2 fun c d H' s q => k c d H' (g.trans s) q
      | false => exact hb.ex (x.gr y) e2 fun c d H' s q => k c d H' (g.trans s) q

/-! arguments, displays -/
def mNil : En → Res (List D) := fun _ => .ok []
def mCons (m : En → Res D) (mr : En → Res (List D)) : En → Res (List D) := fun e => (m e).bind fun d => (mr e).map fun ds => d :: ds
instance semA_nil : SemA K E tNil [] mNil where
  ok := fun {env σ S H Q w} x e k => by cases e; exact k [] S H (.refl x.sub) .nil
  ex := fun x e k => by cases e
instance semAX_nil : SemAX K E tNil [] mNil where
  ok := fun {env σ S H Q w} x e k => by cases e; exact k [] H (Same.refl H) .nil
  ex := fun x e k => by cases e
instance semA_cons {tr : TA} {Fr : List Nat} {mr : En → Res (List D)} [ha : SemE K E ta Fa ma] [hr : SemA K E tr Fr mr] : SemA K E (tCons ta tr) (Fa ++ Fr) (mCons (mD ma) mr) where
  ok := fun {env σ S H Q w} x e k => by
    obtain ⟨d, e1, e2⟩ := Res.of_ok e
    obtain ⟨ds, e3, rfl⟩ := Res.of_okm e2
    refine ha.okD x e1 fun v S1 H1 g1 r1 => ?_
    exact hr.ok (x.gr g1) e3 fun vs S2 H2 g2 r2 => k _ S2 H2 (g1.trans g2) (.cons (r1.up g2.ss) r2)
  ex := fun {env σ S H Q w} x e k => by
    rcases Res.of_ex e with e1 | ⟨d, e1, e2⟩
    · exact ha.ex x (Res.of_exm e1) k
    · refine ha.okD x e1 fun v S1 H1 g1 r1 => ?_
      exact hr.ex (x.gr g1) (Res.of_exm e2) fun c d H' s q => k c d H' (g1.hh.trans s) q
instance semAX_cons {tr : TA} {Fr : List Nat} {ma : En → Res D} {mr : En → Res (List D)} [ha : SemX K E ta Fa ma] [hr : SemAX K E tr Fr mr] : SemAX K E (tCons ta tr) (Fa ++ Fr) (mCons ma mr) where
  ok := fun {env σ S H Q w} x e k => by
    obtain ⟨d, e1, e2⟩ := Res.of_ok e
    obtain ⟨ds, e3, rfl⟩ := Res.of_okm e2
    refine ha.ok x e1 fun v H1 g1 r1 => ?_
    exact hr.ok (x.gr (Gr.hp x.sub g1)) e3 fun vs H2 g2 r2 => k _ H2 (g1.trans g2) (.cons (r1.up g2) r2)
  ex := fun {env σ S H Q w} x e k => by
    rcases Res.of_ex e with e1 | ⟨d, e1, e2⟩
    · exact ha.ex x e1 k
    · refine ha.ok x e1 fun v H1 g1 r1 => ?_
      exact hr.ex (x.gr (Gr.hp x.sub g1)) (Res.of_exm e2) fun c d H' s q => k c d H' (g1.trans s) q
def small (n : Nat) : Bool := decide (n ≤ 10000000)
theorem small_line {n : Nat} (h : small n = true) : n < sizeLine := by
  have := of_decide_eq_true h
  rw [sizeLine_eq]
  omega
def mLst (ma : En → Res (List D)) : En → Res W := fun e => (ma e).bind fun ds => if small ds.length then .ok (.lst ds) else .st
def mTup (ma : En → Res (List D)) : En → Res W := fun e => (ma e).bind fun ds => if small ds.length then .ok (.sh (.tup ds)) else .st
instance semE_lst {t : TA} {ma : En → Res (List D)} [ha : SemA K E t Fa ma] : SemE K E (tLst t) Fa (mLst ma) where
  ok := fun {env σ S H Q w} x e k => by
    obtain ⟨ds, e1, e2⟩ := Res.of_ok e
    split at e2
    · rename_i hs
      cases e2
      refine ha.ok x e1 fun vs S1 H1 g r => ⟨by rw [r.len]; exact Nat.le_of_lt (small_line hs), fun p hp => ?_⟩
      have hS : S1 p = none := g.sub.free hp
      exact k _ S1 _ [p] (.lst g hS hp r)
    · cases e2
  ex := fun {env σ S H Q w} x e k => by
    rcases Res.of_ex e with e1 | ⟨d, e1, e2⟩
    · exact ha.ex x e1 k
    · split at e2 <;> cases e2
theorem New.tup {S H S' H' : Hp} {p : Addr} {vs : List V} {xs : List D} (g : Gr S H S' H') (hn : H' p = none) (r : Reps K S' vs xs) : New K S H (upd S' p (.tup vs)) (upd H' p (.tup vs)) (.ref p) (.sh (.tup xs)) [] := by
  have g2 := g.trans (.new (o := .tup vs) g.sub hn)
  exact .sh g2 (.tup upd_same (r.up fun a o q => by rw [upd_ne (ne_of_none q (g.sub.free hn))]; exact q))
instance semE_tup {t : TA} {ma : En → Res (List D)} [ha : SemA K E t Fa ma] : SemE K E (tTup t) Fa (mTup ma) where
  ok := fun {env σ S H Q w} x e k => by
    obtain ⟨ds, e1, e2⟩ := Res.of_ok e
    split at e2
    · rename_i hs
      cases e2
      exact ha.ok x e1 fun vs S1 H1 g r => ⟨by rw [r.len]; exact Nat.le_of_lt (small_line hs), fun p hp => k _ _ _ [] (.tup g hp r)⟩
    · cases e2
  ex := fun {env σ S H Q w} x e k => by
    rcases Res.of_ex e with e1 | ⟨d, e1, e2⟩
    · exact ha.ex x e1 k
    · split at e2 <;> cases e2
end
end Ly

set_option Elab.async false
set_option linter.all false
set_option maxRecDepth 100000
namespace Ly
open PySem L2

/-! ### states of a frame -/
/-- B: what the caller keeps; S0: the stable part at the entry -/
structure StOk (K : PySem.W.Frag) (B S0 : Hp) (env : En) (σ : L2.St) (S H : Hp) : Prop where
  len : env.length = σ.length
  sub : Same S H
  base : Same B H
  ex0 : Same S0 S
  nw : ∀ a o, S a = some o → S0 a = some o ∨ B a = none
  own : ∃ fps : Nat → List Addr, (∀ (i : Nat) w, env[i]? = some (some w) → ∃ v, σ[i]? = some (some v) ∧ Own K S H v w (fps i) ∧ (fps i).Nodup) ∧
    (∀ i p, p ∈ fps i → S p = none ∧ B p = none ∧ (H p).isSome = true) ∧ ∀ i j p, p ∈ fps i → p ∈ fps j → i = j
/-- what a def hands back -/
structure RtOk (K : PySem.W.Frag) (B S0 S H : Hp) (v : V) (w : W) (fp : List Addr) : Prop where
  sub : Same S H
  base : Same B H
  ex0 : Same S0 S
  nw : ∀ a o, S a = some o → S0 a = some o ∨ B a = none
  own : Own K S H v w fp
  nd : fp.Nodup
  new : ∀ p ∈ fp, B p = none ∧ S p = none
section
variable {K : PySem.W.Frag} {B S0 S S' H H' : Hp} {env : En} {σ : L2.St} {v : V} {w : W} {fp : List Addr}
theorem StOk.vw (x : StOk K B S0 env σ S H) : Vw K env σ S H := ⟨x.len, x.sub, fun i w e => by
  obtain ⟨fps, h1, h2, _⟩ := x.own
  obtain ⟨v, a, b, _⟩ := h1 i w e
  exact ⟨v, _, a, b, fun p hp => (h2 i p hp).1⟩⟩
theorem StOk.gr (x : StOk K B S0 env σ S H) (g : Gr S H S' H') : StOk K B S0 env σ S' H' := by
  obtain ⟨fps, h1, h2, h3⟩ := x.own
  refine ⟨x.len, g.sub, x.base.trans g.hh, x.ex0.trans g.ss, fun a o e => ?_, fps, fun i w e => ?_, fun i p hp => ?_, h3⟩
  · rcases g.nw a o e with h | h
    · exact x.nw a o h
    · exact .inr (x.base.free h)
  · obtain ⟨v, a, b, c⟩ := h1 i w e
    exact ⟨v, a, b.gr g, c⟩
  · obtain ⟨a, b, c⟩ := h2 i p hp
    obtain ⟨u, e⟩ := Option.isSome_iff_exists.mp c
    exact ⟨g.gone a c, b, by rw [g.hh p u e]; rfl⟩
theorem get_set {α : Type} {l : List α} {i j : Nat} {x y : α} (h : (l.set i x)[j]? = some y) : (i = j ∧ y = x ∧ i < l.length) ∨ (i ≠ j ∧ l[j]? = some y) := by
  by_cases e : i = j
  · subst e
    by_cases hl : i < l.length
    · rw [List.getElem?_set_self hl] at h; cases h; exact .inl ⟨rfl, rfl, hl⟩
    · rw [List.getElem?_eq_none (by simpa using hl)] at h; cases h
  · rw [List.getElem?_set_ne e] at h; exact .inr ⟨e, h⟩
/-- a new value is stored -/
theorem StOk.set (x : StOk K B S0 env σ S H) (n : New K S H S' H' v w fp) (i : Nat) : StOk K B S0 (env.set i (some w)) (σ.set i (some v)) S' H' := by
  have y := x.gr n.gr
  obtain ⟨fps, h1, h2, h3⟩ := x.own
  obtain ⟨fps', g1, g2, g3⟩ : ∃ fps' : Nat → List Addr, (∀ (i : Nat) w, env[i]? = some (some w) → ∃ v, σ[i]? = some (some v) ∧ Own K S' H' v w (fps' i) ∧ (fps' i).Nodup) ∧
      (∀ i p, p ∈ fps' i → S' p = none ∧ B p = none ∧ (H' p).isSome = true ∧ (H p).isSome = true) ∧ ∀ i j p, p ∈ fps' i → p ∈ fps' j → i = j := by
    refine ⟨fps, fun i w e => ?_, fun i p hp => ?_, h3⟩
    · obtain ⟨v, a, b, c⟩ := h1 i w e
      exact ⟨v, a, b.gr n.gr, c⟩
    · obtain ⟨a, b, c⟩ := h2 i p hp
      obtain ⟨u, e⟩ := Option.isSome_iff_exists.mp c
      exact ⟨n.gr.gone a c, b, by rw [n.gr.hh p u e]; rfl, c⟩
  have far : ∀ j p, p ∈ fps' j → p ∈ fp → False := fun j p h h' => by
    have := (g2 j p h).2.2.2
    rw [(n.new p h').1] at this
    cases this
  refine ⟨by rw [List.length_set, List.length_set]; exact y.len, y.sub, y.base, y.ex0, y.nw, fun j => if j = i then fp else fps' j, fun j u e => ?_, fun j p hp => ?_, fun j k p hj hk => ?_⟩
  · rcases get_set e with ⟨rfl, e1, hl⟩ | ⟨ne, e1⟩
    · cases e1
      refine ⟨v, List.getElem?_set_self (by rw [← y.len]; exact hl), ?_⟩
      simp only [if_pos]
      exact ⟨n.own, n.nd⟩
    · obtain ⟨z, a, b, c⟩ := g1 j u e1
      refine ⟨z, by rw [List.getElem?_set_ne ne]; exact a, ?_⟩
      simp only [if_neg (Ne.symm ne)]
      exact ⟨b, c⟩
  · by_cases e : j = i
    · simp only [if_pos e] at hp
      exact ⟨(n.new p hp).2, x.base.free (n.new p hp).1, Own.there w n.own p hp⟩
    · simp only [if_neg e] at hp
      obtain ⟨a, b, c, _⟩ := g2 j p hp
      exact ⟨a, b, c⟩
  · by_cases e : j = i
    · by_cases e' : k = i
      · exact e.trans e'.symm
      · simp only [if_pos e, if_neg e'] at hj hk
        exact (far k p hk hj).elim
    · by_cases e' : k = i
      · simp only [if_neg e, if_pos e'] at hj hk
        exact (far j p hj hk).elim
      · simp only [if_neg e, if_neg e'] at hj hk
        exact g3 j k p hj hk
/-- an owned thing is changed -/
theorem StOk.mut {i : Nat} {p : Addr} {o : HO} {u w' : W} (x : StOk K B S0 env σ S H) (e : env[i]? = some (some u)) (hu : ∀ fq, Own K S H v u fq → fq = [p]) (hv : σ[i]? = some (some v)) (ho : Own K S (upd H p o) v w' [p]) :
    StOk K B S0 (env.set i (some w')) σ S (upd H p o) := by
  obtain ⟨fps, h1, h2, h3⟩ := x.own
  obtain ⟨v', a, b, c⟩ := h1 i u e
  rw [hv] at a
  cases a
  have ep : fps i = [p] := hu _ b
  obtain ⟨q1, q2, q3⟩ := h2 i p (by rw [ep]; simp)
  have far : ∀ j, j ≠ i → ∀ q ∈ fps j, q ≠ p := fun j hj q hq z => by
    subst z
    exact hj (h3 j i q hq (by rw [ep]; simp))
  refine ⟨by rw [List.length_set]; exact x.len, fun a o' z => ?_, fun a o' z => ?_, x.ex0, x.nw, fps, fun j w e' => ?_, fun j q hq => ?_, h3⟩
  · rw [upd_ne (ne_of_none z q1)]; exact x.sub a o' z
  · rw [upd_ne (ne_of_none z q2)]; exact x.base a o' z
  · rcases get_set e' with ⟨rfl, e1, hl⟩ | ⟨ne, e1⟩
    · cases e1
      exact ⟨v, hv, by rw [ep]; exact ho, by rw [ep]; simp⟩
    · obtain ⟨z, a, b', c'⟩ := h1 j w e1
      exact ⟨z, a, b'.carry (Same.refl S) w fun q hq => upd_ne (far j (Ne.symm ne) q hq), c'⟩
  · obtain ⟨a, b', c'⟩ := h2 j q hq
    refine ⟨a, b', ?_⟩
    by_cases z : q = p
    · rw [z, upd_same]; rfl
    · rw [upd_ne z]; exact c'
def fz1 (i : Nat) (env : En) : En := match env[i]? with
  | some (some w) => env.set i (some (.sh w.toD))
  | _ => env
def fz : List Nat → En → En
  | [], env => env
  | i :: r, env => fz r (fz1 i env)
theorem StOk.fz1 (x : StOk K B S0 env σ S H) (i : Nat) : ∃ S', StOk K B S0 (fz1 i env) σ S' H ∧ Same S S' := by
  unfold Ly.fz1
  split
  · rename_i w e
    obtain ⟨fps, h1, h2, h3⟩ := x.own
    obtain ⟨v, a, b, c⟩ := h1 i w e
    have hn : ∀ p ∈ fps i, S p = none := fun p hp => (h2 i p hp).1
    have ss := frz_same (S := S) (H := H) hn
    refine ⟨frz S H (fps i), ⟨by rw [List.length_set]; exact x.len, frz_sub x.sub, x.base, x.ex0.trans ss, fun a o e => ?_, fun j => if j = i then [] else fps j, fun j u e' => ?_, fun j p hp => ?_, fun j k p hj hk => ?_⟩, ss⟩
    · by_cases z : a ∈ fps i
      · exact .inr (h2 i a z).2.1
      · rw [frz_out z] at e; exact x.nw a o e
    · rcases get_set e' with ⟨rfl, e1, hl⟩ | ⟨ne, e1⟩
      · cases e1
        refine ⟨v, a, ?_⟩
        simp only [if_pos]
        exact ⟨.sh (b.rep ss w fun p hp => frz_at hp), List.nodup_nil⟩
      · obtain ⟨z, a', b', c'⟩ := h1 j u e1
        refine ⟨z, a', ?_⟩
        simp only [if_neg (Ne.symm ne)]
        exact ⟨b'.carry ss u fun _ _ => rfl, c'⟩
    · by_cases e' : j = i
      · simp only [if_pos e'] at hp; cases hp
      · simp only [if_neg e'] at hp
        obtain ⟨a', b', c'⟩ := h2 j p hp
        exact ⟨by rw [frz_out fun z => e' (h3 j i p hp z)]; exact a', b', c'⟩
    · by_cases e' : j = i
      · simp only [if_pos e'] at hj; cases hj
      · by_cases e'' : k = i
        · simp only [if_pos e''] at hk; cases hk
        · simp only [if_neg e', if_neg e''] at hj hk
          exact h3 j k p hj hk
  · exact ⟨S, x, Same.refl S⟩
theorem StOk.fz : ∀ (F : List Nat) {env : En} {S : Hp}, StOk K B S0 env σ S H → ∃ S', StOk K B S0 (fz F env) σ S' H ∧ Same S S'
  | [], _, S, x => ⟨S, x, Same.refl S⟩
  | i :: F, _, S, x => by
    obtain ⟨S1, x1, s1⟩ := x.fz1 i
    obtain ⟨S2, x2, s2⟩ := StOk.fz F x1
    exact ⟨S2, x2, s1.trans s2⟩
end

/-! ### statements -/
inductive Fl where
  | nx (e : En) | rt (w : W) | bk (e : En) | ct (e : En)
def Post (K : PySem.W.Frag) (B S0 : Hp) (D : Ends) (E : XK) (S : Hp) : Res Fl → Prop
  | .ok (.nx e) => ∀ σ' S' H', StOk K B S0 e σ' S' H' → Same S S' → D.nx σ' H'
  | .ok (.bk e) => ∀ σ' S' H', StOk K B S0 e σ' S' H' → Same S S' → D.bk σ' H'
  | .ok (.ct e) => ∀ σ' S' H', StOk K B S0 e σ' S' H' → Same S S' → D.ct σ' H'
  | .ok (.rt w) => ∀ v S' H' fp, RtOk K B S0 S' H' v w fp → D.rt v H'
  | .ex x => ∀ cls d H', Same B H' → XR K x cls d H' → E cls d H'
  | .st => False
theorem Post.up {K : PySem.W.Frag} {B S0 S S' : Hp} {D : Ends} {E : XK} {r : Res Fl} (p : Post K B S0 D E S r) (h : Same S S') : Post K B S0 D E S' r := by
  cases r with
  | ok r =>
    cases r with
    | nx e => exact fun σ T H' x s => p σ T H' x (h.trans s)
    | bk e => exact fun σ T H' x s => p σ T H' x (h.trans s)
    | ct e => exact fun σ T H' x s => p σ T H' x (h.trans s)
    | rt w => exact p
  | ex x => exact p
  | st => exact p
/-- Mu: the slots whose things are changed in place -/
class SemS (K : PySem.W.Frag) (Mu : List Nat) (E : XK) (t : TS) (m : outParam (En → Res Fl)) : Prop where
  run : ∀ {B S0 D env σ S H}, StOk K B S0 env σ S H → Post K B S0 D E S (m env) → t D σ H
section
variable {K : PySem.W.Frag} {Mu : List Nat} {E : XK} {te : TE} {F : List Nat} {me : En → Res W}
theorem xr_up {B H : Hp} {x : Xc} {P : Value → Option Addr → Hp → Prop} (b : Same B H) (k : ∀ cls d H', Same B H' → XR K x cls d H' → P cls d H') : ∀ cls d H', Same H H' → XR K x cls d H' → P cls d H' := fun c d H' s q => k c d H' (b.trans s) q

def keepW (Mu : List Nat) (i : Nat) (w : W) : W := if Mu.contains i then w else .sh w.toD
def mAsg (Mu F : List Nat) (i : Nat) (me : En → Res W) : En → Res Fl := fun env => (me (fz F env)).map fun w => .nx ((fz F env).set i (some (keepW Mu i w)))
theorem New.sh' {S H S' H' : Hp} {v : V} {w : W} {fp : List Addr} (n : New K S H S' H' v w fp) : New K S H (frz S' H' fp) H' v (.sh w.toD) [] := .sh n.stable.1 n.stable.2
instance semS_asg {i : Nat} [h : SemE K E te F me] : SemS K Mu E (tAsg te (gName i)) (mAsg Mu F i me) where
  run := fun {B S0 D env σ S H} x p => by
    obtain ⟨S1, x1, s1⟩ := x.fz F
    unfold mAsg at p
    cases e : me (fz F env) with
    | ok w =>
      rw [e] at p
      refine h.ok x1.vw e fun v S' H' fp n => ?_
      show D.nx _ _
      unfold keepW at p
      by_cases hm : Mu.contains i = true
      · simp only [hm, if_true] at p
        exact p _ _ _ (x1.set n i) (s1.trans n.gr.ss)
      · simp only [hm, if_false] at p
        exact p _ _ _ (x1.set n.sh' i) (s1.trans n.stable.1.ss)
    | ex z =>
      rw [e] at p
      exact h.ex x1.vw e (xr_up x1.base p)
    | st => rw [e] at p; exact p.elim

/-- what a target makes of an item: the slots are ts -/
class SemG (K : PySem.W.Frag) (g : TG) (ts : outParam (List Nat)) (m : outParam (D → En → Res En)) : Prop where
  run : ∀ {B S0 env σ S H v d Q e}, StOk K B S0 env σ S H → Rep K S v d → m d env = .ok e → (∀ σ', StOk K B S0 e σ' S H → Q σ' H) → g v σ H Q
  vw : ∀ {env σ S H v d Q e}, Vw K env σ S H → Rep K S v d → m d env = .ok e → (∀ σ', Vw K e σ' S H → (∀ vs : List Nat, (∀ i ∈ ts, i ∈ vs) → wipe σ' vs = wipe σ vs) → Q σ' H) → g v σ H Q
  ex : ∀ {d env x}, m d env = .ex x → False
class SemGs (K : PySem.W.Frag) (g : TGs) (ts : outParam (List Nat)) (m : outParam (List D → En → Res En)) : Prop where
  run : ∀ {B S0 env σ S H vs ds Q e}, StOk K B S0 env σ S H → Reps K S vs ds → m ds env = .ok e → (∀ σ', StOk K B S0 e σ' S H → Q σ' H) → g vs σ H Q
  vw : ∀ {env σ S H us ds Q e}, Vw K env σ S H → Reps K S us ds → m ds env = .ok e → (∀ σ', Vw K e σ' S H → (∀ vs : List Nat, (∀ i ∈ ts, i ∈ vs) → wipe σ' vs = wipe σ vs) → Q σ' H) → g us σ H Q
  ex : ∀ {d env x}, m d env = .ex x → False
theorem wipe_set {σ : L2.St} {i : Nat} {u : Option V} : ∀ {vs : List Nat}, i ∈ vs → wipe (σ.set i u) vs = wipe σ vs
  | [], h => by cases h
  | v :: vs, h => by
    unfold wipe
    by_cases hi : i ∈ vs
    · rw [wipe_set hi]
    · have e : v = i := by
        rcases List.mem_cons.mp h with e | e
        · exact e.symm
        · exact absurd e hi
      subst e
      have : ∀ (vs : List Nat), v ∉ vs → wipe (σ.set v u) vs = (wipe σ vs).set v u := by
        intro vs
        induction vs with
        | nil => intro _; rfl
        | cons a vs ih =>
          intro hn
          unfold wipe
          rw [ih fun z => hn (List.mem_cons_of_mem _ z), List.set_comm _ _ fun z => hn (by rw [z]; exact List.mem_cons_self)]
      rw [this vs hi, List.set_set]
def mName (i : Nat) : D → En → Res En := fun d env => .ok (env.set i (some (.sh d)))
theorem Vw.set {env : En} {σ : L2.St} {S H : Hp} {v : V} {d : D} (x : Vw K env σ S H) (r : Rep K S v d) (i : Nat) : Vw K (env.set i (some (.sh d))) (σ.set i (some v)) S H := ⟨by rw [List.length_set, List.length_set]; exact x.len, x.sub, fun j w e => by
  rcases get_set e with ⟨rfl, e1, hl'⟩ | ⟨ne, e1⟩
  · cases e1
    exact ⟨v, [], List.getElem?_set_self (by rw [← x.len]; exact hl'), .sh r, fun p hp => nomatch hp⟩
  · obtain ⟨z, fp, a, b, c⟩ := x.at_ j w e1
    exact ⟨z, fp, by rw [List.getElem?_set_ne ne]; exact a, b, c⟩⟩
instance semG_name {i : Nat} : SemG K (gName i) [i] (mName i) where
  run := fun x r e k => by
    cases e
    exact k _ (x.set (.sh (.refl x.sub) r) i)
  vw := fun x r e k => by
    cases e
    exact k _ (x.set r i) fun vs h => wipe_set (h i (by simp))
  ex := fun e => by cases e
def mGNil : List D → En → Res En := fun ds env => match ds with
  | [] => .ok env
  | _ => .st
def mGCons (m : D → En → Res En) (mr : List D → En → Res En) : List D → En → Res En := fun ds env => match ds with
  | d :: ds => (m d env).bind fun e => mr ds e
  | _ => .st
instance semGs_nil : SemGs K gNil [] mGNil where
  run := fun {B S0 env σ S H vs ds Q e} x r e k => by
    cases ds with
    | nil => cases r; cases e; exact ⟨rfl, k _ x⟩
    | cons _ _ => cases e
  vw := fun {env σ S H us ds Q e} x r e k => by
    cases ds with
    | nil => cases r; cases e; exact ⟨rfl, k _ x fun _ _ => rfl⟩
    | cons _ _ => cases e
  ex := fun {d env x} e => by cases d <;> cases e
instance semGs_cons {g : TG} {gr : TGs} {ts tr : List Nat} {m : D → En → Res En} {mr : List D → En → Res En} [hg : SemG K g ts m] [hr : SemGs K gr tr mr] : SemGs K (gCons g gr) (ts ++ tr) (mGCons m mr) where
  run := fun {B S0 env σ S H vs ds Q e} x r e k => by
    cases ds with
    | nil => cases e
    | cons d ds =>
      obtain ⟨e1, h1, h2⟩ := Res.of_ok e
      cases r with
      | cons a b => exact ⟨_, _, rfl, hg.run x a h1 fun σ' y => hr.run y b h2 k⟩
  vw := fun {env σ S H us ds Q e} x r e k => by
    cases ds with
    | nil => cases e
    | cons d ds =>
      obtain ⟨e1, h1, h2⟩ := Res.of_ok e
      cases r with
      | cons a b =>
        refine ⟨_, _, rfl, hg.vw x a h1 fun σ' y wp => ?_⟩
        exact hr.vw y b h2 fun σ2 z wq => k σ2 z fun vs hv => (wq vs fun i hi => hv i (List.mem_append_right _ hi)).trans (wp vs fun i hi => hv i (List.mem_append_left _ hi))
  ex := fun {d env x} e => by
    cases d with
    | nil => cases e
    | cons d ds =>
      rcases Res.of_ex e with e | ⟨_, _, e⟩
      · exact hg.ex e
      · exact hr.ex e
def mGTup (n : Nat) (m : List D → En → Res En) : D → En → Res En := fun d env => match d with
  | .tup xs => if xs.length = n then m xs env else .st
  | _ => .st
instance semG_tup {n : Nat} {g : TGs} {ts : List Nat} {m : List D → En → Res En} [hg : SemGs K g ts m] : SemG K (gTup K n g) ts (mGTup n m) where
  run := fun {B S0 env σ S H v d Q e} x r e k => by
    unfold mGTup at e
    split at e
    · rename_i xs
      split at e
      · rename_i hn
        cases r with
        | tup a b => exact ⟨_, _, rfl, SqT.of (x.sub _ _ a), by rw [b.len]; exact hn, hg.run x b e k⟩
      · cases e
    · cases e
  vw := fun {env σ S H v d Q e} x r e k => by
    unfold mGTup at e
    split at e
    · rename_i xs
      split at e
      · rename_i hn
        cases r with
        | tup a b => exact ⟨_, _, rfl, SqT.of (x.sub _ _ a), by rw [b.len]; exact hn, hg.vw x b e fun σ' y wp => k σ' y wp⟩
      · cases e
    · cases e
  ex := fun {d env x} e => by
    unfold mGTup at e
    split at e
    · split at e
      · exact hg.ex e
      · cases e
    · cases e
def mAsgT (F : List Nat) (me : En → Res W) (mg : D → En → Res En) : En → Res Fl := fun env => (mD me (fz F env)).bind fun d => (mg d (fz F env)).map .nx
instance semS_asgT {n : Nat} {g : TGs} {ts : List Nat} {mg : D → En → Res En} [h : SemE K E te F me] [hg : SemG K (gTup K n g) ts mg] : SemS K Mu E (tAsg te (gTup K n g)) (mAsgT F me mg) where
  run := fun {B S0 D env σ S H} x p => by
    obtain ⟨S1, x1, s1⟩ := x.fz F
    unfold mAsgT at p
    cases e : mD me (fz F env) with
    | ok d =>
      rw [e] at p
      refine h.okD x1.vw e fun v S' H' g r => ?_
      show gTup K n _ v σ H' D.nx
      cases e2 : mg d (fz F env) with
      | ok e3 =>
        simp only [Res.bind_ok, e2, Res.map_ok] at p
        exact hg.run (x1.gr g) r e2 fun σ' y => p _ _ _ y (s1.trans g.ss)
      | ex z => exact (hg.ex e2).elim
      | st => simp only [Res.bind_ok, e2, Res.map_st] at p; exact p.elim
    | ex z =>
      rw [e] at p
      exact h.ex x1.vw (Res.of_exm e) (xr_up x1.base p)
    | st => rw [e] at p; exact p.elim

def mSeq (a b : En → Res Fl) : En → Res Fl := fun env => (a env).bind fun r => match r with
  | .nx e => b e
  | r => .ok r
instance semS_seq {t u : TS} {ma mb : En → Res Fl} [ha : SemS K Mu E t ma] [hb : SemS K Mu E u mb] : SemS K Mu E (tSeq t u) (mSeq ma mb) where
  run := fun {B S0 D env σ S H} x p => by
    refine ha.run x ?_
    unfold mSeq at p
    cases e : ma env with
    | ok r =>
      rw [e] at p
      cases r with
      | nx e1 => exact fun σ' S' H' y s => hb.run y (p.up s)
      | rt w => exact p
      | bk e1 => exact p
      | ct e1 => exact p
    | ex z => rw [e] at p; exact p
    | st => rw [e] at p; exact p
def mNext : En → Res Fl := fun env => .ok (.nx env)
def mBreak : En → Res Fl := fun env => .ok (.bk env)
def mCont : En → Res Fl := fun env => .ok (.ct env)
instance semS_next : SemS K Mu E tNext mNext where
  run := fun x p => p _ _ _ x (Same.refl _)
instance semS_break : SemS K Mu E tBreak mBreak where
  run := fun x p => p _ _ _ x (Same.refl _)
instance semS_cont : SemS K Mu E tCont mCont where
  run := fun x p => p _ _ _ x (Same.refl _)
def mIfS (F : List Nat) (mc : En → Res Bool) (ma mb : En → Res Fl) : En → Res Fl := fun env => (mc (fz F env)).bind fun b => if b = true then ma (fz F env) else mb (fz F env)
instance semS_if {c : TT} {t u : TS} {mc : En → Res Bool} {ma mb : En → Res Fl} [hc : SemT K E c F mc] [ha : SemS K Mu E t ma] [hb : SemS K Mu E u mb] : SemS K Mu E (tIfS c t u) (mIfS F mc ma mb) where
  run := fun {B S0 D env σ S H} x p => by
    obtain ⟨S1, x1, s1⟩ := x.fz F
    unfold mIfS at p
    cases e : mc (fz F env) with
    | ok b =>
      rw [e] at p
      refine hc.ok x1.vw e fun H' g => ?_
      have y := x1.gr (.hp x1.sub g)
      cases b with
      | true => exact ha.run y (p.up s1)
      | false => exact hb.run y (p.up s1)
    | ex z =>
      rw [e] at p
      exact hc.ex x1.vw e (xr_up x1.base p)
    | st => rw [e] at p; exact p.elim
def mDrop (F : List Nat) (me : En → Res W) : En → Res Fl := fun env => (me (fz F env)).map fun _ => .nx (fz F env)
instance (priority := low) semS_drop [h : SemE K E te F me] : SemS K Mu E (tDrop te) (mDrop F me) where
  run := fun {B S0 D env σ S H} x p => by
    obtain ⟨S1, x1, s1⟩ := x.fz F
    unfold mDrop at p
    cases e : me (fz F env) with
    | ok w =>
      rw [e] at p
      exact h.ok x1.vw e fun v S' H' fp n => p _ _ _ (x1.gr n.gr) (s1.trans n.gr.ss)
    | ex z => rw [e] at p; exact h.ex x1.vw e (xr_up x1.base p)
    | st => rw [e] at p; exact p.elim
def mRet (F : List Nat) (me : En → Res W) : En → Res Fl := fun env => (me (fz F env)).map .rt
instance semS_ret [h : SemE K E te F me] : SemS K Mu E (tRet te) (mRet F me) where
  run := fun {B S0 D env σ S H} x p => by
    obtain ⟨S1, x1, s1⟩ := x.fz F
    unfold mRet at p
    cases e : me (fz F env) with
    | ok w =>
      rw [e] at p
      refine h.ok x1.vw e fun v S' H' fp n => ?_
      have y := x1.gr n.gr
      exact p v S' H' fp ⟨y.sub, y.base, y.ex0, y.nw, n.own, n.nd, fun q hq => ⟨x1.base.free (n.new q hq).1, (n.new q hq).2⟩⟩
    | ex z => rw [e] at p; exact h.ex x1.vw e (xr_up x1.base p)
    | st => rw [e] at p; exact p.elim
/-- return of a name: what it owns goes along -/
def mRetVar (i : Nat) : En → Res Fl := fun env => match env[i]? with
  | some (some w) => .ok (.rt w)
  | _ => .st
instance semS_retVar {i : Nat} : SemS K Mu E (tRet (tVar i)) (mRetVar i) where
  run := fun {B S0 D env σ S H} x p => by
    unfold mRetVar at p
    split at p
    · rename_i w e
      obtain ⟨fps, h1, h2, _⟩ := x.own
      obtain ⟨v, a, b, c⟩ := h1 i w e
      exact ⟨v, a, p v S H _ ⟨x.sub, x.base, x.ex0, x.nw, b, c, fun q hq => ⟨(h2 i q hq).2.1, (h2 i q hq).1⟩⟩⟩
    · exact p.elim
def mRetN : En → Res Fl := fun _ => .ok (.rt (.sh .non))
instance semS_retN : SemS K Mu E tRetN mRetN where
  run := fun {B S0 D env σ S H} x p => p .non S H [] ⟨x.sub, x.base, x.ex0, x.nw, .sh .non, List.nodup_nil, fun p hp => nomatch hp⟩

/-! ### loops -/
/-- what is walked gives ds, whatever grows meanwhile -/
def JOk (K : PySem.W.Frag) (S0 P0 : Hp) (J : It) (ds : List D) : Prop := ∀ S H, Same S0 S → Same S H → Same P0 H → ∀ i, (∀ d, ds[i]? = some d → J.go i H ∧ ∀ x H', J.yld i H x H' → ∃ S', Gr S H S' H' ∧ Rep K S' x d) ∧ (ds[i]? = none → J.stop i H)
class SemI (K : PySem.W.Frag) (E : XK) (wi : TI) (F : outParam (List Nat)) (m : outParam (En → Res (List D))) : Prop where
  ok : ∀ {env σ S H R ds}, Vw K env σ S H → m env = .ok ds → (∀ J S' H', Gr S H S' H' → JOk K S' S' J ds → R J H') → wi σ H R
  ex : ∀ {env σ S H R x}, Vw K env σ S H → m env = .ex x → (∀ cls d H', Same H H' → XR K x cls d H' → E cls d H') → wi σ H R
def runL (mg : D → En → Res En) (mb : En → Res Fl) : List D → En → Res Fl
  | [], env => .ok (.nx env)
  | d :: ds, env => (mg d env).bind fun e => (mb e).bind fun r => match r with
    | .nx e => runL mg mb ds e
    | .ct e => runL mg mb ds e
    | .bk e => .ok (.nx e)
    | .rt w => .ok (.rt w)
def mFor (F : List Nat) (mi : En → Res (List D)) (mg : D → En → Res En) (mb : En → Res Fl) : En → Res Fl := fun env => (mi (fz F env)).bind fun ds => runL mg mb ds (fz F env)
instance semS_for {wi : TI} {g : TG} {tb : TS} {ts : List Nat} {mi : En → Res (List D)} {mg : D → En → Res En} {mb : En → Res Fl} [hi : SemI K E wi F mi] [hg : SemG K g ts mg] [hb : SemS K Mu E tb mb] : SemS K Mu E (tFor wi g tb) (mFor F mi mg mb) where
  run := fun {B S0 D env σ S H} x p => by
    obtain ⟨S1, x1, s1⟩ := x.fz F
    unfold mFor at p
    cases e : mi (fz F env) with
    | ex z => rw [e] at p; exact hi.ex x1.vw e (xr_up x1.base p)
    | st => rw [e] at p; exact p.elim
    | ok ds =>
      rw [e] at p
      refine hi.ok x1.vw e fun J S2 H2 g2 jok => ?_
      have x2 := x1.gr g2
      have p2 : Post K B S0 D E S2 (runL mg mb ds (fz F env)) := p.up (s1.trans g2.ss)
      refine ⟨fun i m σ H => m = ds.length - i ∧ ∃ env S, StOk K B S0 env σ S H ∧ Same S2 S ∧ Post K B S0 D E S (runL mg mb (ds.drop i) env), ⟨_, rfl, _, S2, x2, Same.refl S2, by rw [List.drop_zero]; exact p2⟩, ?_⟩
      rintro i m σ H ⟨rfl, env, S, x, s, q⟩
      obtain ⟨j1, j2⟩ := jok S H s x.sub (s.trans x.sub) i
      cases hd : ds[i]? with
      | none =>
        have hl : ds.length ≤ i := List.getElem?_eq_none_iff.mp hd
        rw [List.drop_eq_nil_of_le hl] at q
        exact .inl ⟨j2 hd, q σ S H x (Same.refl S)⟩
      | some d =>
        obtain ⟨hlt, hdd⟩ := List.getElem?_eq_some_iff.mp hd
        have hdrop : ds.drop i = d :: ds.drop (i + 1) := by rw [List.drop_eq_getElem_cons hlt, hdd]
        rw [hdrop] at q
        unfold runL at q
        obtain ⟨go, yld⟩ := j1 d hd
        refine .inr ⟨go, fun σ' H' => ∃ env S, StOk K B S0 env σ' S H' ∧ Same S2 S ∧ Post K B S0 D E S (runL mg mb (ds.drop (i + 1)) env), fun σ' H' z => ⟨_, by omega, rfl, z⟩, fun y H' hy => ?_⟩
        obtain ⟨S3, g3, r3⟩ := yld y H' hy
        cases eg : mg d env with
        | ex z => exact (hg.ex eg).elim
        | st => rw [eg] at q; exact q.elim
        | ok env' =>
          rw [eg] at q
          refine hg.run (x.gr g3) r3 eg fun σ' x4 => ?_
          refine hb.run x4 ?_
          have q' := q.up g3.ss
          simp only [Res.bind_ok] at q'
          cases er : mb env' with
          | ex z => rw [er] at q'; exact q'
          | st => rw [er] at q'; exact q'
          | ok r =>
            rw [er] at q'
            cases r with
            | nx e5 => exact fun σ5 S5 H5 x5 s5 => ⟨e5, S5, x5, (s.trans g3.ss).trans s5, Post.up q' s5⟩
            | ct e5 => exact fun σ5 S5 H5 x5 s5 => ⟨e5, S5, x5, (s.trans g3.ss).trans s5, Post.up q' s5⟩
            | bk e5 => exact q'
            | rt w => exact q'
/-! while: by fuel -/
def runW (F : List Nat) (mc : En → Res Bool) (mb : En → Res Fl) : Nat → En → Res Fl
  | 0, _ => .st
  | n + 1, env => (mc (fz F env)).bind fun b => if b = true then (mb (fz F env)).bind fun r => match r with
      | .nx e => runW F mc mb n e
      | .ct e => runW F mc mb n e
      | .bk e => .ok (.nx e)
      | .rt w => .ok (.rt w)
    else .ok (.nx (fz F env))
open Classical in
noncomputable def mWhile (F : List Nat) (mc : En → Res Bool) (mb : En → Res Fl) : En → Res Fl := fun env => if h : ∃ n, runW F mc mb n env ≠ .st then runW F mc mb (Classical.choose h) env else .st
theorem runW_more {F : List Nat} {mc : En → Res Bool} {mb : En → Res Fl} : ∀ (n m : Nat) (env : En), n ≤ m → runW F mc mb n env ≠ .st → runW F mc mb m env = runW F mc mb n env
  | 0, _, _, _, h => (h rfl).elim
  | n + 1, 0, _, hl, _ => by omega
  | n + 1, m + 1, env, hl, h => by
    unfold runW at h ⊢
    cases e : mc (Ly.fz F env) with
    | ex z => rfl
    | st => rfl
    | ok b =>
      rw [e] at h
      cases b with
      | false => rfl
      | true =>
        simp only [Res.bind_ok, if_true] at h ⊢
        cases e2 : mb (Ly.fz F env) with
        | ex z => rfl
        | st => rfl
        | ok r =>
          rw [e2] at h
          cases r with
          | nx e3 => exact runW_more n m e3 (by omega) h
          | ct e3 => exact runW_more n m e3 (by omega) h
          | bk e3 => rfl
          | rt w => rfl
theorem mWhile_of {F : List Nat} {mc : En → Res Bool} {mb : En → Res Fl} {env : En} {r : Res Fl} (n : Nat) (h : runW F mc mb n env = r) (hr : r ≠ .st) : mWhile F mc mb env = r := by
  have hh : ∃ n, runW F mc mb n env ≠ .st := ⟨n, by rw [h]; exact hr⟩
  unfold mWhile
  rw [dif_pos hh]
  have h1 := Classical.choose_spec hh
  rcases Nat.le_total n (Classical.choose hh) with hl | hl
  · rw [runW_more n _ env hl (by rw [h]; exact hr), h]
  · rw [← runW_more _ n env hl h1, h]
theorem Res.ne_st_bind {α β : Type} {r : Res α} {f : α → Res β} (h : r.bind f ≠ .st) : r ≠ .st := fun e => h (by rw [e]; rfl)
instance semS_while {c : TT} {tb : TS} {mc : En → Res Bool} {mb : En → Res Fl} [hc : SemT K E c F mc] [hb : SemS K Mu E tb mb] : SemS K Mu E (tWhile c tb) (mWhile F mc mb) where
  run := fun {B S0 D env σ S H} x p => by
    unfold mWhile at p
    split at p
    · rename_i h
      generalize Classical.choose h = n at p
      refine ⟨fun m σ H => ∃ env S, StOk K B S0 env σ S H ∧ Post K B S0 D E S (runW F mc mb m env), ⟨n, env, S, x, p⟩, ?_⟩
      rintro m σ H ⟨env, S, x, p⟩
      cases m with
      | zero => exact p.elim
      | succ m =>
        obtain ⟨S1, x1, s1⟩ := x.fz F
        have q := p.up s1
        unfold runW at q
        cases e : mc (fz F env) with
        | ex z => rw [e] at q; exact hc.ex x1.vw e (xr_up x1.base q)
        | st => rw [e] at q; exact q.elim
        | ok b =>
          rw [e] at q
          refine hc.ok x1.vw e fun H' g => ?_
          have y := x1.gr (.hp x1.sub g)
          cases b with
          | false => exact q σ S1 H' y (Same.refl S1)
          | true =>
            rw [if_pos rfl]
            simp only [Res.bind_ok, if_true] at q
            refine ⟨fun σ' H' => ∃ env S, StOk K B S0 env σ' S H' ∧ Post K B S0 D E S (runW F mc mb m env), fun σ' H' z => ⟨m, by omega, z⟩, hb.run y ?_⟩
            cases er : mb (fz F env) with
            | ex z => rw [er] at q; exact q
            | st => rw [er] at q; exact q
            | ok r =>
              rw [er] at q
              cases r with
              | nx e5 => exact fun σ5 S5 H5 x5 s5 => ⟨e5, S5, x5, Post.up q s5⟩
              | ct e5 => exact fun σ5 S5 H5 x5 s5 => ⟨e5, S5, x5, Post.up q s5⟩
              | bk e5 => exact q
              | rt w => exact q
    · exact p.elim

/-! ### in place: append -/
def mAppend (F : List Nat) (i : Nat) (ma : En → Res (List D)) : En → Res Fl := fun env => match (fz F env)[i]? with
  | some (some (.lst xs)) => (ma (fz F env)).bind fun ds => match ds with
    | [d] => if small xs.length then .ok (.nx ((fz F env).set i (some (.lst (xs ++ [d]))))) else .st
    | _ => .st
  | _ => .st
instance semS_append {i : Nat} {t : TA} {ma : En → Res (List D)} [h : SemA K E t F ma] : SemS K Mu E (tDrop (tBM K "list" rAppend (tVar i) t)) (mAppend F i ma) where
  run := fun {B S0 D env σ S H} x p => by
    obtain ⟨S1, x1, s1⟩ := x.fz F
    unfold mAppend at p
    split at p
    · rename_i xs e
      obtain ⟨v, fp, a, b, c⟩ := x1.vw.at_ i _ e
      cases b with
      | lst hp hr =>
        refine ⟨_, a, .inl ⟨rfl, _, SqL.of hp⟩, ?_⟩
        cases ea : ma (fz F env) with
        | ex z => rw [ea] at p; exact h.ex x1.vw ea (xr_up x1.base p)
        | st => rw [ea] at p; exact p.elim
        | ok ds =>
          rw [ea] at p
          simp only [Res.bind_ok] at p
          refine h.ok x1.vw ea fun vs S2 H2 g r => ?_
          split at p
          · rename_i d
            split at p
            · rename_i hs
              cases r with
              | cons r1 r2 =>
                cases r2
                have x2 := x1.gr g
                refine ⟨_, _, _, rfl, rfl, g.hh _ _ hp, by rw [hr.len]; exact small_line hs, ?_⟩
                refine p _ _ _ (x2.mut e (fun fq o => ?_) a (.lst upd_same ((hr.up g.ss).app (.cons r1 .nil)))) (s1.trans g.ss)
                cases o; rfl
            · exact p.elim
          · exact p.elim
    · exact p.elim
end
end Ly

set_option Elab.async false
set_option linter.all false
set_option maxRecDepth 100000
namespace Ly
open PySem L2

theorem OpR.or {X : Cx} {f : Value → Value → Sem Value} {r r' : R2} (h : OpR X f r) (h' : OpR X f r') : OpR X f (fun x y H Q => r x y H Q ∨ r' x y H Q) := by
  intro pins s σ H x y v u Q I rx ry q
  rcases q with q | q
  · exact h pins s σ H x y v u Q I rx ry q
  · exact h' pins s σ H x y v u Q I rx ry q

/-! ### data as the library's data; == -/
mutual
def toP : D → PyData
  | .non => .none
  | .bl b => .bool b
  | .int i => .int i
  | .str x => .str x
  | .lst xs => .list (toPs xs)
  | .tup xs => .tuple (toPs xs)
  | .ktup xs => .tuple (toPs xs)
  | .scr ns => .list (ns.map PyData.int)
  | .dic _ _ => .dict []
  | .dit _ _ => .dict []
  | .obj _ _ _ => .dict []
  | .ty _ => .dict []
  | .cls _ => .dict []
def toPs : List D → List PyData
  | [] => []
  | d :: ds => toP d :: toPs ds
end
section
variable {K : PySem.W.Frag} {H : Hp}
theorem DpAll.ints : ∀ ns : List Int, DpAll K H (ns.map V.int) (ns.map PyData.int)
  | [] => .nil
  | n :: ns => .cons (.int n) (DpAll.ints ns)
mutual
theorem Rep.dp : ∀ (d : D) {v : V}, Rep K H v d → (toP d).canLay0 = true → Dp K H v (toP d)
  | .non, _, r, _ => by cases r; unfold toP; exact .non
  | .bl b, _, r, _ => by cases r; unfold toP; exact .bl b
  | .int i, _, r, _ => by cases r; unfold toP; exact .int i
  | .str x, _, r, _ => by cases r; unfold toP; exact .str x
  | .lst xs, _, r, h => by
    unfold toP at h ⊢
    cases r with | lst e q => exact .lst (SqL.of e) (Reps.dp xs q (by simpa only [PyData.canLay0] using h))
  | .tup xs, _, r, h => by
    unfold toP at h ⊢
    cases r with | tup e q => exact .tup (SqT.of e) (Reps.dp xs q (by simpa only [PyData.canLay0] using h))
  | .ktup xs, _, r, h => by
    unfold toP at h ⊢
    cases r with | ktup e q => exact .tup e (Reps.dp xs q (by simpa only [PyData.canLay0] using h))
  | .scr ns, _, r, _ => by
    unfold toP
    cases r with | scr e => exact .lst e (DpAll.ints ns)
  | .dic _ _, _, _, h => by unfold toP at h; simp [PyData.canLay0] at h
  | .dit _ _, _, _, h => by unfold toP at h; simp [PyData.canLay0] at h
  | .obj _ _ _, _, _, h => by unfold toP at h; simp [PyData.canLay0] at h
  | .ty _, _, _, h => by unfold toP at h; simp [PyData.canLay0] at h
  | .cls _, _, _, h => by unfold toP at h; simp [PyData.canLay0] at h
theorem Reps.dp : ∀ (ds : List D) {vs : List V}, Reps K H vs ds → PyData.canLayAll0 (toPs ds) = true → DpAll K H vs (toPs ds)
  | [], _, r, _ => by cases r; unfold toPs; exact .nil
  | d :: ds, _, r, h => by
    unfold toPs at h ⊢
    cases r with
    | cons a b =>
      have h' : (toP d).canLay0 = true ∧ PyData.canLayAll0 (toPs ds) = true := by simpa [PyData.canLayAll0] using h
      exact .cons (Rep.dp d a h'.1) (Reps.dp ds b h'.2)
end
theorem Rep.dpS {d : D} {v : V} (r : Rep K H v d) (h : SeqAt.shaped (toP d) = true) : Dp K H v (toP d) := r.dp d (SeqAt.canLay_of_shaped h)
end
/-- scalars that == tells apart by themselves -/
def scalD : D → D → Option Bool
  | .non, .non => some true
  | .int a, .int b => some (decide (a = b))
  | .str a, .str b => some (decide (a = b))
  | .bl a, .bl b => some (decide (a = b))
  | .non, .int _ => some false | .int _, .non => some false | .non, .bl _ => some false | .bl _, .non => some false | .non, .str _ => some false | .str _, .non => some false
  | .int _, .str _ => some false | .str _, .int _ => some false | .bl _, .str _ => some false | .str _, .bl _ => some false
  | _, _ => none
def eqD (a b : D) : Res Bool := match scalD a b with
  | some t => .ok t
  | none => if SeqAt.shaped (toP a) && SeqAt.shaped (toP b) then .ok (PyData.eqv (toP a) (toP b)) else .st
def rEqU (K : PySem.W.Frag) : R2 := fun x y H Q => rEq x y H Q ∨ rEqD K x y H Q
def rNeU (K : PySem.W.Frag) : R2 := fun x y H Q => rNe x y H Q ∨ rNeD K x y H Q
theorem op_eqU {X : Cx} (hu : X.A.units + 64 < cLine) : OpR X (compareOp .Eq) (rEqU X.K) := OpR.or op_eq (op_eqD hu)
theorem op_neU {X : Cx} (hu : X.A.units + 64 < cLine) : OpR X (compareOp .NotEq) (rNeU X.K) := OpR.or op_ne (op_neD hu)
theorem scalD_ok {K : PySem.W.Frag} {H : Hp} {a b : D} {x y : V} {t : Bool} (rx : Rep K H x a) (ry : Rep K H y b) (h : scalD a b = some t) : scal x y = true ∧ decide (x = y) = t := by
  unfold scalD at h
  split at h <;> first | cases h | skip
  all_goals (cases rx; cases ry; refine ⟨rfl, ?_⟩; simp)
def eqB (a b : D) : Res D := (eqD a b).map .bl
def neB (a b : D) : Res D := (eqD a b).map fun t => .bl (!t)
section
variable {K : PySem.W.Frag}
instance opX_eq : OpX K (rEqU K) eqB where
  ok := fun {H v u d e Q z} rv ru h k => by
    obtain ⟨t, h1, rfl⟩ := Res.of_okm h
    unfold eqD at h1
    split at h1
    · rename_i t' hs
      cases h1
      obtain ⟨a, b⟩ := scalD_ok rv ru hs
      exact .inl ⟨a, by rw [b]; exact k _ fun S => .bl t⟩
    · split at h1
      · rename_i hs
        cases h1
        simp only [Bool.and_eq_true] at hs
        exact .inr ⟨_, _, rv.dpS hs.1, ru.dpS hs.2, hs.1, hs.2, k _ fun S => .bl _⟩
      · cases h1
  ex := fun h => by
    have h1 := Res.of_exm h
    unfold eqD at h1
    split at h1
    · cases h1
    · split at h1 <;> cases h1
instance opX_ne : OpX K (rNeU K) neB where
  ok := fun {H v u d e Q z} rv ru h k => by
    obtain ⟨t, h1, rfl⟩ := Res.of_okm h
    unfold eqD at h1
    split at h1
    · rename_i t' hs
      cases h1
      obtain ⟨a, b⟩ := scalD_ok rv ru hs
      exact .inl ⟨a, by rw [b]; exact k _ fun S => .bl _⟩
    · split at h1
      · rename_i hs
        cases h1
        simp only [Bool.and_eq_true] at hs
        exact .inr ⟨_, _, rv.dpS hs.1, ru.dpS hs.2, hs.1, hs.2, k _ fun S => .bl _⟩
      · cases h1
  ex := fun h => by
    have h1 := Res.of_exm h
    unfold eqD at h1
    split at h1
    · cases h1
    · split at h1 <;> cases h1

/-! ### order -/
def strLt (a b : Str) : Bool := decide (a.cps.toList < b.cps.toList)
def ltD : D → D → Res D
  | .int a, .int b => .ok (.bl (decide (a < b)))
  | .str a, .str b => .ok (.bl (strLt a b))
  | _, _ => .st
def leD : D → D → Res D
  | .int a, .int b => .ok (.bl (decide (a ≤ b)))
  | .str a, .str b => .ok (.bl (!strLt b a))
  | _, _ => .st
def gtD : D → D → Res D
  | .int a, .int b => .ok (.bl (decide (b < a)))
  | .str a, .str b => .ok (.bl (strLt b a))
  | _, _ => .st
def geD : D → D → Res D
  | .int a, .int b => .ok (.bl (decide (b ≤ a)))
  | .str a, .str b => .ok (.bl (!strLt a b))
  | _, _ => .st
def rOrd (f : Int → Int → Bool) (g : Str → Str → Bool) : R2 := fun x y H Q => (∃ i j, x = .int i ∧ y = .int j ∧ Q (.bl (f i j)) H) ∨ ∃ i j, x = .str i ∧ y = .str j ∧ Q (.bl (g i j)) H
def rLtU : R2 := rOrd (fun i j => decide (i < j)) strLt
def rLeU : R2 := rOrd (fun i j => decide (i ≤ j)) fun i j => !strLt j i
def rGtU : R2 := rOrd (fun i j => decide (j < i)) fun i j => strLt j i
def rGeU : R2 := rOrd (fun i j => decide (j ≤ i)) fun i j => !strLt i j
theorem op_ltU {X : Cx} : OpR X (compareOp .Lt) rLtU := OpR.or op_lt op_lt_str
theorem op_leU {X : Cx} : OpR X (compareOp .LtE) rLeU := OpR.or op_le op_le_str
theorem op_gtU {X : Cx} : OpR X (compareOp .Gt) rGtU := OpR.or op_gt op_gt_str
theorem op_geU {X : Cx} : OpR X (compareOp .GtE) rGeU := OpR.or op_ge op_ge_str
instance opX_lt : OpX K rLtU ltD where
  ok := fun {H v u d e Q z} rv ru h k => by
    unfold ltD at h
    split at h <;> first | cases h | skip
    · cases rv; cases ru; exact .inl ⟨_, _, rfl, rfl, k _ fun S => .bl _⟩
    · cases rv; cases ru; exact .inr ⟨_, _, rfl, rfl, k _ fun S => .bl _⟩
  ex := fun h => by unfold ltD at h; split at h <;> cases h
instance opX_le : OpX K rLeU leD where
  ok := fun {H v u d e Q z} rv ru h k => by
    unfold leD at h
    split at h <;> first | cases h | skip
    · cases rv; cases ru; exact .inl ⟨_, _, rfl, rfl, k _ fun S => .bl _⟩
    · cases rv; cases ru; exact .inr ⟨_, _, rfl, rfl, k _ fun S => .bl _⟩
  ex := fun h => by unfold leD at h; split at h <;> cases h
instance opX_gt : OpX K rGtU gtD where
  ok := fun {H v u d e Q z} rv ru h k => by
    unfold gtD at h
    split at h <;> first | cases h | skip
    · cases rv; cases ru; exact .inl ⟨_, _, rfl, rfl, k _ fun S => .bl _⟩
    · cases rv; cases ru; exact .inr ⟨_, _, rfl, rfl, k _ fun S => .bl _⟩
  ex := fun h => by unfold gtD at h; split at h <;> cases h
instance opX_ge : OpX K rGeU geD where
  ok := fun {H v u d e Q z} rv ru h k => by
    unfold geD at h
    split at h <;> first | cases h | skip
    · cases rv; cases ru; exact .inl ⟨_, _, rfl, rfl, k _ fun S => .bl _⟩
    · cases rv; cases ru; exact .inr ⟨_, _, rfl, rfl, k _ fun S => .bl _⟩
  ex := fun h => by unfold geD at h; split at h <;> cases h

/-! ### is None -/
def isNonD : D → Bool
  | .non => true
  | _ => false
def isD (a b : D) : Res D := match b with
  | .non => .ok (.bl (isNonD a))
  | _ => .st
def isntD (a b : D) : Res D := match b with
  | .non => .ok (.bl (!isNonD a))
  | _ => .st
theorem isNon_rep {H : Hp} {v : V} {d : D} (r : Rep K H v d) : decide (v = .non) = isNonD d := by
  cases r <;> simp [isNonD]
instance opX_is : OpX K rIsN isD where
  ok := fun {H v u d e Q z} rv ru h k => by
    unfold isD at h
    split at h
    · cases h
      cases ru
      exact ⟨rfl, by rw [isNon_rep rv]; exact k _ fun S => .bl _⟩
    · cases h
  ex := fun h => by unfold isD at h; split at h <;> cases h
instance opX_isnt : OpX K rNotN isntD where
  ok := fun {H v u d e Q z} rv ru h k => by
    unfold isntD at h
    split at h
    · cases h
      cases ru
      exact ⟨rfl, by rw [isNon_rep rv]; exact k _ fun S => .bl _⟩
    · cases h
  ex := fun h => by unfold isntD at h; split at h <;> cases h

/-! ### numbers, and what is put together -/
def big60 : Int := 10 ^ 60
def subD : D → D → Res D
  | .int a, .int b => .ok (.int (a - b))
  | _, _ => .st
def modD : D → D → Res D
  | .int a, .int b => if 0 < b then .ok (.int (a % b)) else .st
  | _, _ => .st
def fdivD : D → D → Res D
  | .int a, .int b => if 0 < b ∧ b < big60 then .ok (.int (a / b)) else .st
  | _, _ => .st
def powD : D → D → Res D
  | .int a, .int b => if 0 ≤ b ∧ b ≤ 1000000 ∧ -(2 ^ 64) < a ∧ a < 2 ^ 64 then .ok (.int (a ^ b.toNat)) else .st
  | _, _ => .st
def rSubI : R2 := rI0 fun i j => .int (i - j)
def rModI : R2 := rI (fun _ j => 0 < j) fun i j => .int (i % j)
def rFdivI : R2 := rI CDivW fun i j => .int (i / j)
def rPowI : R2 := rI CPow fun i j => .int (i ^ j.toNat)
theorem op_subI {X : Cx} : OpR X (binaryOp .Sub) rSubI := op_sub
theorem op_modI {X : Cx} : OpR X (binaryOp .Mod) rModI := op_mod
theorem op_fdivI {X : Cx} : OpR X (binaryOp .FloorDiv) rFdivI := op_fdivW
theorem op_powI {X : Cx} : OpR X (binaryOp .Pow) rPowI := op_pow
instance opX_sub : OpX K rSubI subD where
  ok := fun {H v u d e Q z} rv ru h k => by
    unfold subD at h
    split at h <;> first | cases h | skip
    cases rv; cases ru; exact ⟨_, _, rfl, rfl, k _ fun S => .int _⟩
  ex := fun h => by unfold subD at h; split at h <;> cases h
instance opX_mod : OpX K rModI modD where
  ok := fun {H v u d e Q z} rv ru h k => by
    unfold modD at h
    split at h <;> first | cases h | skip
    split at h
    · rename_i hc
      cases h; cases rv; cases ru; exact ⟨_, _, rfl, rfl, hc, k _ fun S => .int _⟩
    · cases h
  ex := fun h => by unfold modD at h; split at h <;> first | (split at h <;> cases h) | cases h
theorem fdiv_wide {j : Int} (h : 0 < j ∧ j < big60) : CDivW i j := by
  refine wide_div (b := 200) h.1 ?_ (by decide) (by decide)
  have h2 : j < 2 ^ 200 := Int.lt_trans h.2 (by decide +kernel)
  have : (j.natAbs : Int) < ((2 ^ 200 : Nat) : Int) := by
    rw [Int.natAbs_of_nonneg (Int.le_of_lt h.1)]
    exact_mod_cast h2
  exact_mod_cast this
instance opX_fdiv : OpX K rFdivI fdivD where
  ok := fun {H v u d e Q z} rv ru h k => by
    unfold fdivD at h
    split at h <;> first | cases h | skip
    split at h
    · rename_i hc
      cases h; cases rv; cases ru; exact ⟨_, _, rfl, rfl, fdiv_wide hc, k _ fun S => .int _⟩
    · cases h
  ex := fun h => by unfold fdivD at h; split at h <;> first | (split at h <;> cases h) | cases h
instance opX_pow : OpX K rPowI powD where
  ok := fun {H v u d e Q z} rv ru h k => by
    unfold powD at h
    split at h <;> first | cases h | skip
    split at h
    · rename_i hc
      cases h; cases rv; cases ru; exact ⟨_, _, rfl, rfl, ⟨hc.1, hc.2.1, by omega⟩, k _ fun S => .int _⟩
    · cases h
  ex := fun h => by unfold powD at h; split at h <;> first | (split at h <;> cases h) | cases h
def negD : D → Res D
  | .int a => .ok (.int (-a))
  | _ => .st
def addD : D → D → Res W
  | .int a, .int b => .ok (.sh (.int (a + b)))
  | .str a, .str b => if small (a.length + b.length) then .ok (.sh (.str (a ++ b))) else .st
  | .lst a, .lst b => if small (a.length + b.length) then .ok (.lst (a ++ b)) else .st
  | .tup a, .tup b => if small (a.length + b.length) && !a.isEmpty && !b.isEmpty then .ok (.sh (.tup (a ++ b))) else .st
  | _, _ => .st
def rAddS : R2 := fun x y H Q => ∃ i j, x = .str i ∧ y = .str j ∧ i.length + j.length ≤ sizeLine ∧ Q (.str (i ++ j)) H
def rAddU (K : PySem.W.Frag) : R2 := fun x y H Q => rI0 (fun i j => .int (i + j)) x y H Q ∨ rAddS x y H Q ∨ rCat x y H Q ∨ rCatT K x y H Q
theorem op_addU {X : Cx} : OpR X (binaryOp .Add) (rAddU X.K) := OpR.or op_add (OpR.or op_add_str (OpR.or op_cat op_catT))
theorem small_le {n : Nat} (h : small n = true) : n ≤ sizeLine := Nat.le_of_lt (small_line h)
instance opV_add : OpV K (rAddU K) addD where
  ok := fun {S H v u d e Q w} hs rv ru h k => by
    unfold addD at h
    split at h <;> first | cases h | skip
    · cases rv.int_inv; cases ru.int_inv
      exact .inl ⟨_, _, rfl, rfl, k _ S H [] (.sh (.refl hs) (.int _))⟩
    · split at h <;> first | cases h | skip
      rename_i hz
      cases rv.str_inv; cases ru.str_inv
      exact .inr (.inl ⟨_, _, rfl, rfl, small_le hz, k _ S H [] (.sh (.refl hs) (.str _))⟩)
    · split at h <;> first | cases h | skip
      rename_i a b hz
      obtain ⟨p, vs, rfl, hp, r1⟩ := rv.lst_inv hs
      obtain ⟨q, us, rfl, hq, r2⟩ := ru.lst_inv hs
      exact .inr (.inr (.inl ⟨_, _, _, _, rfl, rfl, hp, hq, by rw [r1.len, r2.len]; exact small_le hz, fun l hl => k _ S _ _ (.lst (.refl hs) (hs.free hl) hl (r1.app r2))⟩))
    · split at h <;> first | cases h | skip
      rename_i a b hz
      simp only [Bool.and_eq_true, Bool.not_eq_true', List.isEmpty_eq_false_iff] at hz
      obtain ⟨p, vs, rfl, hp, r1⟩ := rv.tup_inv
      obtain ⟨q, us, rfl, hq, r2⟩ := ru.tup_inv
      have n1 : vs ≠ [] := fun z => by subst z; cases r1; exact hz.1.2 rfl
      have n2 : us ≠ [] := fun z => by subst z; cases r2; exact hz.2 rfl
      exact .inr (.inr (.inr ⟨_, _, _, _, rfl, rfl, SqT.of (hs _ _ hp), SqT.of (hs _ _ hq), n1, by rw [r1.len, r2.len]; exact small_le hz.1.1, fun z => (n2 z).elim, fun _ l hl => k _ _ _ _ (.tup (.refl hs) hl (r1.app r2))⟩))
  ex := fun h => by
    unfold addD at h
    split at h <;> first | (split at h <;> cases h) | cases h
def mulD : D → D → Res W
  | .int a, .int b => if (-(2 ^ 64) < a ∧ a < 2 ^ 64) ∨ (-(2 ^ 64) < b ∧ b < 2 ^ 64) then .ok (.sh (.int (a * b))) else .st
  | .lst a, .int k => if small (a.length * k.toNat) && decide (-1000000 ≤ k) && decide (k ≤ 1000000) then .ok (.lst (List.replicate k.toNat a).flatten) else .st
  | .str a, .int k => if decide (0 ≤ k) && decide (k ≤ 1000) && decide (a.length ≤ 1000) then .ok (.sh (.str ⟨(List.replicate k.toNat a.cps.toList).flatten.toArray⟩)) else .st
  | _, _ => .st
theorem Reps.flat {S : Hp} {vs : List V} {ds : List D} (r : Reps K S vs ds) : ∀ n : Nat, Reps K S (List.replicate n vs).flatten (List.replicate n ds).flatten
  | 0 => .nil
  | n + 1 => by
    rw [List.replicate_succ, List.replicate_succ, List.flatten_cons, List.flatten_cons]
    exact r.app (Reps.flat r n)
end
end Ly

set_option Elab.async false
set_option linter.all false
set_option maxRecDepth 100000
namespace Ly
open PySem L2

theorem foldl_app (xs : List (Array Nat)) : ∀ acc : Array Nat, (xs.foldl (· ++ ·) acc).toList = acc.toList ++ (xs.map Array.toList).flatten := by
  induction xs with
  | nil => intro acc; simp
  | cons a xs ih => intro acc; rw [List.foldl_cons, ih]; simp
theorem rep_str (x : Str) (n : Nat) : (⟨(List.replicate n x.cps).foldl (· ++ ·) #[]⟩ : Str) = ⟨(List.replicate n x.cps.toList).flatten.toArray⟩ := by
  congr 1
  apply Array.ext'
  rw [foldl_app]
  simp
def rMulS : R2 := fun x y H Q => ∃ z k, x = .str z ∧ y = .int k ∧ 0 ≤ k ∧ k ≤ 1000 ∧ z.length ≤ 1000 ∧ Q (.str ⟨(List.replicate k.toNat z.cps.toList).flatten.toArray⟩) H
theorem op_mulS {X : Cx} : OpR X (binaryOp .Mult) rMulS := by
  intro pins s σ H x y v u Q I rx ry h
  obtain ⟨z, k, rfl, rfl, h0, h1, hz, q⟩ := h
  obtain ⟨t, rfl⟩ := rx
  obtain ⟨t', rfl⟩ := ry
  have hl : z.length * k.toNat ≤ 1000000 := Nat.mul_le_mul hz (by omega : k.toNat ≤ 1000)
  refine PySem.P.mul_str ?_ ?_ ?_ ?_
  · rw [decide_eq_false (by omega), decide_eq_false (by omega)]; rfl
  · intro hk _ hh
    have e1 : (k - 1000) * ((2 ^ 63 - 1) / k) ≤ 0 := Int.mul_nonpos_of_nonpos_of_nonneg (by omega) (Int.ediv_nonneg (by decide) (by omega))
    have e2 := Int.emod_add_mul_ediv (2 ^ 63 - 1) k
    have e3 := Int.emod_lt_of_pos (2 ^ 63 - 1) (by omega : 0 < k)
    rw [Int.sub_mul] at e1
    omega
  · intro _ _
    unfold Builtin.Str.tooLong
    have : sizeLine = 16777216 := sizeLine_eq
    exact decide_eq_false (by omega)
  · split
    · rename_i hk
      have : k = 0 := by omega
      subst this
      exact ⟨by decide, .str _, H, I.tok _, ⟨_, rfl⟩, q⟩
    · split
      · rename_i h2
        simp only [Bool.or_eq_true, beq_iff_eq] at h2
        have e : (⟨(List.replicate k.toNat z.cps.toList).flatten.toArray⟩ : Str) = z := by
          rcases h2 with h2 | h2
          · subst h2
            have : (1 : Int).toNat = 1 := rfl
            rw [this]
            simp
          · have : z.cps = #[] := Array.eq_empty_of_size_eq_zero h2
            obtain ⟨c⟩ := z
            have : c = #[] := this
            subst this
            simp
        rw [e] at q
        exact ⟨.str _, H, I, ⟨_, rfl⟩, q⟩
      · rw [rep_str]
        refine ⟨?_, .str _, H, I.tok _, ⟨_, rfl⟩, q⟩
        show (List.replicate k.toNat z.cps.toList).flatten.toArray.size ≤ sizeLine
        have : sizeLine = 16777216 := sizeLine_eq
        have : (List.replicate k.toNat z.cps.toList).flatten.toArray.size = z.length * k.toNat := by
          simp [List.length_flatten, Str.length, Nat.mul_comm]
        omega

def rMulU (K : PySem.W.Frag) : R2 := fun x y H Q => rI CMul (fun i j => .int (i * j)) x y H Q ∨ rRep x y H Q ∨ rMulS x y H Q
theorem op_mulU {X : Cx} : OpR X (binaryOp .Mult) (rMulU X.K) := OpR.or op_mul (OpR.or op_rep op_mulS)
section
variable {K : PySem.W.Frag}
instance opV_mul : OpV K (rMulU K) mulD where
  ok := fun {S H v u d e Q w} hs rv ru h k => by
    unfold mulD at h
    split at h <;> first | cases h | skip
    · split at h <;> first | cases h | skip
      rename_i hc
      cases rv.int_inv; cases ru.int_inv
      exact .inl ⟨_, _, rfl, rfl, hc, k _ S H [] (.sh (.refl hs) (.int _))⟩
    · split at h <;> first | cases h | skip
      rename_i a z hz
      simp only [Bool.and_eq_true, decide_eq_true_eq] at hz
      obtain ⟨p, vs, rfl, hp, r1⟩ := rv.lst_inv hs
      cases ru.int_inv
      exact .inr (.inl ⟨_, _, _, rfl, rfl, hp, by omega, by omega, by rw [r1.len]; exact small_le hz.1.1, fun l hl => k _ S _ _ (.lst (.refl hs) (hs.free hl) hl (r1.flat _))⟩)
    · split at h <;> first | cases h | skip
      rename_i hz
      simp only [Bool.and_eq_true, decide_eq_true_eq] at hz
      cases rv.str_inv; cases ru.int_inv
      exact .inr (.inr ⟨_, _, rfl, rfl, hz.1.1, hz.1.2, hz.2, k _ S H [] (.sh (.refl hs) (.str _))⟩)
  ex := fun h => by
    unfold mulD at h
    split at h <;> first | (split at h <;> cases h) | cases h

/-! ### in -/
def flatD : D → Bool
  | .non => true | .bl _ => true | .int _ => true | .str _ => true
  | _ => false
/-- == of flat data -/
def eqF : D → D → Bool
  | .non, .non => true
  | .bl a, .bl b => a == b
  | .bl a, .int b => (if a then 1 else 0) == b
  | .int a, .bl b => a == (if b then 1 else 0)
  | .int a, .int b => a == b
  | .str a, .str b => a == b
  | _, _ => false
theorem flat_rep {S : Hp} {v : V} {d : D} (r : Rep K S v d) (h : flatD d = true) : flatV v = true := by
  cases r <;> first | rfl | cases h
theorem eqF_rep {S T : Hp} {v u : V} {d e : D} (r : Rep K S v d) (q : Rep K T u e) (h : flatD d = true) (h' : flatD e = true) : eqV v u = eqF d e := by
  cases r <;> first | cases h | skip
  all_goals (cases q <;> first | rfl | cases h')
theorem flats_rep {S : Hp} : ∀ {vs : List V} {ds : List D}, Reps K S vs ds → ds.all flatD = true → vs.all flatV = true
  | _, _, .nil, _ => rfl
  | _, _, .cons r t, h => by
    rw [List.all_cons, Bool.and_eq_true] at h ⊢
    exact ⟨flat_rep r h.1, flats_rep t h.2⟩
theorem any_rep {S T : Hp} {x : V} {d : D} (rx : Rep K T x d) (hx : flatD d = true) : ∀ {vs : List V} {ds : List D}, Reps K S vs ds → ds.all flatD = true → inV x vs = ds.any fun y => eqF y d
  | _, _, .nil, _ => rfl
  | _, _, .cons r t, h => by
    rw [List.all_cons, Bool.and_eq_true] at h
    unfold inV
    rw [List.any_cons, List.any_cons, eqF_rep r rx h.1 hx]
    congr 1
    exact any_rep rx hx t h.2
def toK : D → Option Key
  | .int i => some (.inl i)
  | .str x => some (.inr x)
  | _ => none
def toKs : List D → Option (List Key)
  | [] => some []
  | d :: ds => (toK d).bind fun k => (toKs ds).map fun ks => k :: ks
theorem toK_rep {S : Hp} {v : V} {d : D} {k : Key} (r : Rep K S v d) (h : toK d = some k) : v = kV k := by
  cases r <;> cases h <;> rfl
theorem toKs_rep {S : Hp} : ∀ {vs : List V} {ds : List D} {ks : List Key}, Reps K S vs ds → toKs ds = some ks → vs = ks.map kV
  | _, _, _, .nil, h => by cases h; rfl
  | _, _, _, .cons r t, h => by
    unfold toKs at h
    obtain ⟨k, h1, h⟩ := Option.bind_eq_some_iff.mp h
    obtain ⟨ks, h2, rfl⟩ := Option.map_eq_some_iff.mp h
    rw [toK_rep r h1, toKs_rep t h2]
    rfl
def dlook {κ : Type} [DecidableEq κ] (ks : List κ) (xs : List D) (k : κ) : Option D := ((ks.zip xs).find? fun p => decide (p.1 = k)).map (·.2)
theorem dlook_rep {κ : Type} [DecidableEq κ] {S : Hp} {k : κ} : ∀ {ks : List κ} {vs : List V} {xs : List D}, Reps K S vs xs → (valV (ks.zip vs) k = none ∧ dlook ks xs k = none) ∨ ∃ v d, valV (ks.zip vs) k = some v ∧ dlook ks xs k = some d ∧ Rep K S v d
  | [], vs, xs, _ => .inl ⟨by simp [valV], by simp [dlook]⟩
  | c :: ks, _, _, .nil => .inl ⟨by simp [valV], by simp [dlook]⟩
  | c :: ks, _, _, .cons (v := v) (d := d) r t => by
    by_cases e : c = k
    · exact .inr ⟨v, d, by simp [valV, e], by simp [dlook, e], r⟩
    · rcases dlook_rep (k := k) (ks := ks) t with ⟨h1, h2⟩ | ⟨v', d', h1, h2, h3⟩
      · refine .inl ⟨?_, ?_⟩
        · rw [← h1]; simp [valV, e]
        · rw [← h2]; simp [dlook, e]
      · refine .inr ⟨v', d', ?_, ?_, h3⟩
        · rw [← h1]; simp [valV, e]
        · rw [← h2]; simp [dlook, e]
/-- the items of what is a sequence -/
def seqD : D → Option (List D)
  | .lst xs => some xs
  | .tup xs => some xs
  | .ktup xs => some xs
  | .scr ns => some (ns.map D.int)
  | _ => none
theorem seqD_rep {H : Hp} {v : V} {d : D} {xs : List D} (r : Rep K H v d) (h : seqD d = some xs) : ∃ p vs, v = .ref p ∧ (SqL K H p vs ∨ SqT K H p vs) ∧ Reps K H vs xs := by
  cases r with
  | lst e q => cases h; exact ⟨_, _, rfl, .inl (SqL.of e), q⟩
  | tup e q => cases h; exact ⟨_, _, rfl, .inr (SqT.of e), q⟩
  | ktup e q => cases h; exact ⟨_, _, rfl, .inr e, q⟩
  | scr e => cases h; exact ⟨_, _, rfl, .inl e, Reps.ints _⟩
  | _ => cases h
def inD (x y : D) : Res Bool := match y with
  | .str z => match x with
    | .str a => match a.cps.toList with
      | [c] => .ok (decide (c ∈ z.cps.toList))
      | _ => .st
    | _ => .st
  | .dic ks xs => match toK x with
    | some k => .ok (dlook ks xs k).isSome
    | none => .st
  | .dit ks xs => match x with
    | .tup ds => match toKs ds with
      | some k => .ok (dlook ks xs k).isSome
      | none => .st
    | _ => .st
  | y => match seqD y with
    | some ds => if flatD x && ds.all flatD then .ok (ds.any fun y => eqF y x) else match y with
      | .lst ds => if SeqAt.shaped (toP x) && SeqAt.shaped (.list (toPs ds)) then .ok ((toPs ds).any fun z => PyData.eqv z (toP x)) else .st
      | _ => .st
    | none => .st
def rDIn (neg : Bool) : R2 := fun y x H Q => ∃ a o, x = .ref a ∧ DGet H a y o ∧ Q (.bl (if neg then !o.isSome else o.isSome)) H
theorem op_dIn {X : Cx} (hu : X.A.units + 1 < cLine) : OpR X (compareOp .In) (rDIn false) := by
  intro pins s σ H x y v u Q I rx ry h
  obtain ⟨a, o, rfl, g, q⟩ := h
  cases ry
  exact d_in hu I g rx fun s' I' => ⟨.bl _, H, I', rfl, q⟩
theorem op_dNotIn {X : Cx} (hu : X.A.units + 1 < cLine) : OpR X (compareOp .NotIn) (rDIn true) := by
  intro pins s σ H x y v u Q I rx ry h
  obtain ⟨a, o, rfl, g, q⟩ := h
  cases ry
  exact d_notIn hu I g rx fun s' I' => ⟨.bl _, H, I', rfl, q⟩
def rInU (K : PySem.W.Frag) : R2 := fun x y H Q => rInS x y H Q ∨ rDIn false x y H Q ∨ rIn K false x y H Q ∨ rInD K x y H Q
def rNotInU (K : PySem.W.Frag) : R2 := fun x y H Q => rNotInS x y H Q ∨ rDIn true x y H Q ∨ rIn K true x y H Q ∨ rNotInD K x y H Q
theorem op_inU {X : Cx} (hu : X.A.units + 65 < cLine) : OpR X (compareOp .In) (rInU X.K) := OpR.or op_inS (OpR.or (op_dIn (by omega)) (OpR.or op_in_seq (op_inD hu)))
theorem op_notInU {X : Cx} (hu : X.A.units + 65 < cLine) : OpR X (compareOp .NotIn) (rNotInU X.K) := OpR.or op_notInS (OpR.or (op_dNotIn (by omega)) (OpR.or op_notIn_seq (op_notInD hu)))
theorem inD_ok {H : Hp} {x y : V} {d e : D} {b : Bool} (rx : Rep K H x d) (ry : Rep K H y e) (h : inD d e = .ok b) :
    (∃ (c : Nat) (z : Str), x = .str ⟨#[c]⟩ ∧ y = .str z ∧ b = decide (c ∈ z.cps.toList)) ∨ (∃ a o, y = .ref a ∧ DGet H a x o ∧ b = o.isSome) ∨
    (∃ p xs, y = .ref p ∧ (SqL K H p xs ∨ SqT K H p xs) ∧ flatV x = true ∧ xs.all flatV = true ∧ b = inV x xs) ∨
    ∃ d ds, Dp K H x d ∧ Dp K H y (.list ds) ∧ SeqAt.shaped d = true ∧ SeqAt.shaped (.list ds) = true ∧ b = ds.any fun z => PyData.eqv z d := by
  unfold inD at h
  split at h
  · rename_i z
    split at h <;> first | cases h | skip
    rename_i a
    split at h <;> first | cases h | skip
    rename_i c hc
    cases rx; cases ry
    refine .inl ⟨c, z, ?_, rfl, rfl⟩
    obtain ⟨⟨l⟩⟩ := a
    simp only at hc
    subst hc
    rfl
  · rename_i ks xs
    split at h <;> first | cases h | skip
    rename_i k hk
    cases ry with
    | dic e l q =>
      refine .inr (.inl ⟨_, _, rfl, .inl ⟨_, k, .inl e, toK_rep rx hk, rfl⟩, ?_⟩)
      rcases dlook_rep (k := k) (ks := ks) q with ⟨h1, h2⟩ | ⟨v', d', h1, h2, _⟩
      · rw [h1, h2]; rfl
      · rw [h1, h2]; rfl
  · rename_i ks xs
    split at h <;> first | cases h | skip
    rename_i ds
    split at h <;> first | cases h | skip
    rename_i k hk
    cases ry with
    | dit e l q =>
      cases rx with
      | tup e2 q2 =>
        refine .inr (.inl ⟨_, _, rfl, .inr ⟨_, k, _, .inl e, rfl, by rw [e2, toKs_rep q2 hk], rfl⟩, ?_⟩)
        rcases dlook_rep (k := k) (ks := ks) q with ⟨h1, h2⟩ | ⟨v', d', h1, h2, _⟩
        · rw [h1, h2]; rfl
        · rw [h1, h2]; rfl
  · split at h
    · rename_i ds hs
      split at h
      · rename_i hf
        cases h
        simp only [Bool.and_eq_true] at hf
        obtain ⟨p, vs, rfl, hq, r⟩ := seqD_rep ry hs
        exact .inr (.inr (.inl ⟨p, vs, rfl, hq, flat_rep rx hf.1, flats_rep r hf.2, (any_rep rx hf.1 r hf.2).symm⟩))
      · split at h
        · rename_i ds' _ _ _
          split at h
          · rename_i hsh
            cases h
            simp only [Bool.and_eq_true] at hsh
            have : toP (.lst ds') = .list (toPs ds') := by unfold toP; rfl
            exact .inr (.inr (.inr ⟨_, _, rx.dpS hsh.1, by rw [← this]; exact ry.dpS (by rw [this]; exact hsh.2), hsh.1, hsh.2, rfl⟩))
          · cases h
        · cases h
    · cases h
theorem inD_ex {d e : D} {x : Xc} (h : inD d e = .ex x) : False := by
  unfold inD at h
  repeat' split at h
  all_goals cases h
def inB (a b : D) : Res D := (inD a b).map .bl
def notInB (a b : D) : Res D := (inD a b).map fun t => .bl (!t)
instance opX_in : OpX K (rInU K) inB where
  ok := fun {H v u d e Q z} rv ru h k => by
    obtain ⟨t, h1, rfl⟩ := Res.of_okm h
    rcases inD_ok rv ru h1 with ⟨c, z, rfl, rfl, e⟩ | ⟨a, o, rfl, g, e⟩ | ⟨p, xs, rfl, hq, f1, f2, e⟩ | ⟨d, ds, h1, h2, s1, s2, e⟩
    · exact .inl ⟨c, z, rfl, rfl, by rw [← e]; exact k _ fun S => .bl _⟩
    · exact .inr (.inl ⟨a, o, rfl, g, by rw [if_neg Bool.false_ne_true, ← e]; exact k _ fun S => .bl _⟩)
    · exact .inr (.inr (.inl ⟨p, xs, rfl, hq, f1, f2, by rw [if_neg Bool.false_ne_true, ← e]; exact k _ fun S => .bl _⟩))
    · exact .inr (.inr (.inr ⟨d, ds, h1, h2, s1, s2, by rw [← e]; exact k _ fun S => .bl _⟩))
  ex := fun h => inD_ex (Res.of_exm h)
instance opX_notIn : OpX K (rNotInU K) notInB where
  ok := fun {H v u d e Q z} rv ru h k => by
    obtain ⟨t, h1, rfl⟩ := Res.of_okm h
    rcases inD_ok rv ru h1 with ⟨c, z, rfl, rfl, e⟩ | ⟨a, o, rfl, g, e⟩ | ⟨p, xs, rfl, hq, f1, f2, e⟩ | ⟨d, ds, h1, h2, s1, s2, e⟩
    · exact .inl ⟨c, z, rfl, rfl, by rw [← e]; exact k _ fun S => .bl _⟩
    · exact .inr (.inl ⟨a, o, rfl, g, by rw [if_pos rfl, ← e]; exact k _ fun S => .bl _⟩)
    · exact .inr (.inr (.inl ⟨p, xs, rfl, hq, f1, f2, by rw [if_pos rfl, ← e]; exact k _ fun S => .bl _⟩))
    · exact .inr (.inr (.inr ⟨d, ds, h1, h2, s1, s2, by rw [← e]; exact k _ fun S => .bl _⟩))
  ex := fun h => inD_ex (Res.of_exm h)

/-! ### a < b < c -/
variable {E : XK} {ta tb tc : TE} {Fa Fb Fc : List Nat} {ma mb mc : En → Res D}
def mChain (f g : D → D → Res D) (ma mb mc : En → Res D) : En → Res W := fun e => (ma e).bind fun a => (mb e).bind fun b => (f a b).bind fun t => match t with
  | .bl true => (mc e).bind fun c => (g b c).map .sh
  | .bl false => .ok (.sh (.bl false))
  | _ => .st
instance semE_chain {r r' : R2} {f g : D → D → Res D} [ho : OpX K r f] [ho' : OpX K r' g] [ha : SemX K E ta Fa ma] [hb : SemX K E tb Fb mb] [hc : SemX K E tc Fc mc] : SemE K E (tChain r r' ta tb tc) (Fa ++ Fb ++ Fc) (mChain f g ma mb mc) where
  ok := fun {env σ S H Q w} x e k => by
    obtain ⟨a, e1, e⟩ := Res.of_ok e
    obtain ⟨b, e2, e⟩ := Res.of_ok e
    obtain ⟨t, e3, e⟩ := Res.of_ok e
    refine ha.ok x e1 fun v H1 g1 r1 => ?_
    have y1 := Gr.hp x.sub g1
    refine hb.ok (x.gr y1) e2 fun u H2 g2 r2 => ?_
    have y2 := y1.trans (Gr.hp y1.sub g2)
    refine ho.ok (r1.up g2) r2 e3 fun z hz => ?_
    split at e
    · obtain ⟨c, e4, e⟩ := Res.of_ok e
      obtain ⟨z2, e5, rfl⟩ := Res.of_okm e
      cases hz H2
      refine ⟨true, rfl, iteT ?_⟩
      refine hc.ok (x.gr y2) e4 fun w' H3 g3 r3 => ?_
      exact ho'.ok (r2.up g3) r3 e5 fun y h => k y S H3 [] (.sh (y2.trans (.hp y2.sub g3)) (h S))
    · cases e
      cases hz H2
      exact ⟨false, rfl, iteF (k _ S H2 [] (.sh y2 (.bl false)))⟩
    · cases e
  ex := fun {env σ S H Q w} x e k => by
    rcases Res.of_ex e with e1 | ⟨a, e1, e⟩
    · exact ha.ex x e1 k
    refine ha.ok x e1 fun v H1 g1 r1 => ?_
    have y1 := Gr.hp x.sub g1
    rcases Res.of_ex e with e2 | ⟨b, e2, e⟩
    · exact hb.ex (x.gr y1) e2 fun c d H' s q => k c d H' (g1.trans s) q
    refine hb.ok (x.gr y1) e2 fun u H2 g2 r2 => ?_
    have y2 := y1.trans (Gr.hp y1.sub g2)
    rcases Res.of_ex e with e3 | ⟨t, e3, e⟩
    · exact (ho.ex e3).elim
    refine ho.ok (r1.up g2) r2 e3 fun z hz => ?_
    split at e
    · cases hz H2
      refine ⟨true, rfl, iteT ?_⟩
      rcases Res.of_ex e with e4 | ⟨c, e4, e⟩
      · exact hc.ex (x.gr y2) e4 fun c d H' s q => k c d H' (y2.hh.trans s) q
      · exact (ho'.ex (Res.of_exm e)).elim
    · cases e
    · cases e
end
end Ly

set_option Elab.async false
set_option linter.all false
set_option maxRecDepth 100000
namespace Ly
open PySem L2 PyProof.Rows

/-! ### subscripts -/
section
variable {K : PySem.W.Frag}
theorem ixN_get {n : Nat} {i : Int} {j : Nat} (h : ixN n i = some j) : j < n := by
  unfold ixN at h
  split at h
  · split at h
    · cases h; omega
    · cases h
  · split at h
    · cases h; omega
    · cases h
theorem atI_rep {S : Hp} {vs : List V} {ds : List D} {i : Int} {d : D} (r : Reps K S vs ds) (h : atI ds i = some d) : ∃ v, atI vs i = some v ∧ Rep K S v d := by
  unfold atI at h ⊢
  rw [r.len]
  obtain ⟨j, h1, h2⟩ := Option.bind_eq_some_iff.mp h
  obtain ⟨v, h3, h4⟩ := r.get h2
  exact ⟨v, by rw [h1]; exact h3, h4⟩
def ixD (a b : D) : Res W := match a, b with
  | .lst xs, .int i => match atI xs i with
    | some d => .ok (.sh d)
    | none => .st
  | .tup xs, .int i => match atI xs i with
    | some d => .ok (.sh d)
    | none => .st
  | .ktup xs, .int i => match atI xs i with
    | some d => .ok (.sh d)
    | none => .st
  | .scr ns, .int i => match atI ns i with
    | some n => .ok (.sh (.int n))
    | none => .st
  | .str z, .int i => if small z.length then match atI z.cps.toList i with
    | some c => .ok (.sh (.str ⟨#[c]⟩))
    | none => .st
    else .st
  | .dic ks xs, k => match toK k with
    | some k => match dlook ks xs k with
      | some d => .ok (.sh d)
      | none => .st
    | none => .st
  | .dit ks xs, .tup k => match toKs k with
    | some k => match dlook ks xs k with
      | some d => .ok (.sh d)
      | none => .st
    | none => .st
  | _, _ => .st
def rIxD : R2 := fun x y H Q => ∃ a v, x = .ref a ∧ DGet H a y (some v) ∧ Q v H
theorem ix_dict {X : Cx} (hu : X.A.units + 1 < cLine) : IxR X rIxD := by
  intro value slice pins s σ H x y v u Q I rx ry h hs
  obtain ⟨a, w, rfl, g, q⟩ := h
  cases rx
  exact tail_any (dict_typeIs I g) PySem.F.slot_dict_getitem.lookup (d_getItem hu I g ry fun w' s' I' r' => ⟨w, H, I', r', q⟩) hs
def rIxU (K : PySem.W.Frag) : R2 := fun x y H Q => rIx K x y H Q ∨ rIxD x y H Q
theorem ix_U {X : Cx} (hu : X.A.units + 1 < cLine) : IxR X (rIxU X.K) := IxR.or ix_seq (ix_dict hu)
theorem atI_map {α β : Type} (f : α → β) (xs : List α) (i : Int) : atI (xs.map f) i = (atI xs i).map f := by
  unfold atI
  rw [List.length_map]
  cases ixN xs.length i with
  | none => rfl
  | some j => simp
instance opV_ix : OpV K (rIxU K) ixD where
  ok := fun {S H v u d e Q w} hs rv ru h k => by
    unfold ixD at h
    split at h
    · split at h <;> first | cases h | skip
      rename_i xs i d hd
      obtain ⟨p, vs, rfl, hp, r⟩ := rv.lst_inv hs
      cases ru.int_inv
      obtain ⟨z, h1, h2⟩ := atI_rep r hd
      exact .inl (.inl ⟨_, _, _, _, rfl, rfl, SqL.of hp, h1, k _ S H [] (.sh (.refl hs) h2)⟩)
    · split at h <;> first | cases h | skip
      rename_i xs i d hd
      obtain ⟨p, vs, rfl, hp, r⟩ := rv.tup_inv
      cases ru.int_inv
      obtain ⟨z, h1, h2⟩ := atI_rep r hd
      exact .inl (.inr (.inl ⟨_, _, _, _, rfl, rfl, SqT.of (hs _ _ hp), h1, k _ S H [] (.sh (.refl hs) h2)⟩))
    · split at h <;> first | cases h | skip
      rename_i xs i d hd
      obtain ⟨p, vs, rfl, hp, r⟩ := rv.ktup_inv
      cases ru.int_inv
      obtain ⟨z, h1, h2⟩ := atI_rep r hd
      exact .inl (.inr (.inl ⟨_, _, _, _, rfl, rfl, sqT_up hs hp, h1, k _ S H [] (.sh (.refl hs) h2)⟩))
    · split at h <;> first | cases h | skip
      rename_i ns i n hd
      obtain ⟨p, rfl, hp⟩ := rv.scr_inv
      cases ru.int_inv
      exact .inl (.inl ⟨_, _, _, .int n, rfl, rfl, hs.seq hp, by rw [atI_map, hd]; rfl, k _ S H [] (.sh (.refl hs) (.int n))⟩)
    · split at h <;> first | cases h | skip
      rename_i z i hz
      split at h <;> first | cases h | skip
      rename_i c hc
      cases rv.str_inv; cases ru.int_inv
      exact .inl (.inr (.inr ⟨_, _, _, rfl, rfl, small_le hz, hc, k _ S H [] (.sh (.refl hs) (.str _))⟩))
    · rename_i ks xs
      split at h <;> first | cases h | skip
      rename_i key hk
      split at h <;> first | cases h | skip
      rename_i d hd
      obtain ⟨p, vs, rfl, hp, hl, r⟩ := rv.dic_inv hs
      rcases dlook_rep (k := key) (ks := ks) r with ⟨h1, h2⟩ | ⟨v', d', h1, h2, h3⟩
      · rw [hd] at h2; cases h2
      · rw [hd] at h2; cases h2
        exact .inr ⟨_, v', rfl, .inl ⟨_, key, .inl hp, toK_rep (ru.toX hs) hk, h1.symm⟩, k _ S H [] (.sh (.refl hs) h3)⟩
    · rename_i ks xs kk
      split at h <;> first | cases h | skip
      rename_i key hk
      split at h <;> first | cases h | skip
      rename_i d hd
      obtain ⟨p, vs, rfl, hp, hl, r⟩ := rv.dit_inv hs
      obtain ⟨q, us, rfl, hq, r2⟩ := ru.tup_inv
      rcases dlook_rep (k := key) (ks := ks) r with ⟨h1, h2⟩ | ⟨v', d', h1, h2, h3⟩
      · rw [hd] at h2; cases h2
      · rw [hd] at h2; cases h2
        exact .inr ⟨_, v', rfl, .inr ⟨_, key, _, .inl hp, rfl, by rw [hs _ _ hq, toKs_rep r2 hk], h1.symm⟩, k _ S H [] (.sh (.refl hs) h3)⟩
    · cases h
  ex := fun h => by
    unfold ixD at h
    repeat' split at h
    all_goals cases h

/-! ### slices -/
class SemO (K : PySem.W.Frag) (E : XK) (t : TO) (F : outParam (List Nat)) (m : outParam (En → Res (Option Int))) : Prop where
  ok : ∀ {env σ S H Q o}, Vw K env σ S H → m env = .ok o → (∀ H', Same H H' → Q o H') → t σ H Q
  ex : ∀ {env σ S H Q x}, Vw K env σ S H → m env = .ex x → (∀ cls d H', Same H H' → XR K x cls d H' → E cls d H') → t σ H Q
def mNoPart : En → Res (Option Int) := fun _ => .ok none
def mPart (m : En → Res D) : En → Res (Option Int) := fun e => (m e).bind fun d => match d with
  | .int i => .ok (some i)
  | _ => .st
instance semO_none {E : XK} : SemO K E tNoPart [] mNoPart where
  ok := fun x e k => by cases e; exact k _ (Same.refl _)
  ex := fun x e k => by cases e
instance semO_some {E : XK} {ta : TE} {Fa : List Nat} {ma : En → Res D} [ha : SemX K E ta Fa ma] : SemO K E (tPart ta) Fa (mPart ma) where
  ok := fun {env σ S H Q o} x e k => by
    obtain ⟨d, e1, e2⟩ := Res.of_ok e
    split at e2
    · cases e2
      exact ha.ok x e1 fun v H' g r => by cases r; exact ⟨_, rfl, k H' g⟩
    · cases e2
  ex := fun {env σ S H Q o} x e k => by
    rcases Res.of_ex e with e1 | ⟨d, e1, e2⟩
    · exact ha.ex x e1 k
    · split at e2 <;> cases e2
def cutD {α : Type} (xs : List α) (lo hi : Option Int) : List α := (xs.drop (HT.sIx xs.length 0 lo)).take (HT.sIx xs.length xs.length hi - HT.sIx xs.length 0 lo)
theorem cut_rep {S : Hp} {vs : List V} {ds : List D} (r : Reps K S vs ds) (lo hi : Option Int) : Reps K S (cutV vs lo hi) (cutD ds lo hi) := by
  unfold cutV cutD
  rw [r.len]
  exact (r.drop _).take _
theorem cut_map {α β : Type} (f : α → β) (xs : List α) (lo hi : Option Int) : cutD (xs.map f) lo hi = (cutD xs lo hi).map f := by
  unfold cutD
  rw [List.length_map, List.map_take, List.map_drop]
def slD (a : D) (lo hi : Option Int) : Res W := match a with
  | .lst xs => .ok (.lst (cutD xs lo hi))
  | .scr ns => .ok (.lst ((cutD ns lo hi).map D.int))
  | .tup xs => if HT.sIx xs.length 0 lo = 0 ∧ HT.sIx xs.length xs.length hi = xs.length then .st else .ok (.sh (.tup (cutD xs lo hi)))
  | .str z => if small z.length then .ok (.sh (.str (cutS z lo hi))) else .st
  | _ => .st
def rSlU (K : PySem.W.Frag) : V → Option Int → Option Int → Hp → VK → Prop := fun x lo hi H Q => rSlL K x lo hi H Q ∨ rSlT K x lo hi H Q ∨ rSlS x lo hi H Q
theorem sl_U {X : Cx} : SlR X (rSlU X.K) := SlR.or sl_list (SlR.or sl_tup sl_str)
def mSl (ma : En → Res D) (ml mh : En → Res (Option Int)) : En → Res W := fun e => (ma e).bind fun a => (ml e).bind fun l => (mh e).bind fun h => slD a l h
theorem slD_ok {S H : Hp} {v : V} {a : D} {lo hi : Option Int} {w : W} {Q : VK} (hs : Same S H) (rv : View K S H v a) (h : slD a lo hi = .ok w) (k : ∀ z S' H' fp, New K S H S' H' z w fp → Q z H') : rSlU K v lo hi H Q := by
  unfold slD at h
  split at h
  · cases h
    obtain ⟨p, vs, rfl, hp, r⟩ := rv.lst_inv hs
    exact .inl ⟨_, _, rfl, SqL.of hp, fun l hl => k _ S _ _ (.lst (.refl hs) (hs.free hl) hl (cut_rep r lo hi))⟩
  · cases h
    obtain ⟨p, rfl, hp⟩ := rv.scr_inv
    refine .inl ⟨_, _, rfl, hs.seq hp, fun l hl => k _ S _ _ (.lst (.refl hs) (hs.free hl) hl ?_)⟩
    rw [show cutV _ lo hi = cutD _ lo hi from rfl, cut_map]
    exact Reps.ints _
  · split at h <;> first | cases h | skip
    rename_i xs hn
    obtain ⟨p, vs, rfl, hp, r⟩ := rv.tup_inv
    exact .inr (.inl ⟨_, _, rfl, SqT.of (hs _ _ hp), by rw [r.len]; exact hn, fun l hl => k _ _ _ _ (.tup (.refl hs) hl (cut_rep r lo hi))⟩)
  · split at h <;> first | cases h | skip
    rename_i z hz
    cases rv.str_inv
    exact .inr (.inr ⟨_, rfl, small_le hz, k _ S H [] (.sh (.refl hs) (.str _))⟩)
  · cases h
theorem slD_ex {a : D} {lo hi : Option Int} {x : Xc} (h : slD a lo hi = .ex x) : False := by
  unfold slD at h
  repeat' split at h
  all_goals cases h
instance semE_sl {E : XK} {ta : TE} {tl th : TO} {Fa Fl Fh : List Nat} {ma : En → Res D} {ml mh : En → Res (Option Int)} [ha : SemV K E ta Fa ma] [hl : SemO K E tl Fl ml] [hh : SemO K E th Fh mh] : SemE K E (tSl (rSlU K) ta tl th) (Fa ++ Fl ++ Fh) (mSl ma ml mh) where
  ok := fun {env σ S H Q w} x e k => by
    obtain ⟨a, e1, e⟩ := Res.of_ok e
    obtain ⟨l, e2, e⟩ := Res.of_ok e
    obtain ⟨h, e3, e⟩ := Res.of_ok e
    refine ha.ok x e1 fun v S1 H1 g1 r1 => ?_
    refine hl.ok (x.gr g1) e2 fun H2 g2 => ?_
    have y2 := Gr.hp g1.sub g2
    refine hh.ok ((x.gr g1).gr y2) e3 fun H3 g3 => ?_
    have y3 := y2.trans (.hp y2.sub g3)
    exact slD_ok y3.sub (r1.gr y3) e fun z S' H' fp n => k z S' H' fp (n.later (g1.trans y3))
  ex := fun {env σ S H Q w} x e k => by
    rcases Res.of_ex e with e1 | ⟨a, e1, e⟩
    · exact ha.ex x e1 k
    refine ha.ok x e1 fun v S1 H1 g1 r1 => ?_
    rcases Res.of_ex e with e2 | ⟨l, e2, e⟩
    · exact hl.ex (x.gr g1) e2 fun c d H' s q => k c d H' (g1.hh.trans s) q
    refine hl.ok (x.gr g1) e2 fun H2 g2 => ?_
    have y2 := Gr.hp g1.sub g2
    rcases Res.of_ex e with e3 | ⟨h, e3, e⟩
    · exact hh.ex ((x.gr g1).gr y2) e3 fun c d H' s q => k c d H' ((g1.hh.trans g2).trans s) q
    exact (slD_ex e).elim

/-! ### built-in calls -/
inductive Views (K : PySem.W.Frag) (S H : Hp) : List V → List D → Prop
  | nil : Views K S H [] []
  | cons {v : V} {vs : List V} {d : D} {ds : List D} : View K S H v d → Views K S H vs ds → Views K S H (v :: vs) (d :: ds)
theorem Views.gr {S H S' H' : Hp} (g : Gr S H S' H') : ∀ {vs : List V} {ds : List D}, Views K S H vs ds → Views K S' H' vs ds
  | _, _, .nil => .nil
  | _, _, .cons a b => .cons (a.gr g) (Views.gr g b)
class SemAV (K : PySem.W.Frag) (E : XK) (t : TA) (F : outParam (List Nat)) (m : outParam (En → Res (List D))) : Prop where
  ok : ∀ {env σ S H Q ds}, Vw K env σ S H → m env = .ok ds → (∀ vs S' H', Gr S H S' H' → Views K S' H' vs ds → Q vs H') → t σ H Q
  ex : ∀ {env σ S H Q x}, Vw K env σ S H → m env = .ex x → (∀ cls d H', Same H H' → XR K x cls d H' → E cls d H') → t σ H Q
instance semAV_nil {E : XK} : SemAV K E tNil [] mNil where
  ok := fun {env σ S H Q w} x e k => by cases e; exact k [] S H (.refl x.sub) .nil
  ex := fun x e k => by cases e
instance semAV_cons {E : XK} {ta : TE} {tr : TA} {Fa Fr : List Nat} {ma : En → Res D} {mr : En → Res (List D)} [ha : SemV K E ta Fa ma] [hr : SemAV K E tr Fr mr] : SemAV K E (tCons ta tr) (Fa ++ Fr) (mCons ma mr) where
  ok := fun {env σ S H Q w} x e k => by
    obtain ⟨d, e1, e2⟩ := Res.of_ok e
    obtain ⟨ds, e3, rfl⟩ := Res.of_okm e2
    refine ha.ok x e1 fun v S1 H1 g1 r1 => ?_
    exact hr.ok (x.gr g1) e3 fun vs S2 H2 g2 r2 => k _ S2 H2 (g1.trans g2) (.cons (r1.gr g2) r2)
  ex := fun {env σ S H Q w} x e k => by
    rcases Res.of_ex e with e1 | ⟨d, e1, e2⟩
    · exact ha.ex x e1 k
    · refine ha.ok x e1 fun v S1 H1 g1 r1 => ?_
      exact hr.ex (x.gr g1) (Res.of_exm e2) fun c d H' s q => k c d H' (g1.hh.trans s) q
class CalV (K : PySem.W.Frag) (r : List V → Hp → VK → Prop) (f : outParam (List D → Res W)) : Prop where
  ok : ∀ {S H vs ds Q w}, Same S H → Views K S H vs ds → f ds = .ok w → (∀ z S' H' fp, New K S H S' H' z w fp → Q z H') → r vs H Q
  ex : ∀ {ds x}, f ds = .ex x → False
def mCal (f : List D → Res W) (ma : En → Res (List D)) : En → Res W := fun e => (ma e).bind f
instance semE_cal {E : XK} {r : List V → Hp → VK → Prop} {f : List D → Res W} {t : TA} {Fa : List Nat} {ma : En → Res (List D)} [hf : CalV K r f] [ha : SemAV K E t Fa ma] : SemE K E (tCB r t) Fa (mCal f ma) where
  ok := fun {env σ S H Q w} x e k => by
    obtain ⟨ds, e1, e2⟩ := Res.of_ok e
    exact ha.ok x e1 fun vs S1 H1 g r => hf.ok g.sub r e2 fun z S' H' fp n => k z S' H' fp (n.later g)
  ex := fun {env σ S H Q w} x e k => by
    rcases Res.of_ex e with e1 | ⟨d, e1, e2⟩
    · exact ha.ex x e1 k
    · exact (hf.ex e2).elim
theorem CallR.or {X : Cx} {f : Value} {r r' : List V → Hp → VK → Prop} (h : CallR X f r) (h' : CallR X f r') : CallR X f (fun xs H Q => r xs H Q ∨ r' xs H Q) := by
  intro pins s σ H xs us Q I r q
  rcases q with q | q
  · exact h pins s σ H xs us Q I r q
  · exact h' pins s σ H xs us Q I r q
theorem views1 {S H : Hp} {vs : List V} {d : D} (r : Views K S H vs [d]) : ∃ v, vs = [v] ∧ View K S H v d := by
  cases r with
  | cons a b => cases b; exact ⟨_, rfl, a⟩
theorem views2 {S H : Hp} {vs : List V} {d e : D} (r : Views K S H vs [d, e]) : ∃ v u, vs = [v, u] ∧ View K S H v d ∧ View K S H u e := by
  cases r with
  | cons a b =>
    cases b with
    | cons c b => cases b; exact ⟨_, _, rfl, a, c⟩
/-! len -/
def rLen (K : PySem.W.Frag) : List V → Hp → VK → Prop := fun xs H Q => (∃ x n, xs = [x] ∧ LenV K x H n ∧ Q (.int n) H) ∨ ∃ a kvs, xs = [V.ref a] ∧ H a = some (.dK kvs) ∧ Q (.int kvs.length) H
theorem call_lenU {X : Cx} : CallR X (.builtin "len") (rLen X.K) := CallR.or call_len call_lenD
def lenD : List D → Res W
  | [.str z] => if small z.length then .ok (.sh (.int z.length)) else .st
  | [.lst xs] => .ok (.sh (.int xs.length))
  | [.tup xs] => .ok (.sh (.int xs.length))
  | [.ktup xs] => .ok (.sh (.int xs.length))
  | [.scr xs] => .ok (.sh (.int xs.length))
  | [.dic ks xs] => .ok (.sh (.int ks.length))
  | _ => .st
instance calV_len : CalV K (rLen K) lenD where
  ok := fun {S H vs ds Q w} hs r h k => by
    unfold lenD at h
    split at h <;> first | cases h | skip
    · split at h <;> first | cases h | skip
      rename_i hz
      obtain ⟨v, rfl, r1⟩ := views1 r
      cases r1.str_inv
      exact .inl ⟨_, _, rfl, ⟨small_le hz, rfl⟩, k _ S H [] (.sh (.refl hs) (.int _))⟩
    · obtain ⟨v, rfl, r1⟩ := views1 r
      obtain ⟨p, us, rfl, hp, q⟩ := r1.lst_inv hs
      exact .inl ⟨_, _, rfl, .inl ⟨_, SqL.of hp, q.len.symm⟩, k _ S H [] (.sh (.refl hs) (.int _))⟩
    · obtain ⟨v, rfl, r1⟩ := views1 r
      obtain ⟨p, us, rfl, hp, q⟩ := r1.tup_inv
      exact .inl ⟨_, _, rfl, .inr ⟨_, SqT.of (hs _ _ hp), q.len.symm⟩, k _ S H [] (.sh (.refl hs) (.int _))⟩
    · obtain ⟨v, rfl, r1⟩ := views1 r
      obtain ⟨p, us, rfl, hp, q⟩ := r1.ktup_inv
      exact .inl ⟨_, _, rfl, .inr ⟨_, sqT_up hs hp, q.len.symm⟩, k _ S H [] (.sh (.refl hs) (.int _))⟩
    · obtain ⟨v, rfl, r1⟩ := views1 r
      obtain ⟨p, rfl, hp⟩ := r1.scr_inv
      exact .inl ⟨_, _, rfl, .inl ⟨_, hs.seq hp, (List.length_map ..).symm⟩, k _ S H [] (.sh (.refl hs) (.int _))⟩
    · obtain ⟨v, rfl, r1⟩ := views1 r
      rename_i ks xs
      obtain ⟨p, us, rfl, hp, hl, q⟩ := r1.dic_inv hs
      refine .inr ⟨_, _, rfl, hp, ?_⟩
      have : (ks.zip us).length = ks.length := by rw [List.length_zip, hl, Nat.min_self]
      rw [this]
      exact k _ S H [] (.sh (.refl hs) (.int _))
  ex := fun h => by
    unfold lenD at h
    repeat' split at h
    all_goals cases h
/-! abs, max, min of two -/
def rAbs : List V → Hp → VK → Prop := fun xs H Q => ∃ i, xs = [.int i] ∧ Q (.int (if i < 0 then -i else i)) H
theorem call_absU {X : Cx} : CallR X (.builtin "abs") rAbs := call_abs
def absD : List D → Res W
  | [.int i] => .ok (.sh (.int (if i < 0 then -i else i)))
  | _ => .st
instance calV_abs : CalV K rAbs absD where
  ok := fun {S H vs ds Q w} hs r h k => by
    unfold absD at h
    split at h <;> first | cases h | skip
    obtain ⟨v, rfl, r1⟩ := views1 r
    cases r1.int_inv
    exact ⟨_, rfl, k _ S H [] (.sh (.refl hs) (.int _))⟩
  ex := fun h => by unfold absD at h; split at h <;> cases h
def rMax2 : List V → Hp → VK → Prop := fun xs H Q => ∃ i j, xs = [.int i, .int j] ∧ Q (.int (if j > i then j else i)) H
def rMin2 : List V → Hp → VK → Prop := fun xs H Q => ∃ i j, xs = [.int i, .int j] ∧ Q (.int (if j < i then j else i)) H
theorem call_max2U {X : Cx} (hc : X.calm = true) : CallR X (.builtin "max") rMax2 := call_max2 hc
theorem call_min2U {X : Cx} (hc : X.calm = true) : CallR X (.builtin "min") rMin2 := call_min2 hc
def max2D : List D → Res W
  | [.int i, .int j] => .ok (.sh (.int (if j > i then j else i)))
  | _ => .st
def min2D : List D → Res W
  | [.int i, .int j] => .ok (.sh (.int (if j < i then j else i)))
  | _ => .st
instance calV_max2 : CalV K rMax2 max2D where
  ok := fun {S H vs ds Q w} hs r h k => by
    unfold max2D at h
    split at h <;> first | cases h | skip
    obtain ⟨v, u, rfl, r1, r2⟩ := views2 r
    cases r1.int_inv; cases r2.int_inv
    exact ⟨_, _, rfl, k _ S H [] (.sh (.refl hs) (.int _))⟩
  ex := fun h => by unfold max2D at h; split at h <;> cases h
instance calV_min2 : CalV K rMin2 min2D where
  ok := fun {S H vs ds Q w} hs r h k => by
    unfold min2D at h
    split at h <;> first | cases h | skip
    obtain ⟨v, u, rfl, r1, r2⟩ := views2 r
    cases r1.int_inv; cases r2.int_inv
    exact ⟨_, _, rfl, k _ S H [] (.sh (.refl hs) (.int _))⟩
  ex := fun h => by unfold min2D at h; split at h <;> cases h
/-! isinstance -/
def tyD : D → Option String
  | .non => some "NoneType" | .bl _ => some "bool" | .int _ => some "int" | .str _ => some "str"
  | .lst _ => some "list" | .scr _ => some "list" | .tup _ => some "tuple" | .ktup _ => some "tuple" | .dic _ _ => some "dict" | .dit _ _ => some "dict"
  | _ => none
def tyNames : List String := ["NoneType", "bool", "int", "str", "list", "tuple", "dict"]
def isTy (a n : String) : Option Bool := if n == "int" then some (a == "int" || a == "bool") else if n == "bool" || n == "str" || n == "list" || n == "tuple" || n == "dict" then some (a == n) else none
theorem isTy_kit {a n : String} {b : Bool} (ha : a ∈ tyNames) (h : isTy a n = some b) : kitB a n = some b := by
  have key : ∀ a ∈ tyNames, ∀ n ∈ ["int", "bool", "str", "list", "tuple", "dict"], kitB a n = isTy a n := by decide +kernel
  have hn : n ∈ ["int", "bool", "str", "list", "tuple", "dict"] := by
    unfold isTy at h
    split at h
    · rename_i e; simp at e; simp [e]
    · split at h
      · rename_i e; simp at e; rcases e with (((e | e) | e) | e) | e <;> simp [e]
      · cases h
  rw [key a ha n hn, h]
theorem tyD_in {d : D} {a : String} (h : tyD d = some a) : a ∈ tyNames := by
  cases d <;> cases h <;> decide
theorem tyD_rep {H : Hp} {v : V} {d : D} {a : String} (r : Rep K H v d) (h : tyD d = some a) : TyX K H v (.type a) := by
  cases r with
  | non => cases h; exact .base .non
  | bl b => cases h; exact .base (.bl b)
  | int i => cases h; exact .base (.int i)
  | str x => cases h; exact .base (.str x)
  | lst e q => cases h; exact .base (.lst e)
  | tup e q => cases h; exact .base (.tup e)
  | dic e l q => cases h; exact .base (.dK e)
  | dit e l q => cases h; exact .base (.dT e)
  | scr e =>
    cases h
    rcases e with (e | ⟨o, e⟩) | ⟨o, its, n, e, c, _⟩
    · exact .base (.lst e)
    · exact .base (.frz e)
    · exact .kList e c
  | ktup e q =>
    cases h
    rcases e with (e | ⟨o, e⟩) | ⟨o, its, n, e, c, _⟩
    · exact .base (.tup e)
    · exact .fTuple e
    · exact .kTuple e c
  | _ => cases h
def isiD : List D → Res W
  | [x, .ty n] => match tyD x with
    | some a => match isTy a n with
      | some b => .ok (.sh (.bl b))
      | none => .st
    | none => .st
  | _ => .st
instance calV_isi : CalV K (rIsi K) isiD where
  ok := fun {S H vs ds Q w} hs r h k => by
    unfold isiD at h
    split at h <;> first | cases h | skip
    rename_i x n
    split at h <;> first | cases h | skip
    rename_i a ha
    split at h <;> first | cases h | skip
    rename_i b hb
    obtain ⟨v, u, rfl, r1, r2⟩ := views2 r
    have : u = .ty n := by
      cases r2 with
      | rep q => cases q; rfl
    subst this
    exact ⟨_, _, _, _, b, rfl, .ty n, tyD_rep (r1.toX hs) ha, kit_ty (isTy_kit (tyD_in ha) hb), k _ S H [] (.sh (.refl hs) (.bl b))⟩
  ex := fun h => by
    unfold isiD at h
    repeat' split at h
    all_goals cases h
/-! str(n), int(flag), int(text), list(xs) -/
def rStrI : List V → Hp → VK → Prop := fun xs H Q => ∃ i, xs = [.int i] ∧ i.natAbs.log2 < 1920 ∧ Q (.str (toString i)) H
end
end Ly

set_option Elab.async false
set_option linter.all false
set_option maxRecDepth 100000
namespace Ly
open PySem L2 PyProof.Rows

/-! ### what is walked -/
def iU (K : PySem.W.Frag) (te : TE) : TI := fun σ H R => te σ H fun x H1 => (∃ a, x = .ref a ∧ (∃ xs, SqL K H1 a xs) ∧ R (Itl K a) H1) ∨ (∃ a, x = .ref a ∧ (∃ xs, SqT K H1 a xs) ∧ R (Itt K a) H1) ∨ ∃ z, x = .str z ∧ R (Its z) H1
theorem pi_U {X : Cx} {tg e : Expr} {te : TE} (he : PE X e te) : PI X tg e (iU X.K te) := by
  refine ⟨fun pins s σ H R I h => ?_⟩
  refine thn (he.run pins s σ H _ I h) fun v s1 ⟨y, H1, I1, r1, q⟩ => ?_
  rcases q with ⟨a, rfl, ⟨xs, hq⟩, q⟩ | ⟨a, rfl, ⟨xs, hq⟩, q⟩ | ⟨x, rfl, q⟩
  · cases r1
    obtain ⟨its, rv, p, hz⟩ := I1.list hq
    refine wpAny_pyIter_list p.isList ?_
    refine ⟨s1.heap.objs.size, [s1.heap.objs.size], _, _, H1, rfl, I1.kept (t' := s1.toks) fun b o e => Heap.get?_push_of_some _ e, turn_list a _, ⟨_, Heap.get?_push_size _ rfl, rfl, rfl⟩, fun b hb => ?_, q⟩
    have e : b = s1.heap.objs.size := by simpa using hb
    subst e
    exact I1.fpOk (Nat.le_refl _) (I1.hok.fresh (Nat.le_refl _))
  · cases r1
    obtain ⟨its, rv, p, hz⟩ := I1.tuple hq
    refine wpAny_pyIter_tuple (show s1.heap.IsTuple a its.toArray from p) ?_
    refine ⟨s1.heap.objs.size, [s1.heap.objs.size], _, _, H1, rfl, I1.kept (t' := s1.toks) fun b o e => Heap.get?_push_of_some _ e, turn_tuple a _, ⟨_, Heap.get?_push_size _ rfl, rfl, rfl⟩, fun b hb => ?_, q⟩
    have e : b = s1.heap.objs.size := by simpa using hb
    subst e
    exact I1.fpOk (Nat.le_refl _) (I1.hok.fresh (Nat.le_refl _))
  · obtain ⟨t, rfl⟩ := r1
    cases ha : x.cps.all (· < 128)
    · exact wpAny_pyIter_wide ha (pi_one (tk := s1.toks) I1 _ (turn_str _ x t "str_iterator" (.inr rfl)) ⟨_, Heap.get?_push_size _ rfl, rfl, rfl⟩ q)
    · exact wpAny_pyIter_ascii ha (pi_one (tk := s1.toks) I1 _ (turn_str _ x t "str_ascii_iterator" (.inl rfl)) ⟨_, Heap.get?_push_size _ rfl, rfl, rfl⟩ q)
/-- one sign -/
def sign (c : Nat) : D := .str ⟨#[c]⟩
/-- the items of a thing that is walked -/
def itemsD : D → Res (List D)
  | .lst xs => .ok xs
  | .tup xs => .ok xs
  | .ktup xs => .ok xs
  | .scr ns => .ok (ns.map D.int)
  | .str z => .ok (z.cps.toList.map sign)
  | _ => .st
/-- walked for an expression's sake: nothing that stands is changed meanwhile -/
theorem wipe_sub (σ : L2.St) (vs : List Nat) : ∀ us : List Nat, (∀ i ∈ us, i ∈ vs) → wipe (wipe σ us) vs = wipe σ vs
  | [], _ => rfl
  | u :: us, h => by
    rw [show wipe σ (u :: us) = (wipe σ us).set u none from rfl, wipe_set (h u List.mem_cons_self)]
    exact wipe_sub σ vs us fun i hi => h i (List.mem_cons_of_mem _ hi)
theorem wipe_wipe (σ : L2.St) (vs : List Nat) : wipe (wipe σ vs) vs = wipe σ vs := wipe_sub σ vs vs fun _ h => h
class SemIV (K : PySem.W.Frag) (E : XK) (wi : TI) (F : outParam (List Nat)) (m : outParam (En → Res (List D))) : Prop where
  ok : ∀ {env σ S H R ds}, Vw K env σ S H → m env = .ok ds → (∀ J S' H', Gr S H S' H' → JOk K S' H' J ds → R J H') → wi σ H R
  ex : ∀ {env σ S H R x}, Vw K env σ S H → m env = .ex x → (∀ cls d H', Same H H' → XR K x cls d H' → E cls d H') → wi σ H R
section
variable {K : PySem.W.Frag} {E : XK}
theorem JOk.list {S P : Hp} {a : Addr} {vs : List V} {ds : List D} (h : SqL K P a vs) (r : Reps K S vs ds) : JOk K S P (Itl K a) ds := fun S' H' s1 s2 s3 i => by
  have hq := s3.seq h
  refine ⟨fun d hd => ?_, fun hd => ⟨vs, hq, by rw [r.len]; exact List.getElem?_eq_none_iff.mp hd⟩⟩
  obtain ⟨v, hv, rv⟩ := r.get hd
  refine ⟨⟨vs, v, hq, hv⟩, fun x H2 y => ?_⟩
  obtain ⟨rfl, y⟩ := y
  have := y vs hq
  rw [hv] at this
  cases this
  exact ⟨S', .refl s2, rv.up s1⟩
theorem JOk.tup {S P : Hp} {a : Addr} {vs : List V} {ds : List D} (h : SqT K P a vs) (r : Reps K S vs ds) : JOk K S P (Itt K a) ds := fun S' H' s1 s2 s3 i => by
  have hq := sqT_up s3 h
  refine ⟨fun d hd => ?_, fun hd => ⟨vs, hq, by rw [r.len]; exact List.getElem?_eq_none_iff.mp hd⟩⟩
  obtain ⟨v, hv, rv⟩ := r.get hd
  refine ⟨⟨vs, v, hq, hv⟩, fun x H2 y => ?_⟩
  obtain ⟨rfl, y⟩ := y
  have := y vs hq
  rw [hv] at this
  cases this
  exact ⟨S', .refl s2, rv.up s1⟩
theorem JOk.str {S P : Hp} {z : Str} : JOk K S P (Its z) (z.cps.toList.map sign) := fun S' H' s1 s2 s3 i => by
  refine ⟨fun d hd => ?_, fun hd => ?_⟩
  · rw [List.getElem?_map] at hd
    obtain ⟨c, hc, rfl⟩ := Option.map_eq_some_iff.mp hd
    have hi := (List.getElem?_eq_some_iff.mp hc).1
    refine ⟨(by simpa using hi : i < z.cps.size), fun x H2 y => ?_⟩
    obtain ⟨rfl, c', hc', rfl⟩ := y
    have : c' = c := by
      have e : z.cps[i]? = z.cps.toList[i]? := by simp
      rw [e, hc] at hc'
      exact (Option.some.inj hc').symm
    subst this
    exact ⟨S', .refl s2, .str _⟩
  · have := List.getElem?_eq_none_iff.mp hd
    show z.cps.size ≤ i
    simpa using this
theorem items_J {S P H : Hp} {v : V} {d : D} {ds : List D} {R : It → Hp → Prop} (hs : Same S P) (hp : Same P H) (r : View K S P v d) (h : itemsD d = .ok ds) (k : ∀ J, JOk K S P J ds → R J H) :
    (∃ a, v = .ref a ∧ (∃ xs, SqL K H a xs) ∧ R (Itl K a) H) ∨ (∃ a, v = .ref a ∧ (∃ xs, SqT K H a xs) ∧ R (Itt K a) H) ∨ ∃ z, v = .str z ∧ R (Its z) H := by
  unfold itemsD at h
  split at h <;> first | cases h | skip
  · obtain ⟨p, vs, rfl, e, q⟩ := r.lst_inv hs
    exact .inl ⟨p, rfl, ⟨_, SqL.of (hp _ _ e)⟩, k _ (.list (SqL.of e) q)⟩
  · obtain ⟨p, vs, rfl, e, q⟩ := r.tup_inv
    exact .inr (.inl ⟨p, rfl, ⟨_, SqT.of (hp _ _ (hs _ _ e))⟩, k _ (.tup (SqT.of (hs _ _ e)) q)⟩)
  · obtain ⟨p, vs, rfl, e, q⟩ := r.ktup_inv
    exact .inr (.inl ⟨p, rfl, ⟨_, sqT_up hp (sqT_up hs e)⟩, k _ (.tup (sqT_up hs e) q)⟩)
  · obtain ⟨p, rfl, e⟩ := r.scr_inv
    exact .inl ⟨p, rfl, ⟨_, hp.seq (hs.seq e)⟩, k _ (.list (hs.seq e) (Reps.ints _))⟩
  · cases r.str_inv
    exact .inr (.inr ⟨_, rfl, k _ .str⟩)
theorem itemsD_ex {d : D} {x : Xc} (h : itemsD d = .ex x) : False := by
  unfold itemsD at h
  split at h <;> cases h
def mItems (m : En → Res D) : En → Res (List D) := fun e => (m e).bind itemsD
instance semI_U {te : TE} {F : List Nat} {m : En → Res W} [h : SemE K E te F m] : SemI K E (iU K te) F (mItems (mD m)) where
  ok := fun {env σ S H R ds} x e k => by
    obtain ⟨d, e1, e2⟩ := Res.of_ok e
    exact h.okD x e1 fun v S' H' g r => items_J (Same.refl S') g.sub (.rep r) e2 fun J j => k J S' H' g j
  ex := fun {env σ S H R ds} x e k => by
    rcases Res.of_ex e with e1 | ⟨d, e1, e2⟩
    · exact h.ex x (Res.of_exm e1) k
    · exact (itemsD_ex e2).elim
instance semIV_U {te : TE} {F : List Nat} {m : En → Res D} [h : SemV K E te F m] : SemIV K E (iU K te) F (mItems m) where
  ok := fun {env σ S H R ds} x e k => by
    obtain ⟨d, e1, e2⟩ := Res.of_ok e
    exact h.ok x e1 fun v S' H' g r => items_J g.sub (Same.refl H') r e2 fun J j => k J S' H' g j
  ex := fun {env σ S H R ds} x e k => by
    rcases Res.of_ex e with e1 | ⟨d, e1, e2⟩
    · exact h.ex x e1 k
    · exact (itemsD_ex e2).elim
/-! range -/
def rangeD (lo : Int) (n : Nat) : List D := (List.range n).map fun (i : Nat) => D.int (lo + (i : Int))
theorem JOk.rng {S P : Hp} {lo : Int} {n : Nat} : JOk K S P (Itr lo n) (rangeD lo n) := fun S' H' s1 s2 s3 i => by
  unfold rangeD
  refine ⟨fun d hd => ?_, fun hd => ?_⟩
  · rw [List.getElem?_map] at hd
    obtain ⟨c, hc, rfl⟩ := Option.map_eq_some_iff.mp hd
    obtain ⟨hl, hc⟩ := List.getElem?_eq_some_iff.mp hc
    rw [List.length_range] at hl
    rw [List.getElem_range] at hc
    subst hc
    refine ⟨hl, fun x H2 y => ?_⟩
    obtain ⟨rfl, rfl⟩ := y
    exact ⟨S', .refl s2, .int _⟩
  · have := List.getElem?_eq_none_iff.mp hd
    show n ≤ i
    simpa using this
def big62 (i : Int) : Bool := decide (-(2 ^ 62) ≤ i) && decide (i < 2 ^ 62)
def rng1D : List D → Res (List D)
  | [.int j] => if big62 j then .ok (rangeD 0 j.toNat) else .st
  | _ => .st
def rng2D : List D → Res (List D)
  | [.int i, .int j] => if big62 i && big62 j then .ok (rangeD i (j - i).toNat) else .st
  | _ => .st
theorem semI_rng1 {ta : TA} {F : List Nat} {m : En → Res (List D)} (h : SemA K E ta F m) {env : En} {σ : L2.St} {S H : Hp} {R : It → Hp → Prop} {ds : List D} (x : Vw K env σ S H) (e : (m env).bind rng1D = .ok ds)
    (k : ∀ J S' H', Gr S H S' H' → (∀ P, JOk K S' P J ds) → R J H') : iRng1 ta σ H R := by
  obtain ⟨vs, e1, e2⟩ := Res.of_ok e
  refine h.ok x e1 fun us S' H' g r => ?_
  unfold rng1D at e2
  split at e2 <;> first | cases e2 | skip
  split at e2 <;> first | cases e2 | skip
  rename_i hb
  simp only [big62, Bool.and_eq_true, decide_eq_true_eq] at hb
  cases r with
  | cons a b =>
    cases b; cases a
    exact ⟨_, rfl, hb.1, hb.2, k _ S' H' g fun P => .rng⟩
theorem semI_rng2 {ta : TA} {F : List Nat} {m : En → Res (List D)} (h : SemA K E ta F m) {env : En} {σ : L2.St} {S H : Hp} {R : It → Hp → Prop} {ds : List D} (x : Vw K env σ S H) (e : (m env).bind rng2D = .ok ds)
    (k : ∀ J S' H', Gr S H S' H' → (∀ P, JOk K S' P J ds) → R J H') : iRng2 ta σ H R := by
  obtain ⟨vs, e1, e2⟩ := Res.of_ok e
  refine h.ok x e1 fun us S' H' g r => ?_
  unfold rng2D at e2
  split at e2 <;> first | cases e2 | skip
  split at e2 <;> first | cases e2 | skip
  rename_i hb
  simp only [big62, Bool.and_eq_true, decide_eq_true_eq] at hb
  cases r with
  | cons a b =>
    cases b with
    | cons c d =>
      cases d; cases a; cases c
      exact ⟨_, _, rfl, ⟨hb.1.1, hb.1.2, hb.2.1, hb.2.2⟩, k _ S' H' g fun P => .rng⟩
theorem rng1D_ex {ds : List D} {x : Xc} (h : rng1D ds = .ex x) : False := by
  unfold rng1D at h
  repeat' split at h
  all_goals cases h
theorem rng2D_ex {ds : List D} {x : Xc} (h : rng2D ds = .ex x) : False := by
  unfold rng2D at h
  repeat' split at h
  all_goals cases h
def mRng1 (m : En → Res (List D)) : En → Res (List D) := fun e => (m e).bind rng1D
def mRng2 (m : En → Res (List D)) : En → Res (List D) := fun e => (m e).bind rng2D
instance semI_r1 {ta : TA} {F : List Nat} {m : En → Res (List D)} [h : SemA K E ta F m] : SemI K E (iRng1 ta) F (mRng1 m) where
  ok := fun x e k => semI_rng1 h x e fun J S' H' g j => k J S' H' g (j S')
  ex := fun {env σ S H R ds} x e k => by
    rcases Res.of_ex e with e1 | ⟨d, e1, e2⟩
    · exact h.ex x e1 k
    · exact (rng1D_ex e2).elim
instance semIV_r1 {ta : TA} {F : List Nat} {m : En → Res (List D)} [h : SemA K E ta F m] : SemIV K E (iRng1 ta) F (mRng1 m) where
  ok := fun x e k => semI_rng1 h x e fun J S' H' g j => k J S' H' g (j H')
  ex := fun {env σ S H R ds} x e k => by
    rcases Res.of_ex e with e1 | ⟨d, e1, e2⟩
    · exact h.ex x e1 k
    · exact (rng1D_ex e2).elim
instance semI_r2 {ta : TA} {F : List Nat} {m : En → Res (List D)} [h : SemA K E ta F m] : SemI K E (iRng2 ta) F (mRng2 m) where
  ok := fun x e k => semI_rng2 h x e fun J S' H' g j => k J S' H' g (j S')
  ex := fun {env σ S H R ds} x e k => by
    rcases Res.of_ex e with e1 | ⟨d, e1, e2⟩
    · exact h.ex x e1 k
    · exact (rng2D_ex e2).elim
instance semIV_r2 {ta : TA} {F : List Nat} {m : En → Res (List D)} [h : SemA K E ta F m] : SemIV K E (iRng2 ta) F (mRng2 m) where
  ok := fun x e k => semI_rng2 h x e fun J S' H' g j => k J S' H' g (j H')
  ex := fun {env σ S H R ds} x e k => by
    rcases Res.of_ex e with e1 | ⟨d, e1, e2⟩
    · exact h.ex x e1 k
    · exact (rng2D_ex e2).elim
/-! enumerate -/
def enumD : Nat → List D → List D
  | _, [] => []
  | i, d :: ds => .tup [.int (i : Int), d] :: enumD (i + 1) ds
theorem enumD_get : ∀ {ds : List D} {i j : Nat} {d : D}, (enumD j ds)[i]? = some d → ∃ x, ds[i]? = some x ∧ d = .tup [.int ((j + i : Nat) : Int), x]
  | [], _, _, _, h => by simp [enumD] at h
  | e :: ds, 0, j, d, h => by
    unfold enumD at h
    simp at h
    exact ⟨e, rfl, by rw [← h]; rfl⟩
  | e :: ds, i + 1, j, d, h => by
    unfold enumD at h
    rw [List.getElem?_cons_succ] at h
    obtain ⟨x, h1, h2⟩ := enumD_get h
    exact ⟨x, by simpa using h1, by rw [h2]; congr 4; omega⟩
theorem enumD_len : ∀ (ds : List D) (j : Nat), (enumD j ds).length = ds.length
  | [], _ => rfl
  | e :: ds, j => by unfold enumD; rw [List.length_cons, enumD_len ds, List.length_cons]
theorem JOk.enum {S P : Hp} {a : Addr} {vs : List V} {ds : List D} (h : SqL K P a vs) (r : Reps K S vs ds) : JOk K S P (Ite K a) (enumD 0 ds) := fun S' H' s1 s2 s3 i => by
  have hq := s3.seq h
  refine ⟨fun d hd => ?_, fun hd => ⟨vs, hq, by rw [r.len, ← enumD_len ds 0]; exact List.getElem?_eq_none_iff.mp hd⟩⟩
  obtain ⟨x, hx, rfl⟩ := enumD_get hd
  obtain ⟨v, hv, rv⟩ := r.get hx
  refine ⟨⟨vs, v, hq, hv⟩, fun u H2 y => ?_⟩
  obtain ⟨T, v', rfl, hT, rfl, y⟩ := y
  have := y vs hq
  rw [hv] at this
  cases this
  refine ⟨_, .new s2 hT, .tup upd_same ?_⟩
  have s4 : Same S' (upd S' T (.tup [.int (i : Nat), v])) := fun a o q => by rw [upd_ne (ne_of_none q (s2.free hT))]; exact q
  rw [Nat.zero_add]
  exact .cons (.int _) (.cons ((rv.up s1).up s4) .nil)
def enumItems : List D → Res (List D)
  | [.lst xs] => .ok (enumD 0 xs)
  | [.scr ns] => .ok (enumD 0 (ns.map D.int))
  | _ => .st
theorem enum_ex {ds : List D} {x : Xc} (h : enumItems ds = .ex x) : False := by
  unfold enumItems at h
  split at h <;> cases h
def mEnum (m : En → Res (List D)) : En → Res (List D) := fun e => (m e).bind enumItems
instance semI_enum {ta : TA} {F : List Nat} {m : En → Res (List D)} [h : SemA K E ta F m] : SemI K E (iEnum K ta) F (mEnum m) where
  ok := fun {env σ S H R ds} x e k => by
    obtain ⟨vs, e1, e2⟩ := Res.of_ok e
    refine h.ok x e1 fun us S' H' g r => ?_
    unfold enumItems at e2
    split at e2 <;> first | cases e2 | skip
    · cases r with
      | cons a b =>
        cases b
        cases a with
        | lst e q => exact ⟨_, _, rfl, SqL.of (g.sub _ _ e), k _ S' H' g (.enum (SqL.of e) q)⟩
    · cases r with
      | cons a b =>
        cases b
        cases a with
        | scr e => exact ⟨_, _, rfl, g.sub.seq e, k _ S' H' g (.enum e (Reps.ints _))⟩
  ex := fun {env σ S H R ds} x e k => by
    rcases Res.of_ex e with e1 | ⟨d, e1, e2⟩
    · exact h.ex x e1 k
    · exact (enum_ex e2).elim
instance semIV_enum {ta : TA} {F : List Nat} {m : En → Res (List D)} [h : SemAV K E ta F m] : SemIV K E (iEnum K ta) F (mEnum m) where
  ok := fun {env σ S H R ds} x e k => by
    obtain ⟨vs, e1, e2⟩ := Res.of_ok e
    refine h.ok x e1 fun us S' H' g r => ?_
    unfold enumItems at e2
    split at e2 <;> first | cases e2 | skip
    · obtain ⟨v, rfl, r1⟩ := views1 r
      obtain ⟨p, vs, rfl, e, q⟩ := r1.lst_inv g.sub
      exact ⟨_, _, rfl, SqL.of e, k _ S' H' g (.enum (SqL.of e) q)⟩
    · obtain ⟨v, rfl, r1⟩ := views1 r
      obtain ⟨p, rfl, e⟩ := r1.scr_inv
      exact ⟨_, _, rfl, g.sub.seq e, k _ S' H' g (.enum (g.sub.seq e) (Reps.ints _))⟩
  ex := fun {env σ S H R ds} x e k => by
    rcases Res.of_ex e with e1 | ⟨d, e1, e2⟩
    · exact h.ex x e1 k
    · exact (enum_ex e2).elim

/-! ### list comprehensions -/
def mTrue : En → Res Bool := fun _ => .ok true
instance semT_yes : SemT K E tYes [] mTrue where
  ok := fun x e k => by cases e; exact k _ (Same.refl _)
  ex := fun x e k => by cases e
def wipeE (env : En) : List Nat → En
  | [] => env
  | v :: vs => (wipeE env vs).set v none
theorem Vw.unset {env : En} {σ : L2.St} {S H : Hp} (x : Vw K env σ S H) (i : Nat) : Vw K (env.set i none) (σ.set i none) S H := ⟨by rw [List.length_set, List.length_set]; exact x.len, x.sub, fun j w e => by
  rcases get_set e with ⟨_, e1, _⟩ | ⟨ne, e1⟩
  · cases e1
  · obtain ⟨z, fp, a, b, c⟩ := x.at_ j w e1
    exact ⟨z, fp, by rw [List.getElem?_set_ne ne]; exact a, b, c⟩⟩
theorem Vw.wiped {env : En} {σ : L2.St} {S H : Hp} (x : Vw K env σ S H) : ∀ vs : List Nat, Vw K (wipeE env vs) (wipe σ vs) S H
  | [] => x
  | v :: vs => (x.wiped vs).unset v
def runC (mg : D → En → Res En) (mt : En → Res Bool) (me : En → Res D) : List D → En → Res (List D)
  | [], _ => .ok []
  | d :: ds, env => (mg d env).bind fun e => (mt e).bind fun b => if b = true then (me e).bind fun y => (runC mg mt me ds env).map fun ys => y :: ys else runC mg mt me ds env
def noEx {α : Type} : Res α → Res α
  | .ok a => .ok a
  | _ => .st
def mLc (ts vs : List Nat) (mi : En → Res (List D)) (mg : D → En → Res En) (mt : En → Res Bool) (me : En → Res D) : En → Res W := fun env => if ts.all (fun i => vs.contains i) then
  (mi env).bind fun ds => (noEx (runC mg mt me ds (wipeE env vs))).bind fun ys => if small ys.length then .ok (.lst ys) else .st
  else .st
instance semE_lc {wi : TI} {g : TG} {tt : TT} {te : TE} {vs ts Fi Ft Fe : List Nat} {mi : En → Res (List D)} {mg : D → En → Res En} {mt : En → Res Bool} {me : En → Res W} [hi : SemIV K E wi Fi mi] [hg : SemG K g ts mg] [ht : SemT K E0 tt Ft mt] [he : SemE K E0 te Fe me] :
    SemE K E (tLc wi g tt te vs) (Fi ++ Ft ++ Fe) (mLc ts vs mi mg mt (mD me)) where
  ok := fun {env σ S H Q w} x e k => by
    unfold mLc at e
    split at e
    · rename_i hts
      have hts' : ∀ i ∈ ts, i ∈ vs := fun i h => by
        have := List.all_eq_true.mp hts i h
        simpa using this
      obtain ⟨ds, e1, e⟩ := Res.of_ok e
      obtain ⟨ys, e2, e⟩ := Res.of_ok e
      split at e
      · rename_i hsm
        cases e
        have e3 : runC mg mt (mD me) ds (wipeE env vs) = .ok ys := by
          unfold noEx at e2
          split at e2
          · cases e2; assumption
          · cases e2
        refine hi.ok x e1 fun J S1 H1 g1 jok => ?_
        intro D hD
        have hSD : S1 D = none := g1.sub.free hD
        have x1 := x.gr g1
        refine ⟨fun i m H => m = ds.length - i ∧ ∃ S us acc rest, Gr S1 H1 S H ∧ S D = none ∧ H D = some (.lst us) ∧ Reps K S us acc ∧ runC mg mt (mD me) (ds.drop i) (wipeE env vs) = .ok rest ∧ acc ++ rest = ys,
          ⟨_, rfl, S1, [], [], ys, (Gr.refl g1.sub).trans (.hp g1.sub fun a o q => by rw [upd_ne (ne_of_none q hD)]; exact q), hSD, upd_same, .nil, by rw [List.drop_zero]; exact e3, rfl⟩, ?_⟩
        rintro i m H2 ⟨rfl, S2, us, acc, rest, g2, hS2, hH2, r2, e4, e5⟩
        obtain ⟨j1, j2⟩ := jok S2 H2 g2.ss g2.sub g2.hh i
        cases hd : ds[i]? with
        | none =>
          have hl : ds.length ≤ i := List.getElem?_eq_none_iff.mp hd
          rw [List.drop_eq_nil_of_le hl] at e4
          have e4' : rest = [] := by unfold runC at e4; cases e4; rfl
          subst e4'
          rw [List.append_nil] at e5
          subst e5
          refine .inl ⟨j2 hd, k _ S2 H2 [D] ⟨g1.trans g2, .lst hH2 r2, by simp, fun p hp => ?_⟩⟩
          rw [List.mem_singleton.mp hp]
          exact ⟨g1.hh.free hD, hS2⟩
        | some d =>
          obtain ⟨hlt, hdd⟩ := List.getElem?_eq_some_iff.mp hd
          have hdrop : ds.drop i = d :: ds.drop (i + 1) := by rw [List.drop_eq_getElem_cons hlt, hdd]
          rw [hdrop] at e4
          unfold runC at e4
          obtain ⟨en, f1, e4⟩ := Res.of_ok e4
          obtain ⟨b, f2, e4⟩ := Res.of_ok e4
          obtain ⟨go, yld⟩ := j1 d hd
          refine .inr ⟨go, fun H' => ∃ S us acc rest, Gr S1 H1 S H' ∧ S D = none ∧ H' D = some (.lst us) ∧ Reps K S us acc ∧ runC mg mt (mD me) (ds.drop (i + 1)) (wipeE env vs) = .ok rest ∧ acc ++ rest = ys, fun H' z => ⟨_, by omega, rfl, z⟩, fun y H' hy => ?_⟩
          obtain ⟨S3, g3, r3⟩ := yld y H' hy
          have hHD : (H2 D).isSome = true := by rw [hH2]; rfl
          have hS3 : S3 D = none := g3.gone hS2 hHD
          refine hg.vw (((x1.gr g2).gr g3).wiped vs) r3 f1 fun σ2 x4 wq => ⟨by rw [wq vs hts']; exact wipe_wipe _ _, ?_⟩
          refine ht.ok x4 f2 fun H4 g4 => ?_
          have y4 := Gr.hp g3.sub g4
          cases b with
          | false =>
            rw [if_neg Bool.false_ne_true] at e4 ⊢
            exact ⟨S3, us, acc, rest, (g2.trans g3).trans y4, hS3, g4 _ _ (g3.hh _ _ hH2), r2.up g3.ss, e4, e5⟩
          | true =>
            rw [if_pos rfl] at e4 ⊢
            obtain ⟨dy, f3, e4⟩ := Res.of_ok e4
            obtain ⟨rest', f4, rfl⟩ := Res.of_okm e4
            refine he.okD (x4.gr y4) f3 fun v S5 H5 g5 r5 => ?_
            have hD5 : H5 D = some (.lst us) := g5.hh _ _ (g4 _ _ (g3.hh _ _ hH2))
            have hS5 : S5 D = none := g5.gone hS3 (by rw [g4 _ _ (g3.hh _ _ hH2)]; rfl)
            have hlen : us.length < sizeLine := by
              rw [r2.len]
              have := congrArg List.length e5
              rw [List.length_append] at this
              have h2 := small_line hsm
              omega
            refine ⟨us, hD5, hlen, S5, us ++ [v], acc ++ [dy], rest', ?_, hS5, upd_same, ?_, f4, by rw [← e5]; simp⟩
            · have gg := ((g2.trans g3).trans y4).trans g5
              exact ⟨gg.ss, fun a o q => by rw [upd_ne (ne_of_none q hD)]; exact gg.hh a o q, fun a o q => by rw [upd_ne (ne_of_none q hS5)]; exact gg.sub a o q, gg.nw⟩
            · exact ((r2.up g3.ss).up g5.ss).app (.cons r5 .nil)
      · cases e
    · cases e
  ex := fun {env σ S H Q w} x e k => by
    unfold mLc at e
    split at e
    · rcases Res.of_ex e with e1 | ⟨ds, e1, e⟩
      · exact hi.ex x e1 k
      · rcases Res.of_ex e with e1 | ⟨ds, e1, e⟩
        · unfold noEx at e1
          split at e1 <;> cases e1
        · split at e <;> cases e
    · cases e
end
end Ly

set_option Elab.async false
set_option linter.all false
set_option maxRecDepth 100000
namespace Ly
open PySem L2 PyProof.Rows

/-! ### defs -/
/-- a def that answers as f tells of data: n parameters -/
def spM (K : PySem.W.Frag) (n : Nat) (f : List D → Res W) : Sp := fun vs H Q E => vs.length = n ∧ ∃ S ds, Same S H ∧ Reps K S vs ds ∧ match f ds with
  | .ok w => ∀ v S' H' fp, New K S H S' H' v w fp → Q v H'
  | .ex x => ∀ cls d H', Same H H' → XR K x cls d H' → E cls d H'
  | .st => False
def slots (n : Nat) (ds : List D) : En := ds.map (fun d => some (W.sh d)) ++ List.replicate (n - ds.length) none
def runD (n : Nat) (m : En → Res Fl) : List D → Res W := fun ds => (m (slots n ds)).bind fun r => match r with
  | .rt w => .ok w
  | .nx _ => .ok (.sh .non)
  | _ => .st
theorem reps_start {K : PySem.W.Frag} {S H : Hp} (N : List Str) {vs : List V} {ds : List D} (hs : Same S H) (r : Reps K S vs ds) (hl : vs.length ≤ N.length) : StOk K H S (slots N.length ds) (L2.start N vs) S H := by
  have hlen := r.len
  refine ⟨by simp [slots, L2.start, hlen], hs, Same.refl H, Same.refl S, fun a o e => .inl e, fun _ => [], fun i w e => ?_, fun i p hp => absurd hp List.not_mem_nil, fun i j p hp => absurd hp List.not_mem_nil⟩
  unfold slots at e
  by_cases hi : i < ds.length
  · rw [List.getElem?_append_left (by simpa using hi), List.getElem?_map] at e
    obtain ⟨d, hd, e⟩ := Option.map_eq_some_iff.mp e
    cases e
    obtain ⟨v, hv, rv⟩ := r.get hd
    refine ⟨v, ?_, .sh rv, List.nodup_nil⟩
    unfold L2.start
    rw [List.getElem?_append_left (by simpa [hlen] using hi), List.getElem?_map, hv]
    rfl
  · rw [List.getElem?_append_right (by simpa using hi), List.getElem?_replicate] at e
    split at e <;> cases e
section
variable {P : Program} {w : World} {K : PySem.W.Frag} {mg : Str → Option Value} {base : Heap}
/-- THE RULE for a def: its body's rules, the meaning of that term, and what it comes to -/
theorem fn_sem {x qual : Str} {st : Stmt} {f : Addr} {fd : FuncData} {N ps : List Str} {k : Nat} (F : Fun K x qual st f fd) (Sc : FnScope N ps (defScope st)) (g : List D → Res W) (Mu : List Nat) (m : En → Res Fl)
    (hb : ∀ (cdv : Value) (A : Around) (outer : List Env) (s : Shared) (H : Hp) (E : XK), Room k (A.deeper (envOfC qual (defScope st) s.heap.objs.size f cdv)) →
      ∃ t, PSs (cxOf (L2.CX P w) P w K mg base N qual (defScope st) f cdv A outer s H E) (defBody st) t ∧ SemS K Mu E t m)
    (hg : ∀ ds, g ds ≠ .st → runD N.length m ds = g ds) : FnOk P w K mg base (L2.CX P w) (k + 1) f fd ps (spM K ps.length g) := by
  have hpl : ps.length ≤ N.length := by have := congrArg List.length Sc.pre; rw [List.length_take] at this; omega
  refine F.okX Sc (fun vs H Q E h => h.1) fun cdv A outer s H vs Q E hr h => ?_
  obtain ⟨t, h1, h2⟩ := hb cdv A outer s H E hr
  refine ⟨t, h1, ?_⟩
  obtain ⟨hl, S, ds, hs, r, q⟩ := h
  have hne : g ds ≠ .st := fun e => by rw [e] at q; exact q
  have e := hg ds hne
  rw [← e] at q
  refine h2.run (reps_start N hs r (by omega)) ?_
  unfold runD at q
  cases em : m (slots N.length ds) with
  | ex z => rw [em] at q; exact q
  | st => rw [em] at q; exact q
  | ok fl =>
    rw [em] at q
    cases fl with
    | nx en => exact fun σ' S' H' y _ => q .non S' H' [] (.sh ⟨y.ex0, y.base, y.sub, y.nw⟩ .non)
    | rt w => exact fun v S' H' fp y => q v S' H' fp ⟨⟨y.ex0, y.base, y.sub, y.nw⟩, y.own, y.nd, y.new⟩
    | bk en => exact q.elim
    | ct en => exact q.elim
/-- a known def: what it answers, once for all -/
theorem FnOk.fit {CX : CXT} {k n : Nat} {f : Addr} {fd : FuncData} {ps : List Str} {g g' : List D → Res W} (F : FnOk P w K mg base CX k f fd ps (spM K n g)) (h : ∀ ds, g' ds ≠ .st → g ds = g' ds) : FnOk P w K mg base CX k f fd ps (spM K n g') :=
  F.imp fun vs H Q E q => by
    obtain ⟨hl, S, ds, hs, r, q⟩ := q
    refine ⟨hl, S, ds, hs, r, ?_⟩
    have hne : g' ds ≠ .st := fun e => by rw [e] at q; exact q
    rw [h ds hne]
    exact q
end

/-! ### calls of defs -/
def flatW : W → Bool
  | .sh d => flatD d
  | _ => false
def onlyFlat : Res W → Res W
  | .ok w => if flatW w then .ok w else .st
  | r => r
def asked (n : Nat) (f : List D → Res W) : List D → Res W := fun ds => if ds.length = n then f ds else .st
def mCall (n : Nat) (f : List D → Res W) (ma mx : En → Res (List D)) : En → Res W := fun e => match ma e with
  | .ok ds => asked n f ds
  | .ex x => .ex x
  | .st => (mx e).bind fun ds => onlyFlat (asked n f ds)
section
variable {K : PySem.W.Frag} {E : XK}
theorem asked_ok {n : Nat} {f : List D → Res W} {ds : List D} {r : Res W} (h : asked n f ds = r) (hr : r ≠ .st) : ds.length = n ∧ f ds = r := by
  unfold asked at h
  split at h
  · exact ⟨by assumption, h⟩
  · exact (hr h.symm).elim
theorem New.flat {S S0 H S' H' : Hp} {v : V} {w : W} {fp : List Addr} (n : New K S0 H S' H' v w fp) (hf : flatW w = true) (hs : Same S H) : New K S H S H' v w [] := by
  have hh := n.gr.hh
  cases w with
  | sh d =>
    have o := n.own
    cases o with
    | sh r =>
      refine .sh (.hp hs hh) ?_
      cases r <;> first | (cases hf) | skip
      · exact .non
      · exact .bl _
      · exact .int _
      · exact .str _
  | _ => cases hf
instance semE_call {n : Nat} {f : List D → Res W} {t : TA} {Fa Fx : List Nat} {ma mx : En → Res (List D)} [ha : SemA K E t Fa ma] [hx : SemAX K E t Fx mx] : SemE K E (tCall (spM K n f) [] E t) Fx (mCall n f ma mx) where
  ok := fun {env σ S H Q w} x e k => by
    unfold mCall at e
    split at e
    · rename_i ds e1
      refine ha.ok x e1 fun vs S' H' g r => ?_
      obtain ⟨hl, e2⟩ := asked_ok e (by simp)
      refine ⟨by rw [List.append_nil, r.len]; exact hl, S', ds, g.sub, by rw [List.append_nil]; exact r, ?_⟩
      rw [e2]
      exact fun v S2 H2 fp nw => k v S2 H2 fp (nw.later g)
    · cases e
    · obtain ⟨ds, e1, e2⟩ := Res.of_ok e
      refine hx.ok x e1 fun vs H' g r => ?_
      unfold onlyFlat at e2
      split at e2
      · rename_i w' e3
        split at e2
        · rename_i hf
          cases e2
          obtain ⟨hl, e4⟩ := asked_ok e3 (by simp)
          refine ⟨by rw [List.append_nil, r.len]; exact hl, H', ds, Same.refl H', by rw [List.append_nil]; exact r, ?_⟩
          rw [e4]
          intro v S2 H2 fp nw
          have y := Gr.hp x.sub g
          exact k v S H2 [] ((nw.flat hf y.sub).later y)
        · cases e2
      · rename_i h1
        exact (h1 _ e2).elim
  ex := fun {env σ S H Q z} x e k => by
    unfold mCall at e
    split at e
    · rename_i ds e1
      refine ha.ok x e1 fun vs S' H' g r => ?_
      obtain ⟨hl, e2⟩ := asked_ok e (by simp)
      refine ⟨by rw [List.append_nil, r.len]; exact hl, S', ds, g.sub, by rw [List.append_nil]; exact r, ?_⟩
      rw [e2]
      exact fun c d H2 s q => k c d H2 (g.hh.trans s) q
    · rename_i z' e1
      cases e
      exact ha.ex x e1 k
    · rcases Res.of_ex e with e1 | ⟨ds, e1, e2⟩
      · exact hx.ex x e1 k
      · refine hx.ok x e1 fun vs H' g r => ?_
        unfold onlyFlat at e2
        split at e2
        · split at e2 <;> cases e2
        · obtain ⟨hl, e4⟩ := asked_ok e2 (by simp)
          refine ⟨by rw [List.append_nil, r.len]; exact hl, H', ds, Same.refl H', by rw [List.append_nil]; exact r, ?_⟩
          rw [e4]
          exact fun c d H2 s q => k c d H2 (g.trans s) q

/-! ### truth -/
def truD : D → Res Bool
  | .non => .ok false
  | .bl b => .ok b
  | .int i => .ok (i != 0)
  | .str z => if small z.length then .ok ((z.length : Int) != 0) else .st
  | .lst xs => .ok (!xs.isEmpty)
  | .tup xs => .ok (!xs.isEmpty)
  | .dic ks _ => .ok (!ks.isEmpty)
  | _ => .st
theorem isEmpty_len {α β : Type} {xs : List α} {ys : List β} (h : xs.length = ys.length) : xs.isEmpty = ys.isEmpty := by
  cases xs <;> cases ys <;> simp_all
theorem zip_len {α β : Type} {ks : List α} {vs : List β} (l : vs.length = ks.length) : ks.length = (ks.zip vs).length := by rw [List.length_zip, l, Nat.min_self]
theorem truD_rep {H : Hp} {v : V} {d : D} {b : Bool} (r : Rep K H v d) (h : truD d = .ok b) : TruV K v H b := by
  cases r with
  | non => cases h; rfl
  | bl b => cases h; rfl
  | int i => cases h; rfl
  | str x =>
    simp only [truD] at h
    split at h
    · rename_i hz; cases h; exact ⟨small_le hz, rfl⟩
    · cases h
  | lst e q => cases h; exact .inl ⟨_, SqL.of e, by rw [isEmpty_len q.len]⟩
  | tup e q => cases h; exact .inr (.inl ⟨_, SqT.of e, by rw [isEmpty_len q.len]⟩)
  | dic e l q => cases h; exact .inr (.inr ⟨_, e, by rw [isEmpty_len (zip_len l)]⟩)
  | _ => cases h
theorem truD_ex {d : D} {x : Xc} (h : truD d = .ex x) : False := by
  unfold truD at h
  repeat' split at h
  all_goals cases h
def mTru (m : En → Res D) : En → Res Bool := fun e => (m e).bind truD
theorem pt_tru {X : Cx} {a : Expr} {ta : TE} (ha : PE X a ta) (he : ∀ whole, isTrue a X.env whole = (do let v ← whole; standAt a.pos; holding [v] (truthy v)) := by intro _; rfl) : PT X a (tTru X.K ta) := pt_truth ha he
instance semT_tru {ta : TE} {F : List Nat} {m : En → Res D} [ha : SemX K E ta F m] : SemT K E (tTru K ta) F (mTru m) where
  ok := fun {env σ S H Q b} x e k => by
    obtain ⟨d, e1, e2⟩ := Res.of_ok e
    exact ha.ok x e1 fun v H' g r => ⟨b, truD_rep r e2, k H' g⟩
  ex := fun {env σ S H Q b} x e k => by
    rcases Res.of_ex e with e1 | ⟨d, e1, e2⟩
    · exact ha.ex x e1 k
    · exact (truD_ex e2).elim
/-! a value by truth: not x -/
def mUn (f : D → Res D) (m : En → Res D) : En → Res W := fun e => (m e).bind fun d => (f d).map .sh
class UnX (K : PySem.W.Frag) (r : V → Hp → VK → Prop) (f : outParam (D → Res D)) : Prop where
  ok : ∀ {H v d Q z}, Rep K H v d → f d = .ok z → (∀ y, (∀ S, Rep K S y z) → Q y H) → r v H Q
  ex : ∀ {d x}, f d = .ex x → False
instance semE_un {r : V → Hp → VK → Prop} {f : D → Res D} {ta : TE} {F : List Nat} {m : En → Res D} [hf : UnX K r f] [ha : SemX K E ta F m] : SemE K E (tUn r ta) F (mUn f m) where
  ok := fun {env σ S H Q w} x e k => by
    obtain ⟨d, e1, e2⟩ := Res.of_ok e
    obtain ⟨z, e3, rfl⟩ := Res.of_okm e2
    exact ha.ok x e1 fun v H' g r => hf.ok r e3 fun y h => k y S H' [] (.sh (.hp x.sub g) (h S))
  ex := fun {env σ S H Q w} x e k => by
    rcases Res.of_ex e with e1 | ⟨d, e1, e2⟩
    · exact ha.ex x e1 k
    · exact (hf.ex (Res.of_exm e2)).elim
instance unX_neg : UnX K (rU fun i => .int (-i)) negD where
  ok := fun {H v d Q z} r h k => by
    unfold negD at h
    split at h <;> first | cases h | skip
    cases r
    exact ⟨_, rfl, k _ fun S => .int _⟩
  ex := fun h => by unfold negD at h; split at h <;> cases h

/-! ### methods of texts -/
/-- o.m(e) of a text -/
class M1V (K : PySem.W.Frag) (r : V → List V → Hp → VK → Prop) (f : outParam (Str → D → Res W)) : Prop where
  ok : ∀ {S H a u e Q w}, Same S H → View K S H u e → f a e = .ok w → (∀ z S' H' fp, New K S H S' H' z w fp → Q z H') → r (.str a) [u] H Q
  ex : ∀ {a e x}, f a e = .ex x → False
def mM1 (f : Str → D → Res W) (ma mb : En → Res D) : En → Res W := fun e => (ma e).bind fun a => match a with
  | .str a => (mb e).bind fun b => f a b
  | _ => .st
instance semE_m1 {r : V → List V → Hp → VK → Prop} {f : Str → D → Res W} {ta tb : TE} {Fa Fb : List Nat} {ma mb : En → Res D} [hf : M1V K r f] [ha : SemX K E ta Fa ma] [hb : SemV K E tb Fb mb] : SemE K E (tM1 r ta tb) (Fa ++ Fb) (mM1 f ma mb) where
  ok := fun {env σ S H Q w} x e k => by
    obtain ⟨a, e1, e⟩ := Res.of_ok e
    split at e
    · obtain ⟨b, e2, e⟩ := Res.of_ok e
      refine ha.ok x e1 fun v H1 g1 r1 => ?_
      cases r1
      refine ⟨⟨_, rfl⟩, ?_⟩
      have y := Gr.hp x.sub g1
      exact hb.ok (x.gr y) e2 fun u S2 H2 g2 r2 => hf.ok g2.sub r2 e fun z S' H' fp n => k z S' H' fp (n.later (y.trans g2))
    · cases e
  ex := fun {env σ S H Q w} x e k => by
    rcases Res.of_ex e with e1 | ⟨a, e1, e⟩
    · exact ha.ex x e1 k
    · split at e
      · refine ha.ok x e1 fun v H1 g1 r1 => ?_
        cases r1
        refine ⟨⟨_, rfl⟩, ?_⟩
        have y := Gr.hp x.sub g1
        rcases Res.of_ex e with e2 | ⟨b, e2, e⟩
        · exact hb.ex (x.gr y) e2 fun c d H' s q => k c d H' (g1.trans s) q
        · exact (hf.ex e).elim
      · cases e
def rJoin (K : PySem.W.Frag) : V → List V → Hp → VK → Prop := fun x xs H Q => ∃ a p, ∃ ys : List Str, x = .str a ∧ xs = [.ref p] ∧ (SqL K H p (ys.map V.str) ∨ SqT K H p (ys.map V.str)) ∧
      (ys.map (·.length)).sum + ys.length * a.length ≤ 16777216 ∧ Q (.str (Txt.join a ys)) H
theorem pe_joinU {X : Cx} {o e : Expr} {to te : TE} {apos pos : Pos} (ho : PE X o to) (he : PE X e te) (hs : starEach [e] X.env = [(false, eval e X.env)] := by rfl) (hbase : attributeBase o "join" X.env (eval o X.env) = eval o X.env := by rfl) (hline : (apos.endLine == pos.line) = true := by rfl) :
    PE X (.Call (.Attribute o "join" apos) [e] [] pos) (tM1 (rJoin X.K) to te) := pe_join ho he hs hbase hline
def strsD : List D → Option (List Str)
  | [] => some []
  | .str x :: ds => (strsD ds).map fun xs => x :: xs
  | _ :: _ => none
theorem strsD_rep {S : Hp} : ∀ {vs : List V} {ds : List D} {xs : List Str}, Reps K S vs ds → strsD ds = some xs → vs = xs.map V.str
  | _, _, _, .nil, h => by cases h; rfl
  | _, _, _, .cons r t, h => by
    unfold strsD at h
    split at h
    · rename_i e; cases e
    · rename_i x ds e
      cases e
      obtain ⟨xs, h1, rfl⟩ := Option.map_eq_some_iff.mp h
      cases r
      rw [strsD_rep t h1]
      rfl
    · cases h
def joinD (a : Str) : D → Res W
  | .lst xs => match strsD xs with
    | some ys => if small ((ys.map (·.length)).sum + ys.length * a.length) then .ok (.sh (.str (Txt.join a ys))) else .st
    | none => .st
  | _ => .st
instance m1_join : M1V K (rJoin K) joinD where
  ok := fun {S H a u e Q w} hs r h k => by
    unfold joinD at h
    split at h <;> first | cases h | skip
    rename_i xs
    split at h <;> first | cases h | skip
    rename_i ys hy
    split at h <;> first | cases h | skip
    rename_i hz
    obtain ⟨p, vs, rfl, hp, q⟩ := r.lst_inv hs
    have := strsD_rep q hy
    subst this
    exact ⟨a, p, ys, rfl, rfl, .inl (SqL.of hp), by have := of_decide_eq_true hz; omega, k _ S H [] (.sh (.refl hs) (.str _))⟩
  ex := fun h => by
    unfold joinD at h
    repeat' split at h
    all_goals cases h

/-! ### displays of dicts -/
def mDicK : En → Res W := fun _ => .ok (.dic [] [])
def mDicT : En → Res W := fun _ => .ok (.dit [] [])
instance semE_dnewK : SemE K E tDNewK [] mDicK where
  ok := fun {env σ S H Q w} x e k => by
    cases e
    intro p hp
    exact k _ S _ [p] ⟨.hp x.sub fun a o q => by rw [upd_ne (ne_of_none q hp)]; exact q, .dic (ks := []) (vs := []) upd_same rfl .nil, by simp, fun q hq => by rw [List.mem_singleton.mp hq]; exact ⟨hp, x.sub.free hp⟩⟩
  ex := fun x e k => by cases e
instance semE_dnewT : SemE K E tDNewT [] mDicT where
  ok := fun {env σ S H Q w} x e k => by
    cases e
    intro p hp
    exact k _ S _ [p] ⟨.hp x.sub fun a o q => by rw [upd_ne (ne_of_none q hp)]; exact q, .dit (ks := []) (vs := []) upd_same rfl .nil, by simp, fun q hq => by rw [List.mem_singleton.mp hq]; exact ⟨hp, x.sub.free hp⟩⟩
  ex := fun x e k => by cases e
/-- the pairs of a display -/
class SemPP (K : PySem.W.Frag) (E : XK) (trs : List (TE × TE)) (F : outParam (List Nat)) (m : outParam (En → Res (List (D × D)))) : Prop where
  ok : ∀ {env σ S H Q ps}, Vw K env σ S H → m env = .ok ps → (∀ us vs S' H', Gr S H S' H' → Reps K S' us (ps.map (·.1)) → Reps K S' vs (ps.map (·.2)) → Q (us.zip vs) H') → tPairs trs σ H Q
  ex : ∀ {env σ S H Q x}, Vw K env σ S H → m env = .ex x → (∀ cls d H', Same H H' → XR K x cls d H' → E cls d H') → tPairs trs σ H Q
def mPNil : En → Res (List (D × D)) := fun _ => .ok []
def mPCons (mk mv : En → Res D) (mr : En → Res (List (D × D))) : En → Res (List (D × D)) := fun e => (mk e).bind fun k => (mv e).bind fun v => (mr e).map fun ps => (k, v) :: ps
instance semPP_nil : SemPP K E [] [] mPNil where
  ok := fun {env σ S H Q ps} x e k => by cases e; exact k [] [] S H (.refl x.sub) .nil .nil
  ex := fun x e k => by cases e
instance semPP_cons {tk tv : TE} {trs : List (TE × TE)} {Fk Fv Fr : List Nat} {mk mv : En → Res W} {mr : En → Res (List (D × D))} [hk : SemE K E tk Fk mk] [hv : SemE K E tv Fv mv] [hr : SemPP K E trs Fr mr] : SemPP K E ((tk, tv) :: trs) (Fk ++ Fv ++ Fr) (mPCons (mD mk) (mD mv) mr) where
  ok := fun {env σ S H Q w} x e k => by
    obtain ⟨a, e1, e⟩ := Res.of_ok e
    obtain ⟨b, e2, e⟩ := Res.of_ok e
    obtain ⟨ps, e3, rfl⟩ := Res.of_okm e
    refine hk.okD x e1 fun v S1 H1 g1 r1 => ?_
    refine hv.okD (x.gr g1) e2 fun u S2 H2 g2 r2 => ?_
    refine hr.ok ((x.gr g1).gr g2) e3 fun us vs S3 H3 g3 r3 r4 => ?_
    exact k (v :: us) (u :: vs) S3 H3 ((g1.trans g2).trans g3) (.cons ((r1.up g2.ss).up g3.ss) r3) (.cons (r2.up g3.ss) r4)
  ex := fun {env σ S H Q w} x e k => by
    rcases Res.of_ex e with e1 | ⟨a, e1, e⟩
    · exact hk.ex x (Res.of_exm e1) k
    refine hk.okD x e1 fun v S1 H1 g1 r1 => ?_
    rcases Res.of_ex e with e2 | ⟨b, e2, e⟩
    · exact hv.ex (x.gr g1) (Res.of_exm e2) fun c d H' s q => k c d H' (g1.hh.trans s) q
    refine hv.okD (x.gr g1) e2 fun u S2 H2 g2 r2 => ?_
    exact hr.ex ((x.gr g1).gr g2) (Res.of_exm e) fun c d H' s q => k c d H' ((g1.hh.trans g2.hh).trans s) q
theorem putK_out {κ : Type} [DecidableEq κ] {v : V} {k : κ} : ∀ {kvs : List (κ × V)}, k ∉ kvs.map (·.1) → putK kvs k v = kvs ++ [(k, v)] := fun {kvs} h => by
  apply putK_new
  unfold valV
  rw [Option.map_eq_none_iff, List.find?_eq_none]
  intro p hp he
  exact h (List.mem_map.mpr ⟨p, hp, of_decide_eq_true he⟩)
theorem merge_nodup : ∀ {more acc : List (Key × V)}, ((acc ++ more).map (·.1)).Nodup → mergeK acc more = acc ++ more
  | [], acc, _ => by show acc = acc ++ []; rw [List.append_nil]
  | p :: r, acc, h => by
    show mergeK (putK acc p.1 p.2) r = _
    have h1 : p.1 ∉ acc.map (·.1) := by
      rw [List.map_append, List.map_cons, List.nodup_append] at h
      exact fun z => h.2.2 _ z _ List.mem_cons_self rfl
    rw [putK_out h1, merge_nodup (by rw [List.append_assoc]; exact h)]
    simp
theorem keys_kV : ∀ {ds : List D} {vs : List V} {ks : List Key} {S : Hp}, Reps K S vs ds → toKs ds = some ks → vs = ks.map kV := fun r h => toKs_rep r h
theorem zip_map_fst {α β : Type} : ∀ {as : List α} {bs : List β}, as.length = bs.length → (as.zip bs).map (·.1) = as
  | [], [], _ => rfl
  | a :: as, b :: bs, h => by rw [List.zip_cons_cons, List.map_cons, zip_map_fst (by simpa using h)]
theorem zip_kV : ∀ (ks : List Key) (vs : List V), (ks.map kV).zip vs = (ks.zip vs).map fun kv => (kV kv.1, kv.2)
  | [], _ => by simp
  | _ :: _, [] => by simp
  | a :: as, b :: bs => by simp [zip_kV as bs]
def mDisp (mp : En → Res (List (D × D))) : En → Res W := fun e => (mp e).bind fun ps => match toKs (ps.map (·.1)) with
  | some ks => if ks.Nodup ∧ ps.length ≤ 15 then .ok (.dic ks (ps.map (·.2))) else .st
  | none => .st
instance semE_disp {trs : List (TE × TE)} {F : List Nat} {mp : En → Res (List (D × D))} [hp : SemPP K E trs F mp] : SemE K E (tDisp trs) F (mDisp mp) where
  ok := fun {env σ S H Q w} x e k => by
    obtain ⟨ps, e1, e⟩ := Res.of_ok e
    split at e
    · rename_i ks hks
      split at e
      · rename_i hc
        cases e
        intro p hpn
        have g0 : Gr S H S (upd H p (.dK [])) := .hp x.sub fun a o q => by rw [upd_ne (ne_of_none q hpn)]; exact q
        refine hp.ok (x.gr g0) e1 fun us vs S1 H1 g1 r1 r2 => ?_
        have e2 := toKs_rep r1 hks
        have hl : ks.length = vs.length := by
          have a1 := r1.len
          have a2 := r2.len
          rw [e2, List.length_map, List.length_map] at a1
          rw [List.length_map] at a2
          omega
        have hlps : ks.length = ps.length := by
          have a1 := r1.len
          rw [e2, List.length_map, List.length_map] at a1
          exact a1
        have hS : S1 p = none := g1.gone (x.sub.free hpn) (by rw [upd_same]; rfl)
        refine ⟨g1.hh _ _ upd_same, ks.zip vs, ?_, ?_, ?_⟩
        · rw [e2]
          exact zip_kV ks vs
        · rw [List.length_zip]; omega
        · rw [merge_nodup (by rw [List.nil_append, zip_map_fst hl]; exact hc.1), List.nil_append]
          have hh : Same H (upd H1 p (.dK (ks.zip vs))) := fun a o q => by
            rw [upd_ne (ne_of_none q hpn)]
            exact (g0.trans g1).hh a o q
          have gg := g0.trans g1
          exact k _ S1 _ [p] ⟨⟨gg.ss, hh, fun a o q => by rw [upd_ne (ne_of_none q hS)]; exact gg.sub a o q, gg.nw⟩, .dic upd_same hl.symm r2, by simp, fun q hq => by rw [List.mem_singleton.mp hq]; exact ⟨hpn, hS⟩⟩
      · cases e
    · cases e
  ex := fun {env σ S H Q w} x e k => by
    rcases Res.of_ex e with e1 | ⟨ps, e1, e⟩
    · intro p hpn
      have g0 : Gr S H S (upd H p (.dK [])) := .hp x.sub fun a o q => by rw [upd_ne (ne_of_none q hpn)]; exact q
      exact hp.ex (x.gr g0) e1 fun c d H' s q => k c d H' (g0.hh.trans s) q
    · split at e
      · split at e <;> cases e
      · cases e
end
end Ly

set_option Elab.async false
set_option linter.all false
set_option maxRecDepth 100000
namespace Ly
open PySem L2 PyProof.Rows
theorem room65 {k : Nat} {A : Around} (r : Room k A) : A.units + 65 < cLine := by have := r.un; omega
theorem passD {P : Program} {w : World} {K : PySem.W.Frag} {mg : Str → Option Value} {base : Heap} {N : List Str} {qual : Str} {scope : Scope} {f : Addr} {cd : Value} {A : Around} {outer : List Env} {s : Shared} {H : Hp} {E : XK} :
    Passes (L2.CX P w) (cxOf (L2.CX P w) P w K mg base N qual scope f cd A outer s H E) E := passes_call (W := fun cls d _ H => E cls d H) (takes_of rfl rfl rfl rfl) fun _ _ _ _ h => h
/-! the rules with the written part told -/
section
variable {X : Cx} (K : PySem.W.Frag) (hK : X.K = K)
include hK
theorem ke_eq (hu : X.A.units + 64 < cLine) : OpR X (compareOp .Eq) (rEqU K) := by subst hK; exact op_eqU hu
theorem ke_ne (hu : X.A.units + 64 < cLine) : OpR X (compareOp .NotEq) (rNeU K) := by subst hK; exact op_neU hu
theorem ke_in (hu : X.A.units + 65 < cLine) : OpR X (compareOp .In) (rInU K) := by subst hK; exact op_inU hu
theorem ke_notIn (hu : X.A.units + 65 < cLine) : OpR X (compareOp .NotIn) (rNotInU K) := by subst hK; exact op_notInU hu
theorem ke_add : OpR X (binaryOp .Add) (rAddU K) := by subst hK; exact op_addU
theorem ke_mul : OpR X (binaryOp .Mult) (rMulU K) := by subst hK; exact op_mulU
theorem ke_ix (hu : X.A.units + 1 < cLine) : IxR X (rIxU K) := by subst hK; exact ix_U hu
theorem ke_sl : SlR X (rSlU K) := by subst hK; exact sl_U
theorem ke_len : CallR X (.builtin "len") (rLen K) := by subst hK; exact call_lenU
theorem ke_isi : CallR X (.builtin "isinstance") (rIsi K) := by subst hK; exact call_isi
theorem kt_tru {a : Expr} {ta : TE} (ha : PE X a ta) (he : ∀ whole, isTrue a X.env whole = (do let v ← whole; standAt a.pos; holding [v] (truthy v)) := by intro _; rfl) : PT X a (tTru K ta) := by subst hK; exact pt_tru ha he
theorem kp_join {o e : Expr} {to te : TE} {apos pos : Pos} (ho : PE X o to) (he : PE X e te) (hs : starEach [e] X.env = [(false, eval e X.env)] := by rfl) (hbase : attributeBase o "join" X.env (eval o X.env) = eval o X.env := by rfl) (hline : (apos.endLine == pos.line) = true := by rfl) :
    PE X (.Call (.Attribute o "join" apos) [e] [] pos) (tM1 (rJoin K) to te) := by subst hK; exact pe_joinU ho he hs hbase hline
theorem ki_U {tg e : Expr} {te : TE} (he : PE X e te) : PI X tg e (iU K te) := by subst hK; exact pi_U he
theorem ki_enum {e : Expr} {ta : TA} {p pos tpos : Pos} {elts : List Expr} {kk : Nat} (hg : Gl X "enumerate") (hm : X.mg "enumerate" = none) (ha : PA X [e] ta) (hs : starEach [e] X.env = [(false, eval e X.env)] := by rfl) :
    PI X (.Tuple elts kk tpos) (.Call (.Name "enumerate" p) [e] [] pos) (iEnum K ta) := by subst hK; exact pi_enum hg hm ha hs
theorem kg_tup {es : List Expr} {k : Nat} {t : TGs} {n : Nat} {pos : Pos} (hc : X.calm = true) (h : PGs X es t)
    (hn : (assignEach es X.env).length = n := by rfl) (hst : (assignEach es X.env).findIdx? (·.1) = none := by rfl) : PG X (.Tuple es k pos) (gTup K n t) := by subst hK; exact pg_tup hc h hn hst
end
end Ly

set_option Elab.async false
set_option linter.all false
set_option maxRecDepth 100000
/-! LyS: mirrors, evaluated step by step (simp). -/
namespace Ly
open PySem L2 PyProof.Rows
section
variable {f : D → D → Res W} {fx : D → D → Res D} {e : En} {i : Nat} {w : W} {d : D} {F : List Nat} {n : Nat}
@[simp] theorem a_mD (m : En → Res W) : mD m e = (m e).map W.toD := rfl
@[simp] theorem a_mK : mK d e = .ok (.sh d) := rfl
@[simp] theorem a_mVar : mVar i e = match e[i]? with
  | some (some (.sh d)) => .ok (.sh d)
  | _ => .st := rfl
@[simp] theorem a_mVarV : mVarV i e = match e[i]? with
  | some (some (.obj _ _ _)) => .st
  | some (some w) => .ok w.toD
  | _ => .st := rfl
@[simp] theorem a_mVarX : mVarX i e = match e[i]? with
  | some (some w) => .ok w.toD
  | _ => .st := rfl
@[simp] theorem a_mOp (ma mb : En → Res D) : mOp f ma mb e = (ma e).bind fun a => (mb e).bind fun b => f a b := rfl
@[simp] theorem a_mOpX (ma mb : En → Res D) : mOpX fx ma mb e = (ma e).bind fun a => (mb e).bind fun b => (fx a b).map .sh := rfl
@[simp] theorem a_mTest (ma : En → Res D) : mTest ma e = (ma e).bind fun d => match d with
  | .bl b => .ok b
  | _ => .st := rfl
@[simp] theorem a_mAnd (ma mb : En → Res Bool) : mAnd ma mb e = (ma e).bind fun b => if b = true then mb e else .ok false := rfl
@[simp] theorem a_mOr (ma mb : En → Res Bool) : mOr ma mb e = (ma e).bind fun b => if b = true then .ok true else mb e := rfl
@[simp] theorem a_mNot (ma : En → Res Bool) : mNot ma e = (ma e).map (!·) := rfl
@[simp] theorem a_mBl (m : En → Res Bool) : mBl m e = (m e).map fun b => .sh (.bl b) := rfl
@[simp] theorem a_mAndV (ma mb : En → Res D) : mAndV ma mb e = (mAnd (mTest ma) (mTest mb) e).map fun b => .sh (.bl b) := rfl
@[simp] theorem a_mOrV (ma mb : En → Res D) : mOrV ma mb e = (mOr (mTest ma) (mTest mb) e).map fun b => .sh (.bl b) := rfl
@[simp] theorem a_mNotV (ma : En → Res D) : mNotV ma e = (mNot (mTest ma) e).map fun b => .sh (.bl b) := rfl
@[simp] theorem a_mIf (mc : En → Res Bool) (ma mb : En → Res W) : mIf mc ma mb e = (mc e).bind fun b => if b = true then ma e else mb e := rfl
@[simp] theorem a_mNil : mNil e = .ok [] := rfl
@[simp] theorem a_mCons (m : En → Res D) (mr : En → Res (List D)) : mCons m mr e = (m e).bind fun d => (mr e).map fun ds => d :: ds := rfl
@[simp] theorem a_mLst (ma : En → Res (List D)) : mLst ma e = (ma e).bind fun ds => if small ds.length then .ok (.lst ds) else .st := rfl
@[simp] theorem a_mTup (ma : En → Res (List D)) : mTup ma e = (ma e).bind fun ds => if small ds.length then .ok (.sh (.tup ds)) else .st := rfl
@[simp] theorem a_mAsg (Mu : List Nat) (me : En → Res W) : mAsg Mu F i me e = (me (fz F e)).map fun w => .nx ((fz F e).set i (some (keepW Mu i w))) := rfl
@[simp] theorem a_mAsgT (me : En → Res W) (mg : D → En → Res En) : mAsgT F me mg e = (mD me (fz F e)).bind fun d => (mg d (fz F e)).map .nx := rfl
@[simp] theorem a_mName : mName i d e = .ok (e.set i (some (.sh d))) := rfl
@[simp] theorem a_mGNil0 : mGNil [] e = .ok e := rfl
@[simp] theorem a_mGCons (m : D → En → Res En) (mr : List D → En → Res En) (d : D) (ds : List D) : mGCons m mr (d :: ds) e = (m d e).bind fun e => mr ds e := rfl
@[simp] theorem a_mGTup (m : List D → En → Res En) (xs : List D) : mGTup n m (.tup xs) e = if xs.length = n then m xs e else .st := rfl
@[simp] theorem a_mSeq (a b : En → Res Fl) : mSeq a b e = (a e).bind fun r => match r with
  | .nx e => b e
  | r => .ok r := rfl
@[simp] theorem a_mNext : mNext e = .ok (.nx e) := rfl
@[simp] theorem a_mBreak : mBreak e = .ok (.bk e) := rfl
@[simp] theorem a_mCont : mCont e = .ok (.ct e) := rfl
@[simp] theorem a_mIfS (mc : En → Res Bool) (ma mb : En → Res Fl) : mIfS F mc ma mb e = (mc (fz F e)).bind fun b => if b = true then ma (fz F e) else mb (fz F e) := rfl
@[simp] theorem a_mDrop (me : En → Res W) : mDrop F me e = (me (fz F e)).map fun _ => .nx (fz F e) := rfl
@[simp] theorem a_mRet (me : En → Res W) : mRet F me e = (me (fz F e)).map .rt := rfl
@[simp] theorem a_mRetVar : mRetVar i e = match e[i]? with
  | some (some w) => .ok (.rt w)
  | _ => .st := rfl
@[simp] theorem a_mRetN : mRetN e = .ok (.rt (.sh .non)) := rfl
@[simp] theorem a_mFor (mi : En → Res (List D)) (mg : D → En → Res En) (mb : En → Res Fl) : mFor F mi mg mb e = (mi (fz F e)).bind fun ds => runL mg mb ds (fz F e) := rfl
@[simp] theorem a_mAppend (ma : En → Res (List D)) : mAppend F i ma e = match (fz F e)[i]? with
  | some (some (.lst xs)) => (ma (fz F e)).bind fun ds => match ds with
    | [d] => if small xs.length then .ok (.nx ((fz F e).set i (some (.lst (xs ++ [d]))))) else .st
    | _ => .st
  | _ => .st := rfl
@[simp] theorem a_mItems (m : En → Res D) : mItems m e = (m e).bind itemsD := rfl
@[simp] theorem a_mRng1 (m : En → Res (List D)) : mRng1 m e = (m e).bind rng1D := rfl
@[simp] theorem a_mRng2 (m : En → Res (List D)) : mRng2 m e = (m e).bind rng2D := rfl
@[simp] theorem a_mEnum (m : En → Res (List D)) : mEnum m e = (m e).bind enumItems := rfl
@[simp] theorem a_mTrue : mTrue e = .ok true := rfl
@[simp] theorem a_mLc (ts vs : List Nat) (mi : En → Res (List D)) (mg : D → En → Res En) (mt : En → Res Bool) (me : En → Res D) : mLc ts vs mi mg mt me e = if ts.all (fun i => vs.contains i) then
  (mi e).bind fun ds => (noEx (runC mg mt me ds (wipeE e vs))).bind fun ys => if small ys.length then .ok (.lst ys) else .st
  else .st := rfl
@[simp] theorem a_mCal (f : List D → Res W) (ma : En → Res (List D)) : mCal f ma e = (ma e).bind f := rfl
@[simp] theorem a_mCall (f : List D → Res W) (ma mx : En → Res (List D)) : mCall n f ma mx e = match ma e with
  | .ok ds => asked n f ds
  | .ex x => .ex x
  | .st => (mx e).bind fun ds => onlyFlat (asked n f ds) := rfl
@[simp] theorem a_asked (f : List D → Res W) (ds : List D) : asked n f ds = if ds.length = n then f ds else .st := rfl
@[simp] theorem a_mChain (f g : D → D → Res D) (ma mb mc : En → Res D) : mChain f g ma mb mc e = (ma e).bind fun a => (mb e).bind fun b => (f a b).bind fun t => match t with
  | .bl true => (mc e).bind fun c => (g b c).map .sh
  | .bl false => .ok (.sh (.bl false))
  | _ => .st := rfl
@[simp] theorem a_mSl (ma : En → Res D) (ml mh : En → Res (Option Int)) : mSl ma ml mh e = (ma e).bind fun a => (ml e).bind fun l => (mh e).bind fun h => slD a l h := rfl
@[simp] theorem a_mNoPart : mNoPart e = .ok none := rfl
@[simp] theorem a_mPart (m : En → Res D) : mPart m e = (m e).bind fun d => match d with
  | .int i => .ok (some i)
  | _ => .st := rfl
@[simp] theorem a_mTru (m : En → Res D) : mTru m e = (m e).bind truD := rfl
@[simp] theorem a_mUn (f : D → Res D) (m : En → Res D) : mUn f m e = (m e).bind fun d => (f d).map .sh := rfl
@[simp] theorem a_mM1 (f : Str → D → Res W) (ma mb : En → Res D) : mM1 f ma mb e = (ma e).bind fun a => match a with
  | .str a => (mb e).bind fun b => f a b
  | _ => .st := rfl
@[simp] theorem a_mDicK : mDicK e = .ok (.dic [] []) := rfl
@[simp] theorem a_mDicT : mDicT e = .ok (.dit [] []) := rfl
@[simp] theorem a_mPNil : mPNil e = .ok [] := rfl
@[simp] theorem a_mPCons (mk mv : En → Res D) (mr : En → Res (List (D × D))) : mPCons mk mv mr e = (mk e).bind fun k => (mv e).bind fun v => (mr e).map fun ps => (k, v) :: ps := rfl
@[simp] theorem a_mDisp (mp : En → Res (List (D × D))) : mDisp mp e = (mp e).bind fun ps => match toKs (ps.map (·.1)) with
  | some ks => if ks.Nodup ∧ ps.length ≤ 15 then .ok (.dic ks (ps.map (·.2))) else .st
  | none => .st := rfl
@[simp] theorem a_runD (m : En → Res Fl) (ds : List D) : runD n m ds = (m (slots n ds)).bind fun r => match r with
  | .rt w => .ok w
  | .nx _ => .ok (.sh .non)
  | _ => .st := rfl
@[simp] theorem a_fz0 : fz [] e = e := rfl
@[simp] theorem a_fzc (F : List Nat) : fz (i :: F) e = fz F (fz1 i e) := rfl
@[simp] theorem a_fz1 : fz1 i e = match e[i]? with
  | some (some w) => e.set i (some (.sh w.toD))
  | _ => e := rfl
@[simp] theorem a_keepW (Mu : List Nat) : keepW Mu i w = if Mu.contains i then w else .sh w.toD := rfl
@[simp] theorem a_toD1 : (W.sh d).toD = d := by unfold W.toD; rfl
@[simp] theorem a_toD2 (xs : List D) : (W.lst xs).toD = .lst xs := by unfold W.toD; rfl
@[simp] theorem a_toD3 (ks : List Key) (xs : List D) : (W.dic ks xs).toD = .dic ks xs := by unfold W.toD; rfl
@[simp] theorem a_toD4 (ks : List (List Key)) (xs : List D) : (W.dit ks xs).toD = .dit ks xs := by unfold W.toD; rfl
@[simp] theorem a_slots (ds : List D) : slots n ds = ds.map (fun d => some (W.sh d)) ++ List.replicate (n - ds.length) none := rfl
@[simp] theorem a_wipe0 : wipeE e [] = e := rfl
@[simp] theorem a_wipec (vs : List Nat) : wipeE e (i :: vs) = (wipeE e vs).set i none := rfl
@[simp] theorem a_noEx_ok {α : Type} (a : α) : noEx (.ok a) = .ok a := rfl
@[simp] theorem a_onlyFlat (w : W) : onlyFlat (.ok w) = if flatW w then .ok w else .st := rfl
@[simp] theorem a_flatW (d : D) : flatW (.sh d) = flatD d := rfl
@[simp] theorem a_small {n : Nat} (h : n ≤ 10000000) : small n = true := decide_eq_true h
@[simp] theorem a_runL0 (mg : D → En → Res En) (mb : En → Res Fl) : runL mg mb [] e = .ok (.nx e) := rfl
theorem a_runLc (mg : D → En → Res En) (mb : En → Res Fl) (d : D) (ds : List D) : runL mg mb (d :: ds) e = (mg d e).bind fun e => (mb e).bind fun r => match r with
    | .nx e => runL mg mb ds e
    | .ct e => runL mg mb ds e
    | .bk e => .ok (.nx e)
    | .rt w => .ok (.rt w) := rfl
@[simp] theorem a_runC0 (mg : D → En → Res En) (mt : En → Res Bool) (me : En → Res D) : runC mg mt me [] e = .ok [] := rfl
theorem a_runCc (mg : D → En → Res En) (mt : En → Res Bool) (me : En → Res D) (d : D) (ds : List D) : runC mg mt me (d :: ds) e = (mg d e).bind fun e' => (mt e').bind fun b => if b = true then (me e').bind fun y => (runC mg mt me ds e).map fun ys => y :: ys else runC mg mt me ds e := rfl
/-! operators on what they take -/
@[simp] theorem v_addi (a b : Int) : addD (.int a) (.int b) = .ok (.sh (.int (a + b))) := rfl
@[simp] theorem v_adds (a b : Str) : addD (.str a) (.str b) = if small (a.length + b.length) then .ok (.sh (.str (a ++ b))) else .st := rfl
@[simp] theorem v_addl (a b : List D) : addD (.lst a) (.lst b) = if small (a.length + b.length) then .ok (.lst (a ++ b)) else .st := rfl
@[simp] theorem v_sub (a b : Int) : subD (.int a) (.int b) = .ok (.int (a - b)) := rfl
@[simp] theorem v_mod (a b : Int) : modD (.int a) (.int b) = if 0 < b then .ok (.int (a % b)) else .st := rfl
@[simp] theorem v_fdiv (a b : Int) : fdivD (.int a) (.int b) = if 0 < b ∧ b < big60 then .ok (.int (a / b)) else .st := rfl
@[simp] theorem v_pow (a b : Int) : powD (.int a) (.int b) = if 0 ≤ b ∧ b ≤ 1000000 ∧ -(2 ^ 64) < a ∧ a < 2 ^ 64 then .ok (.int (a ^ b.toNat)) else .st := rfl
@[simp] theorem v_muli (a b : Int) : mulD (.int a) (.int b) = if (-(2 ^ 64) < a ∧ a < 2 ^ 64) ∨ (-(2 ^ 64) < b ∧ b < 2 ^ 64) then .ok (.sh (.int (a * b))) else .st := rfl
@[simp] theorem v_mull (a : List D) (k : Int) : mulD (.lst a) (.int k) = if small (a.length * k.toNat) && decide (-1000000 ≤ k) && decide (k ≤ 1000000) then .ok (.lst (List.replicate k.toNat a).flatten) else .st := rfl
@[simp] theorem v_eqi (a b : Int) : eqB (.int a) (.int b) = .ok (.bl (decide (a = b))) := rfl
@[simp] theorem v_eqs (a b : Str) : eqB (.str a) (.str b) = .ok (.bl (decide (a = b))) := rfl
@[simp] theorem v_eqb (a b : Bool) : eqB (.bl a) (.bl b) = .ok (.bl (decide (a = b))) := rfl
@[simp] theorem v_nei (a b : Int) : neB (.int a) (.int b) = .ok (.bl (!decide (a = b))) := rfl
@[simp] theorem v_nes (a b : Str) : neB (.str a) (.str b) = .ok (.bl (!decide (a = b))) := rfl
@[simp] theorem v_lti (a b : Int) : ltD (.int a) (.int b) = .ok (.bl (decide (a < b))) := rfl
@[simp] theorem v_lei (a b : Int) : leD (.int a) (.int b) = .ok (.bl (decide (a ≤ b))) := rfl
@[simp] theorem v_gti (a b : Int) : gtD (.int a) (.int b) = .ok (.bl (decide (b < a))) := rfl
@[simp] theorem v_gei (a b : Int) : geD (.int a) (.int b) = .ok (.bl (decide (b ≤ a))) := rfl
@[simp] theorem v_lts (a b : Str) : ltD (.str a) (.str b) = .ok (.bl (strLt a b)) := rfl
@[simp] theorem v_les (a b : Str) : leD (.str a) (.str b) = .ok (.bl (!strLt b a)) := rfl
@[simp] theorem v_abs (i : Int) : absD [.int i] = .ok (.sh (.int (if i < 0 then -i else i))) := rfl
@[simp] theorem v_max2 (i j : Int) : max2D [.int i, .int j] = .ok (.sh (.int (if j > i then j else i))) := rfl
@[simp] theorem v_min2 (i j : Int) : min2D [.int i, .int j] = .ok (.sh (.int (if j < i then j else i))) := rfl
@[simp] theorem v_lens (z : Str) : lenD [.str z] = if small z.length then .ok (.sh (.int z.length)) else .st := rfl
@[simp] theorem v_lenl (xs : List D) : lenD [.lst xs] = .ok (.sh (.int xs.length)) := rfl
@[simp] theorem v_lent (xs : List D) : lenD [.tup xs] = .ok (.sh (.int xs.length)) := rfl
@[simp] theorem v_lenr (xs : List Int) : lenD [.scr xs] = .ok (.sh (.int xs.length)) := rfl
@[simp] theorem v_trub (b : Bool) : truD (.bl b) = .ok b := rfl
@[simp] theorem v_iteml (xs : List D) : itemsD (.lst xs) = .ok xs := rfl
@[simp] theorem v_itemt (xs : List D) : itemsD (.tup xs) = .ok xs := rfl
@[simp] theorem v_itemr (xs : List Int) : itemsD (.scr xs) = .ok (xs.map D.int) := rfl
@[simp] theorem v_items (z : Str) : itemsD (.str z) = .ok (z.cps.toList.map sign) := rfl
@[simp] theorem v_enuml (xs : List D) : enumItems [.lst xs] = .ok (enumD 0 xs) := rfl
@[simp] theorem v_enumr (xs : List Int) : enumItems [.scr xs] = .ok (enumD 0 (xs.map D.int)) := rfl
@[simp] theorem v_sll (xs : List D) (lo hi : Option Int) : slD (.lst xs) lo hi = .ok (.lst (cutD xs lo hi)) := rfl
@[simp] theorem v_slr (ns : List Int) (lo hi : Option Int) : slD (.scr ns) lo hi = .ok (.lst ((cutD ns lo hi).map D.int)) := rfl
@[simp] theorem v_sls (z : Str) (lo hi : Option Int) : slD (.str z) lo hi = if small z.length then .ok (.sh (.str (cutS z lo hi))) else .st := rfl
@[simp] theorem v_ixl (xs : List D) (i : Int) : ixD (.lst xs) (.int i) = match atI xs i with
    | some d => .ok (.sh d)
    | none => .st := rfl
@[simp] theorem v_ixt (xs : List D) (i : Int) : ixD (.tup xs) (.int i) = match atI xs i with
    | some d => .ok (.sh d)
    | none => .st := rfl
@[simp] theorem v_ixr (xs : List Int) (i : Int) : ixD (.scr xs) (.int i) = match atI xs i with
    | some n => .ok (.sh (.int n))
    | none => .st := rfl
@[simp] theorem v_ixs (z : Str) (i : Int) : ixD (.str z) (.int i) = if small z.length then match atI z.cps.toList i with
    | some c => .ok (.sh (.str ⟨#[c]⟩))
    | none => .st
    else .st := rfl
@[simp] theorem v_isi (x : D) (n : String) : isiD [x, .ty n] = match tyD x with
    | some a => match isTy a n with
      | some b => .ok (.sh (.bl b))
      | none => .st
    | none => .st := rfl
end
/-! loops by what holds -/
/-- a for that goes through -/
theorem runL_goes {mg : D → En → Res En} {mb : En → Res Fl} (I : Nat → En → Prop) : ∀ (ds : List D) (k : Nat) (env : En), I k env →
    (∀ i d env, ds[i]? = some d → I (k + i) env → ∃ e e', mg d env = .ok e ∧ (mb e = .ok (.nx e') ∨ mb e = .ok (.ct e')) ∧ I (k + i + 1) e') →
    ∃ env', runL mg mb ds env = .ok (.nx env') ∧ I (k + ds.length) env'
  | [], k, env, h, _ => ⟨env, rfl, h⟩
  | d :: ds, k, env, h, step => by
    obtain ⟨e, e', h1, h2, h3⟩ := step 0 d env rfl h
    obtain ⟨env', h4, h5⟩ := runL_goes I ds (k + 1) e' h3 fun i x env hx hi => by
      have q := step (i + 1) x env (by simpa using hx) (by rw [show k + (i + 1) = k + 1 + i by omega]; exact hi)
      rw [show k + (i + 1) + 1 = k + 1 + i + 1 by omega] at q
      exact q
    refine ⟨env', ?_, by rw [List.length_cons, show k + (ds.length + 1) = k + 1 + ds.length by omega]; exact h5⟩
    rw [a_runLc, h1, Res.bind_ok]
    rcases h2 with h2 | h2 <;> rw [h2, Res.bind_ok] <;> exact h4
/-- a comprehension, item by item -/
theorem runC_map {mg : D → En → Res En} {mt : En → Res Bool} {me : En → Res D} {env : En} {α : Type} (g : α → D) (f : α → D) : ∀ (xs : List α), (∀ x ∈ xs, ∃ e, mg (g x) env = .ok e ∧ mt e = .ok true ∧ me e = .ok (f x)) →
    runC mg mt me (xs.map g) env = .ok (xs.map f)
  | [], _ => rfl
  | x :: xs, h => by
    obtain ⟨e, h1, h2, h3⟩ := h x List.mem_cons_self
    rw [List.map_cons, a_runCc, h1, Res.bind_ok, h2, Res.bind_ok, if_pos rfl, h3, Res.bind_ok, runC_map g f xs fun y hy => h y (List.mem_cons_of_mem _ hy)]
    rfl
theorem runC_filter {mg : D → En → Res En} {mt : En → Res Bool} {me : En → Res D} {env : En} {α : Type} (g : α → D) (p : α → Bool) (f : α → D) : ∀ (xs : List α), (∀ x ∈ xs, ∃ e, mg (g x) env = .ok e ∧ mt e = .ok (p x) ∧ (p x = true → me e = .ok (f x))) →
    runC mg mt me (xs.map g) env = .ok ((xs.filter p).map f)
  | [], _ => rfl
  | x :: xs, h => by
    obtain ⟨e, h1, h2, h3⟩ := h x List.mem_cons_self
    rw [List.map_cons, a_runCc, h1, Res.bind_ok, h2, Res.bind_ok, runC_filter g p f xs fun y hy => h y (List.mem_cons_of_mem _ hy)]
    cases hp : p x with
    | true => rw [if_pos rfl, h3 hp, List.filter_cons_of_pos hp]; rfl
    | false => rw [if_neg Bool.false_ne_true, List.filter_cons_of_neg (by rw [hp]; exact Bool.false_ne_true)]
theorem v_join {a : Str} {xs : List D} {ys : List Str} (h : strsD xs = some ys) (hz : (ys.map fun z => z.length).sum + ys.length * a.length ≤ 10000000) : joinD a (.lst xs) = .ok (.sh (.str (Txt.join a ys))) := by
  simp only [joinD]
  rw [h]
  show (if small _ = true then _ else _) = _
  rw [if_pos (a_small hz)]
end Ly

set_option Elab.async false
set_option linter.all false
set_option maxRecDepth 100000
set_option maxHeartbeats 4000000
set_option synthInstance.maxHeartbeats 2000000
set_option synthInstance.maxSize 100000
namespace My
open PySem L2 Ly PyProof.Rows
/-- is_whole: 0 thing -/
def m_is_whole : En → Res Fl :=
    (mRet [] (mAndV (mD (mCal isiD (mCons (mVarV 0) (mCons (mD (mK (.ty "int"))) mNil)))) (mD (mNotV (mD (mCal isiD (mCons (mVarV 0) (mCons (mD (mK (.ty "bool"))) mNil))))))))
def r_is_whole : List D → Res W := runD 1 m_is_whole
/-- is_name: 0 thing, 1 sign -/
def m_is_name_b1 : En → Res Fl :=
    (mIfS [] (mTest (mD (mOpX notInB (mVarX 1) (mD (mK (.str "abcdefghijklmnopqrstuvwxyz")))))) (mRet [] (mK (.bl false))) mNext)
def m_is_name : En → Res Fl :=
    (mSeq (mIfS [] (mOr (mNot (mTru (mD (mCal isiD (mCons (mVarV 0) (mCons (mD (mK (.ty "str"))) mNil)))))) (mNot (mTest (mD (mChain leD leD (mD (mK (.int 1))) (mD (mCal lenD (mCons (mVarV 0) mNil))) (mD (mK (.int 8)))))))) (mRet [] (mK (.bl false))) mNext)
    (mSeq (mFor [0] (mItems (mD (mVar 0))) (mName 1) m_is_name_b1)
    (mRet [] (mK (.bl true)))))
def r_is_name : List D → Res W := runD 2 m_is_name
/-- _law_digits: 0 _law_cell, 1 _law_k, 2 _law_sizes, 3 _law_number, 4 _law_found, 5 _law_turn, 6 _law_size -/
def m__law_digits_b1 : En → Res Fl :=
    (mIfS [] (mOr (mTest (mD (mOpX eqB (mD (mOpX modD (mVarX 0) (mD (mK (.int 2))))) (mD (mK (.int 1)))))) (mTest (mD (mOpX eqB (mVarX 3) (mD (mK (.int 0))))))) (mSeq (mAsg [4] [] 3 (mOp addD (mD (mOpX modD (mD (mOp addD (mVarV 3) (mVarV 0))) (mD (mK (.int 2147483629))))) (mD (mK (.int 48271)))))
    (mSeq (mAsg [4] [] 3 (mOp addD (mVarV 3) (mD (mOp mulD (mD (mOp mulD (mD (mK (.int 7919))) (mD (mOp addD (mVarV 1) (mVarV 5))))) (mD (mOp addD (mVarV 1) (mVarV 5)))))))
    (mSeq (mAsg [4] [] 3 (mOpX modD (mD (mOp mulD (mVarV 3) (mVarV 3))) (mD (mK (.int 2147483587)))))
    (mAppend [] 4 (mCons (mD (mOpX modD (mD (mOpX fdivD (mVarX 3) (mD (mK (.int 16))))) (mVarX 6))) mNil))))) (mSeq (mAppend [] 4 (mCons (mD (mOpX modD (mVarX 3) (mVarX 6))) mNil))
    (mAsg [4] [] 3 (mOpX fdivD (mVarX 3) (mVarX 6)))))
def m__law_digits : En → Res Fl :=
    (mSeq (mAsg [4] [] 3 (mOpX fdivD (mD (mCal absD (mCons (mVarV 0) mNil))) (mD (mK (.int 2)))))
    (mSeq (mAsg [4] [] 4 (mLst mNil))
    (mSeq (mFor [2] (mEnum (mCons (mD (mVar 2)) mNil)) (mGTup 2 (mGCons (mName 5) (mGCons (mName 6) mGNil))) m__law_digits_b1)
    (mRetVar 4))))
def r__law_digits : List D → Res W := runD 7 m__law_digits
/-- _law_text: 0 _law_row, 1 _law_number -/
def m__law_text : En → Res Fl :=
    (mRet [] (mM1 joinD (mD (mK (.str ""))) (mD (mLc [1] [1] (mItems (mD (mSl (mVarV 0) (mPart (mD (mK (.int 1)))) (mPart (mD (mOp addD (mD (mK (.int 1))) (mD (mOp ixD (mVarV 0) (mD (mK (.int 0))))))))))) (mName 1) mTrue (mD (mOp ixD (mD (mK (.str "abcdefghijklmnopqrstuvwxyz"))) (mVarV 1)))))))
def r__law_text : List D → Res W := runD 2 m__law_text
/-- _law_spoilt: 0 _law_text_here, 1 _law_row, 2 _law_at, 3 _law_sign -/
def m__law_spoilt : En → Res Fl :=
    (mSeq (mAsg [] [] 2 (mOpX modD (mD (mOp ixD (mVarV 1) (mD (mK (.int 1))))) (mD (mCal max2D (mCons (mD (mK (.int 1))) (mCons (mD (mCal lenD (mCons (mVarV 0) mNil))) mNil))))))
    (mSeq (mAsg [] [] 3 (mOp ixD (mD (mK (.str "AZ09_ -.{`\x40[\n\t"))) (mD (mOpX modD (mD (mOp ixD (mVarV 1) (mD (mK (.int 2))))) (mD (mK (.int 14)))))))
    (mRet [] (mOp addD (mD (mOp addD (mD (mSl (mVarV 0) mNoPart (mPart (mVarX 2)))) (mVarV 3))) (mD (mSl (mVarV 0) (mPart (mD (mOp addD (mVarV 2) (mD (mK (.int 1)))))) mNoPart))))))
def r__law_spoilt : List D → Res W := runD 4 m__law_spoilt
/-- _law_due_name: 0 _law_text_here, 1 _law_letters, 2 _law_sign -/
def m__law_due_name : En → Res Fl :=
    (mSeq (mAsg [] [2] 1 (mLc [2] [2] (mItems (mVarV 0)) (mName 2) (mTest (mD (mChain leD leD (mD (mK (.str "a"))) (mVarX 2) (mD (mK (.str "z")))))) (mD (mVar 2))))
    (mRet [] (mAndV (mD (mOpX eqB (mD (mCal lenD (mCons (mVarV 1) mNil))) (mD (mCal lenD (mCons (mVarV 0) mNil))))) (mD (mChain leD leD (mD (mK (.int 1))) (mD (mCal lenD (mCons (mVarV 0) mNil))) (mD (mK (.int 8))))))))
def r__law_due_name : List D → Res W := runD 3 m__law_due_name
/-- _law_told: 0 _law_found, 1 _law_due -/
def m__law_told : En → Res Fl :=
    (mRet [] (mAndV (mD (mCal isiD (mCons (mVarV 0) (mCons (mD (mK (.ty "bool"))) mNil)))) (mD (mOpX eqB (mVarX 0) (mVarX 1)))))
def r__law_told : List D → Res W := runD 2 m__law_told
/-- law: 0 _law_script, 1 _law_k, 2 _law_cell, 3 _law_row, 4 _law_text_here, 5 _law_one, 6 _law_number, 7 _law_some, 8 _law_thing -/
def m_law_b1 : En → Res Fl :=
    (mIfS [] (mOr (mNot (mTru (mD (mCall 2 r__law_told (mCons (mD (mCall 1 r_is_name (mCons (mD (mVar 5)) mNil) (mCons (mVarX 5) mNil))) (mCons (mD (mCall 1 r__law_due_name (mCons (mD (mVar 5)) mNil) (mCons (mVarX 5) mNil))) mNil)) (mCons (mD (mCall 1 r_is_name (mCons (mD (mVar 5)) mNil) (mCons (mVarX 5) mNil))) (mCons (mD (mCall 1 r__law_due_name (mCons (mD (mVar 5)) mNil) (mCons (mVarX 5) mNil))) mNil)))))) (mNot (mTru (mD (mCall 2 r__law_told (mCons (mD (mCall 1 r_is_whole (mCons (mD (mVar 5)) mNil) (mCons (mVarX 5) mNil))) (mCons (mD (mK (.bl false))) mNil)) (mCons (mD (mCall 1 r_is_whole (mCons (mD (mVar 5)) mNil) (mCons (mVarX 5) mNil))) (mCons (mD (mK (.bl false))) mNil))))))) (mRet [] (mK (.bl false))) mNext)
def m_law_b2 : En → Res Fl :=
    (mIfS [] (mOr (mNot (mTru (mD (mCall 2 r__law_told (mCons (mD (mCall 1 r_is_whole (mCons (mD (mVar 6)) mNil) (mCons (mVarX 6) mNil))) (mCons (mD (mK (.bl true))) mNil)) (mCons (mD (mCall 1 r_is_whole (mCons (mD (mVar 6)) mNil) (mCons (mVarX 6) mNil))) (mCons (mD (mK (.bl true))) mNil)))))) (mNot (mTru (mD (mCall 2 r__law_told (mCons (mD (mCall 1 r_is_name (mCons (mD (mVar 6)) mNil) (mCons (mVarX 6) mNil))) (mCons (mD (mK (.bl false))) mNil)) (mCons (mD (mCall 1 r_is_name (mCons (mD (mVar 6)) mNil) (mCons (mVarX 6) mNil))) (mCons (mD (mK (.bl false))) mNil))))))) (mRet [] (mK (.bl false))) mNext)
def m_law_b3 : En → Res Fl :=
    (mSeq (mAsg [] [] 3 (mCall 3 r__law_digits (mCons (mD (mVar 2)) (mCons (mD (mVar 1)) (mCons (mD (mOp addD (mD (mOp addD (mD (mLst (mCons (mD (mK (.int 11))) mNil))) (mD (mOp mulD (mD (mLst (mCons (mD (mK (.int 26))) mNil))) (mD (mK (.int 10))))))) (mD (mLst (mCons (mD (mK (.int 16))) mNil))))) mNil))) (mCons (mVarX 2) (mCons (mVarX 1) (mCons (mD (mOp addD (mD (mOp addD (mD (mLst (mCons (mD (mK (.int 11))) mNil))) (mD (mOp mulD (mD (mLst (mCons (mD (mK (.int 26))) mNil))) (mD (mK (.int 10))))))) (mD (mLst (mCons (mD (mK (.int 16))) mNil))))) mNil)))))
    (mSeq (mAsg [] [] 4 (mCall 1 r__law_text (mCons (mD (mVar 3)) mNil) (mCons (mVarX 3) mNil)))
    (mSeq (mFor [4] (mItems (mD (mLst (mCons (mD (mVar 4)) (mCons (mD (mCall 2 r__law_spoilt (mCons (mD (mVar 4)) (mCons (mD (mVar 3)) mNil)) (mCons (mVarX 4) (mCons (mVarX 3) mNil)))) (mCons (mD (mSl (mVarV 4) mNoPart (mPart (mD (mK (.int 8)))))) (mCons (mD (mOp addD (mVarV 4) (mD (mK (.str "z"))))) mNil))))))) (mName 5) m_law_b1)
    (mSeq (mFor [] (mItems (mD (mLst (mCons (mD (mOpX modD (mVarX 2) (mD (mOpX powD (mD (mK (.int 10))) (mD (mK (.int 40))))))) (mCons (mD (mOpX subD (mD (mK (.int 0))) (mD (mOp ixD (mVarV 3) (mD (mK (.int 3))))))) (mCons (mD (mK (.int 0))) (mCons (mD (mOp ixD (mVarV 3) (mD (mK (.int 11))))) mNil))))))) (mName 6) m_law_b2)
    (mSeq (mAsg [] [] 7 (mLst (mCons (mD (mK .non)) (mCons (mD (mK (.bl true))) (mCons (mD (mK (.bl false))) (mCons (mD (mLst mNil)) (mCons (mD (mLst (mCons (mD (mK (.str "a"))) mNil))) (mCons (mD (mTup (mCons (mD (mK (.str "a"))) mNil))) (mCons (mD (mTup (mCons (mD (mK (.str "a"))) (mCons (mD (mK (.str "b"))) mNil)))) (mCons (mD mDicK) (mCons (mD (mDisp (mPCons (mD (mK (.str "a"))) (mD (mK (.int 1))) mPNil))) (mCons (mD (mTup (mCons (mD (mK (.int 1))) mNil))) (mCons (mD (mLst (mCons (mD (mK (.int 1))) mNil))) (mCons (mD (mTup mNil)) (mCons (mD (mLst (mCons (mD (mK .non)) mNil))) (mCons (mD (mTup (mCons (mD (mK (.str "ab"))) mNil))) mNil))))))))))))))))
    (mSeq (mAsg [] [4] 8 (mOp ixD (mD (mOp addD (mVarV 7) (mD (mLst (mCons (mD (mLst (mCons (mD (mVar 4)) mNil))) (mCons (mD (mDisp (mPCons (mD (mK (.int 1))) (mD (mK (.int 1))) mPNil))) mNil)))))) (mD (mOp ixD (mVarV 3) (mD (mK (.int 11)))))))
    (mIfS [] (mOr (mNot (mTru (mD (mCall 2 r__law_told (mCons (mD (mCall 1 r_is_name (mCons (mD (mVar 8)) mNil) (mCons (mVarX 8) mNil))) (mCons (mD (mK (.bl false))) mNil)) (mCons (mD (mCall 1 r_is_name (mCons (mD (mVar 8)) mNil) (mCons (mVarX 8) mNil))) (mCons (mD (mK (.bl false))) mNil)))))) (mNot (mTru (mD (mCall 2 r__law_told (mCons (mD (mCall 1 r_is_whole (mCons (mD (mVar 8)) mNil) (mCons (mVarX 8) mNil))) (mCons (mD (mK (.bl false))) mNil)) (mCons (mD (mCall 1 r_is_whole (mCons (mD (mVar 8)) mNil) (mCons (mVarX 8) mNil))) (mCons (mD (mK (.bl false))) mNil))))))) (mRet [] (mK (.bl false))) mNext)))))))
def m_law : En → Res Fl :=
    (mSeq (mFor [] (mEnum (mCons (mD (mOp addD (mD (mLst (mCons (mD (mK (.int 1))) mNil))) (mD (mSl (mVarV 0) mNoPart (mPart (mD (mK (.int 60)))))))) mNil)) (mGTup 2 (mGCons (mName 1) (mGCons (mName 2) mGNil))) m_law_b3)
    (mRet [] (mK (.bl true))))
def r_law : List D → Res W := runD 9 m_law
def top (i : Nat) : Stmt := PySem.Challenge.pw_shopbound_k04_names_and_numbers.main.body.getD i (.Pass ⟨0, 0, 0, 0⟩)
abbrev s_is_whole : Stmt := top 2
abbrev s_is_name : Stmt := top 3
abbrev s__law_digits : Stmt := top 5
abbrev s__law_text : Stmt := top 6
abbrev s__law_spoilt : Stmt := top 7
abbrev s__law_due_name : Stmt := top 8
abbrev s__law_told : Stmt := top 9
abbrev s_law : Stmt := top 10
/-- what the module knows -/
structure Txt (mg : Str → Option Value) : Prop where
  b_abs : mg "abs" = none
  b_bool : mg "bool" = none
  b_enumerate : mg "enumerate" = none
  b_int : mg "int" = none
  b_isinstance : mg "isinstance" = none
  b_len : mg "len" = none
  b_max : mg "max" = none
  b_str : mg "str" = none
  g_LETTERS : ∃ t, mg "LETTERS" = some (Value.str (PySem.Str.ofString "abcdefghijklmnopqrstuvwxyz") t)
abbrev Known (K : PySem.W.Frag) (mg : Str → Option Value) (x : Str) (f : Addr) (fd : FuncData) (ps : List Str) : Prop := mg x = some (.ref f) ∧ PySem.W.keepIn K (.ref f) = true ∧ Binds K fd ps []
section
variable {P : Program} {w : World} {K : PySem.W.Frag} {mg : Str → Option Value} {base : Heap}
abbrev nm_is_whole : List Str := ["thing"]
theorem sc_is_whole : FnScope nm_is_whole ["thing"] (defScope s_is_whole) := ⟨rfl, rfl, rfl, by decide +kernel, rfl, by decide +kernel, by decide +kernel⟩
theorem ok_is_whole {f : Addr} {fd : FuncData} (F : Fun K "is_whole" "is_whole" s_is_whole f fd) (T : Txt mg) :
    FnOk P w K mg base (L2.CX P w) 1 f fd ["thing"] (spM K 1 r_is_whole) := by
  refine fn_sem (k := 0) F sc_is_whole r_is_whole [] m_is_whole (fun cdv A outer s H E hr => ⟨_, (pss_one (ps_ret ((pe_and (pe_callB (ke_isi K rfl) (by rfl) T.b_isinstance (by decide +kernel) (pa_cons (pv 0) (pa_cons ((pe_bltn (v := .ty "int") (by rfl) T.b_int (by decide +kernel) rfl)) pa_nil))) (pe_one (pe_not (pe_callB (ke_isi K rfl) (by rfl) T.b_isinstance (by decide +kernel) (pa_cons (pv 0) (pa_cons ((pe_bltn (v := .ty "bool") (by rfl) T.b_bool (by decide +kernel) rfl)) pa_nil))))))))), ?_⟩) (fun _ _ => rfl)
  unfold m_is_whole
  try dsimp only [cxOf]
  infer_instance
abbrev nm_is_name : List Str := ["thing", "sign"]
theorem sc_is_name : FnScope nm_is_name ["thing"] (defScope s_is_name) := ⟨rfl, rfl, rfl, by decide +kernel, rfl, by decide +kernel, by decide +kernel⟩
theorem ok_is_name {f : Addr} {fd : FuncData} (F : Fun K "is_name" "is_name" s_is_name f fd) (T : Txt mg) :
    FnOk P w K mg base (L2.CX P w) 1 f fd ["thing"] (spM K 1 r_is_name) := by
  obtain ⟨t_LETTERS, h_LETTERS⟩ := T.g_LETTERS
  refine fn_sem (k := 0) F sc_is_name r_is_name [] m_is_name (fun cdv A outer s H E hr => ⟨_, (pss_cons (ps_if ((pw_or (pt_not (kt_tru K rfl (pe_callB (ke_isi K rfl) (by rfl) T.b_isinstance (by decide +kernel) (pa_cons (pv 0) (pa_cons ((pe_bltn (v := .ty "str") (by rfl) T.b_str (by decide +kernel) rfl)) pa_nil))))) (pw_or1 (pt_not (pt_chain op_leU op_leU (pe_int) (pe_callB (ke_len K rfl) (by rfl) T.b_len (by decide +kernel) (pa_cons (pv 0) pa_nil)) (pe_int))))).pt) (pss_one (ps_ret (pe_bl))) pss_nil)
      (pss_cons (ps_for (passes_of rfl) rfl (ki_U K rfl (pv 0)) (pg_name (i := 1) sc_is_name.nd rfl (Or.inl rfl)) (pss_one (ps_if (pt_cmpR (ke_notIn K rfl (room65 hr)) (pv 1) ((pe_glob (v := (.str "abcdefghijklmnopqrstuvwxyz")) (by rfl) h_LETTERS ⟨_, rfl⟩)) rfl) (pss_one (ps_ret (pe_bl))) pss_nil)))
      (pss_one (ps_ret (pe_bl))))), ?_⟩) (fun _ _ => rfl)
  unfold m_is_name m_is_name_b1
  try dsimp only [cxOf]
  infer_instance
abbrev nm__law_digits : List Str := ["_law_cell", "_law_k", "_law_sizes", "_law_number", "_law_found", "_law_turn", "_law_size"]
theorem sc__law_digits : FnScope nm__law_digits ["_law_cell", "_law_k", "_law_sizes"] (defScope s__law_digits) := ⟨rfl, rfl, rfl, by decide +kernel, rfl, by decide +kernel, by decide +kernel⟩
theorem ok__law_digits {f : Addr} {fd : FuncData} (F : Fun K "_law_digits" "_law_digits" s__law_digits f fd) (T : Txt mg) :
    FnOk P w K mg base (L2.CX P w) 1 f fd ["_law_cell", "_law_k", "_law_sizes"] (spM K 3 r__law_digits) := by
  refine fn_sem (k := 0) F sc__law_digits r__law_digits [4] m__law_digits (fun cdv A outer s H E hr => ⟨_, (pss_cons (ps_set (i := 3) sc__law_digits.nd rfl (Or.inl rfl) (pe_op op_fdivI (pe_callB call_absU (by rfl) T.b_abs (by decide +kernel) (pa_cons (pv 0) pa_nil)) (pe_int)))
      (pss_cons (ps_set (i := 4) sc__law_digits.nd rfl (Or.inl rfl) (pe_lst pa_nil))
      (pss_cons (ps_for (passes_of rfl) rfl (ki_enum K rfl (by rfl) T.b_enumerate (pa_cons (pv 2) pa_nil)) (kg_tup K rfl (n := 2) rfl (pgs_cons (pg_name (i := 5) sc__law_digits.nd rfl (Or.inl rfl)) (pgs_cons (pg_name (i := 6) sc__law_digits.nd rfl (Or.inl rfl)) pgs_nil))) (pss_one (ps_if ((pw_or (pt_cmpR (ke_eq K rfl hr.units) (pe_op op_modI (pv 0) (pe_int)) (pe_int) (nomark _)) (pw_or1 (pt_cmpR (ke_eq K rfl hr.units) (pv 3) (pe_int) (nomark _)))).pt) (pss_cons (ps_set (i := 3) sc__law_digits.nd rfl (Or.inl rfl) (pe_op (ke_add K rfl) (pe_op op_modI (pe_op (ke_add K rfl) (pv 3) (pv 0)) (pe_int)) (pe_int)))
      (pss_cons (ps_set (i := 3) sc__law_digits.nd rfl (Or.inl rfl) (pe_op (ke_add K rfl) (pv 3) (pe_op (ke_mul K rfl) (pe_op (ke_mul K rfl) (pe_int) (pe_op (ke_add K rfl) (pv 1) (pv 5))) (pe_op (ke_add K rfl) (pv 1) (pv 5)))))
      (pss_cons (ps_set (i := 3) sc__law_digits.nd rfl (Or.inl rfl) (pe_op op_modI (pe_op (ke_mul K rfl) (pv 3) (pv 3)) (pe_int)))
      (pss_one (ps_expr (pe_bm PySem.F.plainAttrs_list PySem.F.slot_list_append PySem.F.type_list_append mt_append (pv 4) (pa_cons (pe_op op_modI (pe_op op_fdivI (pv 3) (pe_int)) (pv 6)) pa_nil))))))) (pss_cons (ps_expr (pe_bm PySem.F.plainAttrs_list PySem.F.slot_list_append PySem.F.type_list_append mt_append (pv 4) (pa_cons (pe_op op_modI (pv 3) (pv 6)) pa_nil)))
      (pss_one (ps_set (i := 3) sc__law_digits.nd rfl (Or.inl rfl) (pe_op op_fdivI (pv 3) (pv 6))))))))
      (pss_one (ps_ret (pv 4)))))), ?_⟩) (fun _ _ => rfl)
  unfold m__law_digits m__law_digits_b1
  try dsimp only [cxOf]
  infer_instance
abbrev nm__law_text : List Str := ["_law_row", "_law_number"]
theorem sc__law_text : FnScope nm__law_text ["_law_row"] (defScope s__law_text) := ⟨rfl, rfl, rfl, by decide +kernel, rfl, by decide +kernel, by decide +kernel⟩
theorem ok__law_text {f : Addr} {fd : FuncData} (F : Fun K "_law_text" "_law_text" s__law_text f fd) (T : Txt mg) :
    FnOk P w K mg base (L2.CX P w) 1 f fd ["_law_row"] (spM K 1 r__law_text) := by
  refine fn_sem (k := 0) F sc__law_text r__law_text [] m__law_text (fun cdv A outer s H E hr => ⟨_, (pss_one (ps_ret (kp_join K rfl (pe_str) (pe_lc (own := [("_law_number", 1)]) rfl sc__law_text.nd (ki_U K rfl (pe_slice (ke_sl K rfl) (pv 0) (po_some (pe_int)) (po_some (pe_op (ke_add K rfl) (pe_int) (pe_ix (ke_ix K rfl (hu_of hr)) (pv 0) (pe_int) (fun _ _ => rfl)))))) (blkOk_by (own := [("_law_number", 1)]) (N := nm__law_text) (sc := defScope s__law_text) (by decide +kernel)) (fun _ _ _ _ _ => pg_name (i := 1) sc__law_text.nd rfl (Or.inl rfl)) (fun _ _ _ _ _ => pts_nil) (fun _ _ _ _ _ => pe_ix (ke_ix K rfl (hu_of hr)) (pe_str) (pv 1) (fun _ _ => rfl)))))), ?_⟩) (fun _ _ => rfl)
  unfold m__law_text
  try dsimp only [cxOf]
  infer_instance
abbrev nm__law_spoilt : List Str := ["_law_text_here", "_law_row", "_law_at", "_law_sign"]
theorem sc__law_spoilt : FnScope nm__law_spoilt ["_law_text_here", "_law_row"] (defScope s__law_spoilt) := ⟨rfl, rfl, rfl, by decide +kernel, rfl, by decide +kernel, by decide +kernel⟩
theorem ok__law_spoilt {f : Addr} {fd : FuncData} (F : Fun K "_law_spoilt" "_law_spoilt" s__law_spoilt f fd) (T : Txt mg) :
    FnOk P w K mg base (L2.CX P w) 1 f fd ["_law_text_here", "_law_row"] (spM K 2 r__law_spoilt) := by
  refine fn_sem (k := 0) F sc__law_spoilt r__law_spoilt [] m__law_spoilt (fun cdv A outer s H E hr => ⟨_, (pss_cons (ps_set (i := 2) sc__law_spoilt.nd rfl (Or.inl rfl) (pe_op op_modI (pe_ix (ke_ix K rfl (hu_of hr)) (pv 1) (pe_int) (fun _ _ => rfl)) (pe_callB (call_max2U rfl) (by rfl) T.b_max (by decide +kernel) (pa_cons (pe_int) (pa_cons (pe_callB (ke_len K rfl) (by rfl) T.b_len (by decide +kernel) (pa_cons (pv 0) pa_nil)) pa_nil)))))
      (pss_cons (ps_set (i := 3) sc__law_spoilt.nd rfl (Or.inl rfl) (pe_ix (ke_ix K rfl (hu_of hr)) (pe_str) (pe_op op_modI (pe_ix (ke_ix K rfl (hu_of hr)) (pv 1) (pe_int) (fun _ _ => rfl)) (pe_int)) (fun _ _ => rfl)))
      (pss_one (ps_ret (pe_op (ke_add K rfl) (pe_op (ke_add K rfl) (pe_slice (ke_sl K rfl) (pv 0) po_none (po_some (pv 2))) (pv 3)) (pe_slice (ke_sl K rfl) (pv 0) (po_some (pe_op (ke_add K rfl) (pv 2) (pe_int))) po_none)))))), ?_⟩) (fun _ _ => rfl)
  unfold m__law_spoilt
  try dsimp only [cxOf]
  infer_instance
abbrev nm__law_due_name : List Str := ["_law_text_here", "_law_letters", "_law_sign"]
theorem sc__law_due_name : FnScope nm__law_due_name ["_law_text_here"] (defScope s__law_due_name) := ⟨rfl, rfl, rfl, by decide +kernel, rfl, by decide +kernel, by decide +kernel⟩
theorem ok__law_due_name {f : Addr} {fd : FuncData} (F : Fun K "_law_due_name" "_law_due_name" s__law_due_name f fd) (T : Txt mg) :
    FnOk P w K mg base (L2.CX P w) 1 f fd ["_law_text_here"] (spM K 1 r__law_due_name) := by
  refine fn_sem (k := 0) F sc__law_due_name r__law_due_name [] m__law_due_name (fun cdv A outer s H E hr => ⟨_, (pss_cons (ps_setLc (i := 1) (own := [("_law_sign", 2)]) rfl sc__law_due_name.nd rfl rfl (sw_true rfl rfl rfl (by decide +kernel)) (ki_U K rfl (pv 0)) (blkOk_by (own := [("_law_sign", 2)]) (N := nm__law_due_name) (sc := defScope s__law_due_name) (by decide +kernel)) (fun _ _ _ _ _ => pg_name (i := 2) sc__law_due_name.nd rfl (Or.inl rfl)) (fun _ _ _ _ _ => pts_one (pt_chain op_leU op_leU (pe_str) (pv 2) (pe_str))) (fun _ _ _ _ _ => pv 2))
      (pss_one (ps_ret ((pe_and (pe_cmpR (ke_eq K rfl hr.units) (pe_callB (ke_len K rfl) (by rfl) T.b_len (by decide +kernel) (pa_cons (pv 1) pa_nil)) (pe_callB (ke_len K rfl) (by rfl) T.b_len (by decide +kernel) (pa_cons (pv 0) pa_nil)) (nomark _)) (pe_one (pe_chain op_leU op_leU (pe_int) (pe_callB (ke_len K rfl) (by rfl) T.b_len (by decide +kernel) (pa_cons (pv 0) pa_nil)) (pe_int)))))))), ?_⟩) (fun _ _ => rfl)
  unfold m__law_due_name
  try dsimp only [cxOf]
  infer_instance
abbrev nm__law_told : List Str := ["_law_found", "_law_due"]
theorem sc__law_told : FnScope nm__law_told ["_law_found", "_law_due"] (defScope s__law_told) := ⟨rfl, rfl, rfl, by decide +kernel, rfl, by decide +kernel, by decide +kernel⟩
theorem ok__law_told {f : Addr} {fd : FuncData} (F : Fun K "_law_told" "_law_told" s__law_told f fd) (T : Txt mg) :
    FnOk P w K mg base (L2.CX P w) 1 f fd ["_law_found", "_law_due"] (spM K 2 r__law_told) := by
  refine fn_sem (k := 0) F sc__law_told r__law_told [] m__law_told (fun cdv A outer s H E hr => ⟨_, (pss_one (ps_ret ((pe_and (pe_callB (ke_isi K rfl) (by rfl) T.b_isinstance (by decide +kernel) (pa_cons (pv 0) (pa_cons ((pe_bltn (v := .ty "bool") (by rfl) T.b_bool (by decide +kernel) rfl)) pa_nil))) (pe_one (pe_cmpR (ke_eq K rfl hr.units) (pv 0) (pv 1) (nomark _))))))), ?_⟩) (fun _ _ => rfl)
  unfold m__law_told
  try dsimp only [cxOf]
  infer_instance
abbrev nm_law : List Str := ["_law_script", "_law_k", "_law_cell", "_law_row", "_law_text_here", "_law_one", "_law_number", "_law_some", "_law_thing"]
theorem sc_law : FnScope nm_law ["_law_script"] (defScope s_law) := ⟨rfl, rfl, rfl, by decide +kernel, rfl, by decide +kernel, by decide +kernel⟩
theorem ok_law {f : Addr} {fd : FuncData} (F : Fun K "law" "law" s_law f fd) (T : Txt mg)
    {f__law_digits : Addr} {fd__law_digits : FuncData} (G__law_digits : FnOk P w K mg base (L2.CX P w) 1 f__law_digits fd__law_digits ["_law_cell", "_law_k", "_law_sizes"] (spM K 3 r__law_digits)) (M__law_digits : Known K mg "_law_digits" f__law_digits fd__law_digits ["_law_cell", "_law_k", "_law_sizes"])
    {f__law_text : Addr} {fd__law_text : FuncData} (G__law_text : FnOk P w K mg base (L2.CX P w) 1 f__law_text fd__law_text ["_law_row"] (spM K 1 r__law_text)) (M__law_text : Known K mg "_law_text" f__law_text fd__law_text ["_law_row"])
    {f__law_spoilt : Addr} {fd__law_spoilt : FuncData} (G__law_spoilt : FnOk P w K mg base (L2.CX P w) 1 f__law_spoilt fd__law_spoilt ["_law_text_here", "_law_row"] (spM K 2 r__law_spoilt)) (M__law_spoilt : Known K mg "_law_spoilt" f__law_spoilt fd__law_spoilt ["_law_text_here", "_law_row"])
    {f__law_told : Addr} {fd__law_told : FuncData} (G__law_told : FnOk P w K mg base (L2.CX P w) 1 f__law_told fd__law_told ["_law_found", "_law_due"] (spM K 2 r__law_told)) (M__law_told : Known K mg "_law_told" f__law_told fd__law_told ["_law_found", "_law_due"])
    {f_is_name : Addr} {fd_is_name : FuncData} (G_is_name : FnOk P w K mg base (L2.CX P w) 1 f_is_name fd_is_name ["thing"] (spM K 1 r_is_name)) (M_is_name : Known K mg "is_name" f_is_name fd_is_name ["thing"])
    {f_is_whole : Addr} {fd_is_whole : FuncData} (G_is_whole : FnOk P w K mg base (L2.CX P w) 1 f_is_whole fd_is_whole ["thing"] (spM K 1 r_is_whole)) (M_is_whole : Known K mg "is_whole" f_is_whole fd_is_whole ["thing"])
    {f__law_due_name : Addr} {fd__law_due_name : FuncData} (G__law_due_name : FnOk P w K mg base (L2.CX P w) 1 f__law_due_name fd__law_due_name ["_law_text_here"] (spM K 1 r__law_due_name)) (M__law_due_name : Known K mg "_law_due_name" f__law_due_name fd__law_due_name ["_law_text_here"]) :
    FnOk P w K mg base (L2.CX P w) 2 f fd ["_law_script"] (spM K 1 r_law) := by
  refine fn_sem (k := 1) F sc_law r_law [] m_law (fun cdv A outer s H E hr => ⟨_, (pss_cons (ps_for (passes_of rfl) rfl (ki_enum K rfl (by rfl) T.b_enumerate (pa_cons (pe_op (ke_add K rfl) (pe_lst (pa_cons (pe_int) pa_nil)) (pe_slice (ke_sl K rfl) (pv 0) po_none (po_some (pe_int)))) pa_nil)) (kg_tup K rfl (n := 2) rfl (pgs_cons (pg_name (i := 1) sc_law.nd rfl (Or.inl rfl)) (pgs_cons (pg_name (i := 2) sc_law.nd rfl (Or.inl rfl)) pgs_nil))) (pss_cons (ps_set (i := 3) sc_law.nd rfl (Or.inl rfl) (pe_call G__law_digits (hr.mono (by decide)) (by rfl) M__law_digits.1 M__law_digits.2.1 M__law_digits.2.2 .nil passD (pa_cons (pv 2) (pa_cons (pv 1) (pa_cons (pe_op (ke_add K rfl) (pe_op (ke_add K rfl) (pe_lst (pa_cons (pe_int) pa_nil)) (pe_op (ke_mul K rfl) (pe_lst (pa_cons (pe_int) pa_nil)) (pe_int))) (pe_lst (pa_cons (pe_int) pa_nil))) pa_nil)))))
      (pss_cons (ps_set (i := 4) sc_law.nd rfl (Or.inl rfl) (pe_call G__law_text (hr.mono (by decide)) (by rfl) M__law_text.1 M__law_text.2.1 M__law_text.2.2 .nil passD (pa_cons (pv 3) pa_nil)))
      (pss_cons (ps_for (passes_of rfl) rfl (ki_U K rfl (pe_lst (pa_cons (pv 4) (pa_cons (pe_call G__law_spoilt (hr.mono (by decide)) (by rfl) M__law_spoilt.1 M__law_spoilt.2.1 M__law_spoilt.2.2 .nil passD (pa_cons (pv 4) (pa_cons (pv 3) pa_nil))) (pa_cons (pe_slice (ke_sl K rfl) (pv 4) po_none (po_some (pe_int))) (pa_cons (pe_op (ke_add K rfl) (pv 4) (pe_str)) pa_nil)))))) (pg_name (i := 5) sc_law.nd rfl (Or.inl rfl)) (pss_one (ps_if ((pw_or (pt_not (kt_tru K rfl (pe_call G__law_told (hr.mono (by decide)) (by rfl) M__law_told.1 M__law_told.2.1 M__law_told.2.2 .nil passD (pa_cons (pe_call G_is_name (hr.mono (by decide)) (by rfl) M_is_name.1 M_is_name.2.1 M_is_name.2.2 .nil passD (pa_cons (pv 5) pa_nil)) (pa_cons (pe_call G__law_due_name (hr.mono (by decide)) (by rfl) M__law_due_name.1 M__law_due_name.2.1 M__law_due_name.2.2 .nil passD (pa_cons (pv 5) pa_nil)) pa_nil))))) (pw_or1 (pt_not (kt_tru K rfl (pe_call G__law_told (hr.mono (by decide)) (by rfl) M__law_told.1 M__law_told.2.1 M__law_told.2.2 .nil passD (pa_cons (pe_call G_is_whole (hr.mono (by decide)) (by rfl) M_is_whole.1 M_is_whole.2.1 M_is_whole.2.2 .nil passD (pa_cons (pv 5) pa_nil)) (pa_cons (pe_bl) pa_nil))))))).pt) (pss_one (ps_ret (pe_bl))) pss_nil)))
      (pss_cons (ps_for (passes_of rfl) rfl (ki_U K rfl (pe_lst (pa_cons (pe_op op_modI (pv 2) (pe_op op_powI (pe_int) (pe_int))) (pa_cons (pe_op op_subI (pe_int) (pe_ix (ke_ix K rfl (hu_of hr)) (pv 3) (pe_int) (fun _ _ => rfl))) (pa_cons (pe_int) (pa_cons (pe_ix (ke_ix K rfl (hu_of hr)) (pv 3) (pe_int) (fun _ _ => rfl)) pa_nil)))))) (pg_name (i := 6) sc_law.nd rfl (Or.inl rfl)) (pss_one (ps_if ((pw_or (pt_not (kt_tru K rfl (pe_call G__law_told (hr.mono (by decide)) (by rfl) M__law_told.1 M__law_told.2.1 M__law_told.2.2 .nil passD (pa_cons (pe_call G_is_whole (hr.mono (by decide)) (by rfl) M_is_whole.1 M_is_whole.2.1 M_is_whole.2.2 .nil passD (pa_cons (pv 6) pa_nil)) (pa_cons (pe_bl) pa_nil))))) (pw_or1 (pt_not (kt_tru K rfl (pe_call G__law_told (hr.mono (by decide)) (by rfl) M__law_told.1 M__law_told.2.1 M__law_told.2.2 .nil passD (pa_cons (pe_call G_is_name (hr.mono (by decide)) (by rfl) M_is_name.1 M_is_name.2.1 M_is_name.2.2 .nil passD (pa_cons (pv 6) pa_nil)) (pa_cons (pe_bl) pa_nil))))))).pt) (pss_one (ps_ret (pe_bl))) pss_nil)))
      (pss_cons (ps_set (i := 7) sc_law.nd rfl (Or.inl rfl) (pe_lst (pa_cons (pe_non) (pa_cons (pe_bl) (pa_cons (pe_bl) (pa_cons (pe_lst pa_nil) (pa_cons (pe_lst (pa_cons (pe_str) pa_nil)) (pa_cons (pe_tup (pa_cons (pe_str) pa_nil)) (pa_cons (pe_tup (pa_cons (pe_str) (pa_cons (pe_str) pa_nil))) (pa_cons (pe_dnewK) (pa_cons (pe_disp (pps_cons (pe_str) (pe_int) pps_nil) (by rfl) (by rfl) (fun z => by cases z) (by decide)) (pa_cons (pe_tup (pa_cons (pe_int) pa_nil)) (pa_cons (pe_lst (pa_cons (pe_int) pa_nil)) (pa_cons (pe_tup pa_nil) (pa_cons (pe_lst (pa_cons (pe_non) pa_nil)) (pa_cons (pe_tup (pa_cons (pe_str) pa_nil)) pa_nil))))))))))))))))
      (pss_cons (ps_set (i := 8) sc_law.nd rfl (Or.inl rfl) (pe_ix (ke_ix K rfl (hu_of hr)) (pe_op (ke_add K rfl) (pv 7) (pe_lst (pa_cons (pe_lst (pa_cons (pv 4) pa_nil)) (pa_cons (pe_disp (pps_cons (pe_int) (pe_int) pps_nil) (by rfl) (by rfl) (fun z => by cases z) (by decide)) pa_nil)))) (pe_ix (ke_ix K rfl (hu_of hr)) (pv 3) (pe_int) (fun _ _ => rfl)) (fun _ _ => rfl)))
      (pss_one (ps_if ((pw_or (pt_not (kt_tru K rfl (pe_call G__law_told (hr.mono (by decide)) (by rfl) M__law_told.1 M__law_told.2.1 M__law_told.2.2 .nil passD (pa_cons (pe_call G_is_name (hr.mono (by decide)) (by rfl) M_is_name.1 M_is_name.2.1 M_is_name.2.2 .nil passD (pa_cons (pv 8) pa_nil)) (pa_cons (pe_bl) pa_nil))))) (pw_or1 (pt_not (kt_tru K rfl (pe_call G__law_told (hr.mono (by decide)) (by rfl) M__law_told.1 M__law_told.2.1 M__law_told.2.2 .nil passD (pa_cons (pe_call G_is_whole (hr.mono (by decide)) (by rfl) M_is_whole.1 M_is_whole.2.1 M_is_whole.2.2 .nil passD (pa_cons (pv 8) pa_nil)) (pa_cons (pe_bl) pa_nil))))))).pt) (pss_one (ps_ret (pe_bl))) pss_nil)))))))))
      (pss_one (ps_ret (pe_bl)))), ?_⟩) (fun _ _ => rfl)
  unfold m_law m_law_b3 m_law_b2 m_law_b1
  try dsimp only [cxOf]
  infer_instance
end
end My

set_option Elab.async false
set_option linter.all false
set_option maxRecDepth 100000
set_option maxHeartbeats 4000000
namespace My
open PySem L2 Ly
def dg1 (c k num : Int) (i : Nat) : Int := ((num + c) % 2147483629 + 48271 + 7919 * (k + i) * (k + i)) * ((num + c) % 2147483629 + 48271 + 7919 * (k + i) * (k + i)) % 2147483587
theorem mul_box {a b x y : Int} (h0 : 0 ≤ a) (h1 : a ≤ x) (h2 : 0 ≤ b) (h3 : b ≤ y) : 0 ≤ a * b ∧ a * b ≤ x * y :=
  ⟨Int.mul_nonneg h0 h2, Int.mul_le_mul h1 h3 h2 (Int.le_trans h0 h1)⟩
theorem digits_ok (c k : Int) (sizes : List Int) (hs : ∀ s ∈ sizes, 0 < s ∧ s < big60) (hk : 0 ≤ k ∧ k ≤ 1000) (hl : sizes.length ≤ 100) :
    ∃ ds : List Int, r__law_digits [.int c, .int k, .lst (sizes.map .int)] = .ok (.lst (ds.map .int)) ∧ ds.length = sizes.length ∧ ∀ (i : Nat) (d s : Int), ds[i]? = some d → sizes[i]? = some s → 0 ≤ d ∧ d < s := by
  unfold r__law_digits m__law_digits
  simp [big60]
  generalize hr : runL _ _ _ _ = r
  have key : ∃ env', r = .ok (.nx env') ∧ ∃ (ds : List Int) (num : Int) (x5 x6 : Option W), env' = [some (W.sh (D.int c)), some (W.sh (D.int k)), some (W.sh (D.lst (List.map D.int sizes))), some (W.sh (D.int num)), some (W.lst (ds.map D.int)), x5, x6] ∧
      ds.length = 0 + (enumD 0 (List.map D.int sizes)).length ∧ ∀ (j : Nat) (d s : Int), ds[j]? = some d → sizes[j]? = some s → 0 ≤ d ∧ d < s := by
    rw [← hr]
    refine runL_goes (mb := m__law_digits_b1) (fun i env => ∃ (ds : List Int) (num : Int) (x5 x6 : Option W), env = [some (W.sh (D.int c)), some (W.sh (D.int k)), some (W.sh (D.lst (List.map D.int sizes))), some (W.sh (D.int num)), some (W.lst (ds.map D.int)), x5, x6] ∧
      ds.length = i ∧ ∀ (j : Nat) (d s : Int), ds[j]? = some d → sizes[j]? = some s → 0 ≤ d ∧ d < s) _ 0 _ ⟨[], _, _, _, rfl, rfl, by simp⟩ ?_
    rintro i d env hd ⟨ds, num, x5, x6, rfl, hlen, hb⟩
    obtain ⟨x, hx, rfl⟩ := enumD_get hd
    rw [List.getElem?_map] at hx
    obtain ⟨s, hs', rfl⟩ := Option.map_eq_some_iff.mp hx
    have hmem := List.mem_of_getElem? hs'
    obtain ⟨s0, s1⟩ := hs s hmem
    have hi := (List.getElem?_eq_some_iff.mp hs').1
    have ext : ∀ q : Int, 0 ≤ q → q < s → ∀ (j : Nat) (d s : Int), (ds ++ [q])[j]? = some d → sizes[j]? = some s → 0 ≤ d ∧ d < s := by
      intro q q0 q1 j d s' h1 h2
      by_cases hj : j < ds.length
      · rw [List.getElem?_append_left hj] at h1
        exact hb j d s' h1 h2
      · rw [List.getElem?_append_right (by omega)] at h1
        have e : j - ds.length = 0 := by
          rcases Nat.eq_zero_or_pos (j - ds.length) with e | e
          · exact e
          · rw [List.getElem?_eq_none (by simp; omega)] at h1; cases h1
        rw [e] at h1
        cases h1
        have : j = i := by omega
        subst this
        rw [hs'] at h2
        cases h2
        exact ⟨q0, q1⟩
    have hsmall : ds.length ≤ 10000000 := by omega
    have b60 : s < 10 ^ 60 := s1
    by_cases hc : c % 2 = 1 ∨ num = 0
    · have k0 : 0 ≤ k + (i : Int) ∧ k + (i : Int) ≤ 1100 := by omega
      have m1 : 0 ≤ 7919 * (k + (i : Int)) ∧ 7919 * (k + (i : Int)) ≤ 8710900 := by omega
      have m2 := mul_box m1.1 m1.2 k0.1 k0.2
      have m3 : 0 ≤ (num + c) % 2147483629 ∧ (num + c) % 2147483629 < 2147483629 := ⟨Int.emod_nonneg _ (by decide), Int.emod_lt_of_pos _ (by decide)⟩
      refine ⟨_, [some (W.sh (D.int c)), some (W.sh (D.int k)), some (W.sh (D.lst (List.map D.int sizes))), some (W.sh (D.int (dg1 c k num i))), some (W.lst ((ds ++ [dg1 c k num i / 16 % s]).map D.int)), some (W.sh (D.int i)), some (W.sh (D.int s))], rfl, .inl ?_, _, _, _, _, rfl, by simp; omega, ext _ (Int.emod_nonneg _ (by omega)) (Int.emod_lt_of_pos _ s0)⟩
      have c1 : (if c % 2 = 1 then Res.ok true else Res.ok (decide (num = 0))) = Res.ok true := by
        rcases hc with hc | hc <;> simp [hc]
      have c2 : -18446744073709551616 < k + (i : Int) ∧ k + (i : Int) < 18446744073709551616 := by omega
      have c3 : -18446744073709551616 < (num + c) % 2147483629 + 48271 + 7919 * (k + (i : Int)) * (k + i) ∧ (num + c) % 2147483629 + 48271 + 7919 * (k + (i : Int)) * (k + i) < 18446744073709551616 := by omega
      unfold m__law_digits_b1
      simp [c1, c2, c3, show (16 : Int) < big60 by decide, s0, s1, hsmall, dg1]
    · have c1 : (if c % 2 = 1 then Res.ok true else Res.ok (decide (num = 0))) = Res.ok false := by
        have h1 : ¬ c % 2 = 1 := fun h => hc (.inl h)
        have h2 : ¬ num = 0 := fun h => hc (.inr h)
        simp [h1, h2]
      refine ⟨_, [some (W.sh (D.int c)), some (W.sh (D.int k)), some (W.sh (D.lst (List.map D.int sizes))), some (W.sh (D.int (num / s))), some (W.lst ((ds ++ [num % s]).map D.int)), some (W.sh (D.int i)), some (W.sh (D.int s))], rfl, .inl ?_, _, _, _, _, rfl, by simp; omega, ext _ (Int.emod_nonneg _ (by omega)) (Int.emod_lt_of_pos _ s0)⟩
      unfold m__law_digits_b1
      simp [c1, s0, s1, hsmall]
  obtain ⟨env', rfl, ds, num, x5, x6, rfl, h1, h2⟩ := key
  exact ⟨ds, by simp, by rw [h1, enumD_len]; simp, h2⟩
end My

set_option Elab.async false
set_option linter.all false
set_option maxRecDepth 100000
set_option maxHeartbeats 4000000
namespace My
open PySem L2 Ly
theorem letters_cps : (PySem.Str.ofString "abcdefghijklmnopqrstuvwxyz").cps.toList = (List.range 26).map (· + 97) := by decide +kernel
theorem mem_letters (c : Nat) : c ∈ (PySem.Str.ofString "abcdefghijklmnopqrstuvwxyz").cps ↔ 97 ≤ c ∧ c ≤ 122 := by
  rw [← Array.mem_toList_iff, letters_cps, List.mem_map]
  constructor
  · rintro ⟨a, h, rfl⟩
    rw [List.mem_range] at h
    omega
  · intro h
    exact ⟨c - 97, by rw [List.mem_range]; omega, by omega⟩
def okc (c : Nat) : Bool := decide (97 ≤ c ∧ c ≤ 122)
def isName (z : Str) : Bool := decide (1 ≤ z.length ∧ z.length ≤ 8) && z.cps.toList.all okc
theorem v_notIn_sign (c : Nat) (z : Str) : notInB (sign c) (.str z) = .ok (.bl (!decide (c ∈ z.cps.toList))) := rfl
theorem is_name_loop (z : Str) : ∀ (cs : List Nat) (x1 : Option W), ∃ x1', runL (mName 1) m_is_name_b1 (cs.map sign) [some (.sh (.str z)), x1] =
    if cs.all okc = true then .ok (.nx [some (.sh (.str z)), x1']) else .ok (.rt (.sh (.bl false)))
  | [], x1 => ⟨x1, rfl⟩
  | c :: cs, x1 => by
    obtain ⟨x', ih⟩ := is_name_loop z cs (some (.sh (sign c)))
    refine ⟨x', ?_⟩
    rw [List.map_cons, a_runLc]
    simp only [a_mName, Res.bind_ok]
    rw [show m_is_name_b1 = mIfS [] (mTest (mD (mOpX notInB (mVarX 1) (mD (mK (.str "abcdefghijklmnopqrstuvwxyz")))))) (mRet [] (mK (.bl false))) mNext from rfl, a_mIfS] at *
    by_cases h : 97 ≤ c ∧ c ≤ 122
    · have h1 : okc c = true := decide_eq_true h
      rw [List.all_cons, h1, Bool.true_and, ← ih]
      simp [h, v_notIn_sign, mem_letters]
    · have h1 : okc c = false := decide_eq_false h
      rw [List.all_cons, h1, Bool.false_and]
      simp [h, v_notIn_sign, mem_letters]
theorem is_name_str (z : Str) (hz : z.length ≤ 10000000) : r_is_name [.str z] = .ok (.sh (.bl (isName z))) := by
  unfold r_is_name m_is_name
  simp [tyD, isTy, hz]
  by_cases h1 : (1 : Int) ≤ z.length
  · by_cases h2 : (z.length : Int) ≤ 8
    · obtain ⟨x, hx⟩ := is_name_loop z z.cps.toList none
      have e : isName z = z.cps.toList.all okc := by
        unfold isName
        rw [decide_eq_true (by omega), Bool.true_and]
      rw [e]
      cases hall : z.cps.toList.all okc <;> rw [hall] at hx <;> simp [h1, h2, hx]
    · have e : isName z = false := by
        unfold isName
        rw [decide_eq_false (by omega), Bool.false_and]
      simp [h1, h2, e]
  · have e : isName z = false := by
      unfold isName
      rw [decide_eq_false (by omega), Bool.false_and]
    simp [h1, e]
end My

set_option Elab.async false
set_option linter.all false
set_option maxRecDepth 100000
set_option maxHeartbeats 4000000
namespace My
open PySem L2 Ly
theorem cps_a : (PySem.Str.ofString "a") = ⟨#[97]⟩ := by decide +kernel
theorem cps_z : (PySem.Str.ofString "z") = ⟨#[122]⟩ := by decide +kernel
theorem lt_one (a b : Nat) : strLt ⟨#[a]⟩ ⟨#[b]⟩ = decide (a < b) := by
  unfold strLt
  by_cases h : a < b
  · rw [decide_eq_true h, decide_eq_true_iff]
    exact List.cons_lt_cons_iff.mpr (.inl h)
  · rw [decide_eq_false h, decide_eq_false_iff_not]
    intro q
    rcases List.cons_lt_cons_iff.mp q with q | ⟨_, q⟩
    · exact h q
    · exact absurd q (List.not_lt_nil _)
theorem due_name_str (z : Str) (hz : z.length ≤ 10000000) : r__law_due_name [.str z] = .ok (.sh (.bl (isName z))) := by
  unfold r__law_due_name m__law_due_name
  have key : runC (mName 2) (mTest (mD (mChain leD leD (mD (mK (.str "a"))) (mVarX 2) (mD (mK (.str "z")))))) (mD (mVar 2)) (z.cps.toList.map sign) [some (.sh (.str z)), none, none] = .ok ((z.cps.toList.filter okc).map sign) := by
    refine runC_filter sign okc sign z.cps.toList fun c hc => ⟨_, rfl, ?_, fun _ => rfl⟩
    have h1 : leD (.str (PySem.Str.ofString "a")) (sign c) = .ok (.bl (!decide (c < 97))) := by
      unfold sign
      rw [v_les, cps_a, lt_one]
    have h2 : leD (sign c) (.str (PySem.Str.ofString "z")) = .ok (.bl (!decide (122 < c))) := by
      unfold sign
      rw [v_les, cps_z, lt_one]
    simp [h1]
    by_cases hl : c < 97
    · have : okc c = false := decide_eq_false (by omega)
      simp [hl, this]
    · by_cases hu : 122 < c
      · have : okc c = false := decide_eq_false (by omega)
        simp [hl, h2, hu, this]
      · have : okc c = true := decide_eq_true (by omega)
        simp [hl, h2, hu, this]
  have hlen : (z.cps.toList.filter okc).length ≤ 10000000 := Nat.le_trans (List.length_filter_le _ _) (by simpa [Str.length] using hz)
  have heq : (((z.cps.toList.filter okc).length : Int) = (z.length : Int)) ↔ z.cps.toList.all okc = true := by
    have : z.length = z.cps.toList.length := by simp [Str.length]
    rw [this, List.all_eq_true]
    constructor
    · intro h
      exact List.length_filter_eq_length_iff.mp (by omega)
    · intro h
      have := List.length_filter_eq_length_iff.mpr h
      omega
  simp only [a_runD, a_slots, a_mSeq, a_mAsg]
  simp [key, hz, hlen]
  by_cases ha : z.cps.toList.all okc = true
  · have h0 := heq.mpr ha
    by_cases h1 : (1 : Int) ≤ z.length
    · by_cases h2 : (z.length : Int) ≤ 8
      · have e : isName z = true := by unfold isName; rw [decide_eq_true (by omega), ha]; rfl
        simp [h0, h1, h2, e]
      · have e : isName z = false := by unfold isName; rw [decide_eq_false (by omega), Bool.false_and]
        simp [h0, h1, h2, e]
    · have e : isName z = false := by unfold isName; rw [decide_eq_false (by omega), Bool.false_and]
      simp [h0, h1, e]
  · have h0 : ¬ ((z.cps.toList.filter okc).length : Int) = (z.length : Int) := fun h => ha (heq.mp h)
    have e : isName z = false := by
      unfold isName
      cases hb : z.cps.toList.all okc with
      | true => exact (ha hb).elim
      | false => rw [Bool.and_false]
    simp [h0, e]
theorem told_bl (a b : Bool) : r__law_told [.bl a, .bl b] = .ok (.sh (.bl (decide (a = b)))) := by
  unfold r__law_told m__law_told
  simp [tyD, isTy]

theorem whole_int (i : Int) : r_is_whole [.int i] = .ok (.sh (.bl true)) := by
  unfold r_is_whole m_is_whole
  simp [tyD, isTy]
theorem name_int (i : Int) : r_is_name [.int i] = .ok (.sh (.bl false)) := by
  unfold r_is_name m_is_name
  simp [tyD, isTy]
theorem whole_str (z : Str) : r_is_whole [.str z] = .ok (.sh (.bl false)) := by
  unfold r_is_whole m_is_whole
  simp [tyD, isTy]
end My

set_option Elab.async false
set_option linter.all false
set_option maxRecDepth 100000
set_option maxHeartbeats 4000000
namespace My
open PySem L2 Ly
theorem strsD_signs : ∀ cs : List Nat, strsD (cs.map sign) = some (cs.map fun c => (⟨#[c]⟩ : Str))
  | [] => rfl
  | c :: cs => by
    rw [List.map_cons]
    show (strsD (cs.map sign)).map _ = _
    rw [strsD_signs cs]
    rfl
theorem sum_ones (cs : List Nat) : ((cs.map fun c => (⟨#[c]⟩ : Str)).map (·.length)).sum = cs.length := by
  induction cs with
  | nil => rfl
  | cons c cs ih =>
    rw [List.map_cons, List.map_cons, List.sum_cons, ih, List.length_cons]
    show 1 + cs.length = _
    omega
theorem join_le (cs : List Nat) : (Txt.join (PySem.Str.ofString "") (cs.map fun c => (⟨#[c]⟩ : Str))).length ≤ cs.length := by
  rw [TL.join_eq]
  refine Nat.le_trans (StrLaws.join_length_le _ _) ?_
  rw [sum_ones]
  have : (PySem.Str.ofString "").length = 0 := by decide +kernel
  rw [this]
  omega
/-- a row of digits as the law draws it -/
structure Row (ds : List Int) : Prop where
  len : ds.length = 12
  b0 : ∀ d, ds[0]? = some d → 0 ≤ d ∧ d < 11
  bm : ∀ (i : Nat) d, 1 ≤ i → i ≤ 10 → ds[i]? = some d → 0 ≤ d ∧ d < 26
  bl : ∀ d, ds[11]? = some d → 0 ≤ d ∧ d < 16
theorem Row.at_ {ds : List Int} (r : Row ds) (i : Nat) (h : i < 12) : ∃ d, ds[i]? = some d := ⟨ds[i]'(by rw [r.len]; exact h), List.getElem?_eq_getElem _⟩
theorem atI_int {ds : List Int} {i : Nat} {d : Int} (h : ds[i]? = some d) : atI (ds.map D.int) (i : Int) = some (.int d) := by
  have hl := (List.getElem?_eq_some_iff.mp h).1
  unfold atI ixN
  rw [List.length_map, if_pos (by omega), if_pos (by omega)]
  simp [h]
theorem text_ok {ds : List Int} (r : Row ds) : ∃ z : Str, r__law_text [.lst (ds.map .int)] = .ok (.sh (.str z)) ∧ z.length ≤ 10 := by
  obtain ⟨d0, h0⟩ := r.at_ 0 (by decide)
  obtain ⟨l0, u0⟩ := r.b0 d0 h0
  have hx : ∀ x ∈ cutD ds (some 1) (some (1 + d0)), 0 ≤ x ∧ x < 26 := by
    intro x hx
    unfold cutD at hx
    have e1 : HT.sIx ds.length 0 (some 1) = 1 := by
      rw [show (some (1 : Int)) = some ((1 : Nat) : Int) from rfl, HT.sIx_nat, r.len]
      all_goals rfl
    have e2 : HT.sIx ds.length ds.length (some (1 + d0)) = 1 + d0.toNat := by
      rw [show (1 + d0 : Int) = ((1 + d0.toNat : Nat) : Int) by omega, HT.sIx_nat, r.len]
      omega
    rw [e1, e2] at hx
    obtain ⟨j, hj, e⟩ := List.mem_iff_getElem.mp hx
    rw [List.length_take, List.length_drop] at hj
    rw [List.getElem_take, List.getElem_drop] at e
    exact r.bm (1 + j) x (by omega) (by omega) (by rw [← e]; exact List.getElem?_eq_getElem _)
  have hlen : (cutD ds (some 1) (some (1 + d0))).length ≤ 10 := by
    unfold cutD
    rw [List.length_take, List.length_drop, r.len]
    have e1 : HT.sIx 12 0 (some 1) = 1 := by decide
    have e2 : HT.sIx 12 12 (some (1 + d0)) = 1 + d0.toNat := by
      rw [show (1 + d0 : Int) = ((1 + d0.toNat : Nat) : Int) by omega, HT.sIx_nat]
      omega
    rw [e1, e2]
    omega
  generalize hc : cutD ds (some 1) (some (1 + d0)) = cs at hx hlen
  refine ⟨Txt.join (PySem.Str.ofString "") ((cs.map fun n => 97 + n.toNat).map fun c => (⟨#[c]⟩ : Str)), ?_, Nat.le_trans (join_le _) (by simpa using hlen)⟩
  unfold r__law_text m__law_text
  have key : runC (mName 1) mTrue (mD (mOp ixD (mD (mK (.str "abcdefghijklmnopqrstuvwxyz"))) (mVarV 1))) (cs.map D.int) [some (.sh (.lst (ds.map .int))), none] = .ok ((cs.map fun n => 97 + n.toNat).map sign) := by
    rw [List.map_map]
    refine runC_map D.int _ cs fun x hx' => ⟨_, rfl, rfl, ?_⟩
    obtain ⟨x0, x1⟩ := hx x hx'
    have : atI (PySem.Str.ofString "abcdefghijklmnopqrstuvwxyz").cps.toList x = some (97 + x.toNat) := by
      rw [letters_cps]
      unfold atI ixN
      rw [List.length_map, List.length_range, if_pos x0, if_pos (by omega)]
      show (((List.range 26).map (· + 97)))[x.toNat]? = _
      rw [List.getElem?_map, List.getElem?_range (by omega)]
      show some (x.toNat + 97) = _
      rw [Nat.add_comm]
    have hl : (PySem.Str.ofString "abcdefghijklmnopqrstuvwxyz").length ≤ 10000000 := by decide +kernel
    simp [hl, -Array.length_toList, this]
    rfl
  have hz2 : (cs.map fun n => 97 + n.toNat).length ≤ 10000000 := by rw [List.length_map]; omega
  have he : (PySem.Str.ofString "").length = 0 := by decide +kernel
  have hj : joinD (PySem.Str.ofString "") (.lst ((cs.map fun n => 97 + n.toNat).map sign)) = .ok (.sh (.str (Txt.join (PySem.Str.ofString "") ((cs.map fun n => 97 + n.toNat).map fun c => (⟨#[c]⟩ : Str))))) :=
    v_join (strsD_signs _) (by rw [sum_ones, he]; omega)
  have hix : ixD (.lst (ds.map D.int)) (.int 0) = .ok (.sh (.int d0)) := by
    rw [v_ixl, show (0 : Int) = ((0 : Nat) : Int) from rfl, atI_int h0]
  simp only [a_runD, a_slots, a_mRet, a_fz0, a_mM1, a_mD, a_mK, Res.map_ok, a_toD1, Res.bind_ok, a_mLc, a_mItems, a_mSl, a_mPart, a_mOp]
  have hz3 : cs.length ≤ 10000000 := by omega
  simp [hix, hc, cut_map, key, hz3, hj, -v_ixl, -List.map_map]
end My

set_option Elab.async false
set_option linter.all false
set_option maxRecDepth 100000
set_option maxHeartbeats 4000000
namespace My
open PySem L2 Ly
theorem cutS_le (z : Str) (lo hi : Option Int) : (cutS z lo hi).length ≤ z.length := cutS_length z lo hi
theorem app_len (a b : Str) : (a ++ b).length = a.length + b.length := by
  show (a.cps ++ b.cps).size = _
  rw [Array.size_append]
  rfl
theorem row_ix {ds : List Int} (i : Nat) {d : Int} (h : ds[i]? = some d) : ixD (.lst (ds.map D.int)) (.int (i : Int)) = .ok (.sh (.int d)) := by
  rw [v_ixl, atI_int h]
theorem spoilt_ok {ds : List Int} (r : Row ds) (z : Str) (hz : z.length ≤ 10) : ∃ z' : Str, r__law_spoilt [.str z, .lst (ds.map .int)] = .ok (.sh (.str z')) ∧ z'.length ≤ 30 := by
  obtain ⟨d1, h1⟩ := r.at_ 1 (by decide)
  obtain ⟨d2, h2⟩ := r.at_ 2 (by decide)
  have e1 : ixD (.lst (ds.map D.int)) (.int 1) = .ok (.sh (.int d1)) := row_ix 1 h1
  have e2 : ixD (.lst (ds.map D.int)) (.int 2) = .ok (.sh (.int d2)) := row_ix 2 h2
  obtain ⟨m, hm⟩ : ∃ m : Int, (if (1 : Int) < z.length then (z.length : Int) else 1) = m := ⟨_, rfl⟩
  have hp : 0 < m := by rw [← hm]; split <;> omega
  have hs : ∃ c, atI (PySem.Str.ofString "AZ09_ -.{`\x40[\n\t").cps.toList (d2 % 14) = some c := by
    have hl : (PySem.Str.ofString "AZ09_ -.{`\x40[\n\t").cps.toList.length = 14 := by decide +kernel
    have := Int.emod_nonneg d2 (by decide : (14 : Int) ≠ 0)
    have := Int.emod_lt_of_pos d2 (by decide : (0 : Int) < 14)
    unfold atI ixN
    rw [hl, if_pos (by omega), if_pos (by omega)]
    exact ⟨_, List.getElem?_eq_getElem (by rw [hl]; omega)⟩
  obtain ⟨c, hc⟩ := hs
  have hl : (PySem.Str.ofString "AZ09_ -.{`\x40[\n\t").length ≤ 10000000 := by decide +kernel
  have hzl : z.length ≤ 10000000 := by omega
  unfold r__law_spoilt m__law_spoilt
  have c1 := cutS_le z none (some (d1 % m))
  have c2 := cutS_le z (some (d1 % m + 1)) none
  have one : (⟨#[c]⟩ : Str).length = 1 := rfl
  have l1 : (cutS z none (some (d1 % m)) ++ (⟨#[c]⟩ : Str)).length ≤ 11 := by rw [app_len, one]; omega
  have l2 : (cutS z none (some (d1 % m))).length + (⟨#[c]⟩ : Str).length ≤ 10000000 := by rw [one]; omega
  have l3 : (cutS z none (some (d1 % m)) ++ (⟨#[c]⟩ : Str)).length + (cutS z (some (d1 % m + 1)) none).length ≤ 10000000 := by omega
  refine ⟨cutS z none (some (d1 % m)) ++ (⟨#[c]⟩ : Str) ++ cutS z (some (d1 % m + 1)) none, ?_, by rw [app_len]; omega⟩
  simp [-v_ixl, e1, e2, hzl, hl, hc, hm, hp, l2, l3]
theorem whole_told (d : D) (b : Bool) (h : r_is_whole [d] = .ok (.sh (.bl b))) (c : Bool) : r__law_told [.bl b, .bl c] = .ok (.sh (.bl (decide (b = c)))) := told_bl b c
/-- the inner loops -/
theorem loop1 (x0 x1 x2 x3 x4 x6 x7 x8 : Option W) : ∀ (os : List Str) (x5 : Option W), (∀ o ∈ os, o.length ≤ 10000000) → ∃ x5', runL (mName 5) m_law_b1 (os.map D.str) [x0, x1, x2, x3, x4, x5, x6, x7, x8] = .ok (.nx [x0, x1, x2, x3, x4, x5', x6, x7, x8])
  | [], x5, _ => ⟨x5, rfl⟩
  | o :: os, x5, h => by
    obtain ⟨x', ih⟩ := loop1 x0 x1 x2 x3 x4 x6 x7 x8 os (some (.sh (.str o))) fun p hp => h p (List.mem_cons_of_mem _ hp)
    have ho := h o List.mem_cons_self
    refine ⟨x', ?_⟩
    rw [List.map_cons, a_runLc, ← ih]
    have hb : m_law_b1 [x0, x1, x2, x3, x4, some (.sh (.str o)), x6, x7, x8] = .ok (.nx [x0, x1, x2, x3, x4, some (.sh (.str o)), x6, x7, x8]) := by
      unfold m_law_b1
      simp [is_name_str o ho, due_name_str o ho, told_bl, whole_str]
    simp [hb]
theorem loop2 (x0 x1 x2 x3 x4 x5 x7 x8 : Option W) : ∀ (os : List Int) (x6 : Option W), ∃ x6', runL (mName 6) m_law_b2 (os.map D.int) [x0, x1, x2, x3, x4, x5, x6, x7, x8] = .ok (.nx [x0, x1, x2, x3, x4, x5, x6', x7, x8])
  | [], x6 => ⟨x6, rfl⟩
  | o :: os, x6 => by
    obtain ⟨x', ih⟩ := loop2 x0 x1 x2 x3 x4 x5 x7 x8 os (some (.sh (.int o)))
    refine ⟨x', ?_⟩
    rw [List.map_cons, a_runLc, ← ih]
    have hb : m_law_b2 [x0, x1, x2, x3, x4, x5, some (.sh (.int o)), x7, x8] = .ok (.nx [x0, x1, x2, x3, x4, x5, some (.sh (.int o)), x7, x8]) := by
      unfold m_law_b2
      simp [whole_int, name_int, told_bl]
    simp [hb]
/-- the things that are neither -/
def things (z : Str) : List D := [.non, .bl true, .bl false, .lst [], .lst [.str "a"], .tup [.str "a"], .tup [.str "a", .str "b"], .dic [] [], .dic [.inr "a"] [.int 1], .tup [.int 1], .lst [.int 1], .tup [], .lst [.non], .tup [.str "ab"], .lst [.str z], .dic [.inl 1] [.int 1]]
theorem thing_no (z : Str) : ∀ d ∈ things z, r_is_name [d] = .ok (.sh (.bl false)) ∧ r_is_whole [d] = .ok (.sh (.bl false)) := by
  intro d hd
  have : ∃ t, tyD d = some t ∧ (t = "NoneType" ∨ t = "bool" ∨ t = "list" ∨ t = "tuple" ∨ t = "dict") := by
    simp only [things, List.mem_cons, List.not_mem_nil, or_false] at hd
    rcases hd with h | h | h | h | h | h | h | h | h | h | h | h | h | h | h | h <;> subst h <;> exact ⟨_, rfl, by decide⟩
  obtain ⟨t, ht, hor⟩ := this
  unfold r_is_name m_is_name r_is_whole m_is_whole
  rcases hor with h | h | h | h | h <;> subst h <;> simp [ht, isTy]
end My

set_option Elab.async false
set_option linter.all false
set_option maxRecDepth 100000
set_option maxHeartbeats 8000000
namespace My
open PySem L2 Ly
def sizes : List Int := [11, 26, 26, 26, 26, 26, 26, 26, 26, 26, 26, 16]
theorem row_ok (cell : Int) (k : Nat) (hk : k ≤ 100) : ∃ ds : List Int, r__law_digits [.int cell, .int (k : Int), .lst (sizes.map .int)] = .ok (.lst (ds.map .int)) ∧ Row ds := by
  obtain ⟨ds, h1, h2, h3⟩ := digits_ok cell k sizes (by decide) (by omega) (by decide)
  refine ⟨ds, h1, h2, fun d hd => h3 0 d 11 hd rfl, fun i d h1 h2 hd => ?_, fun d hd => h3 11 d 16 hd rfl⟩
  refine h3 i d 26 hd ?_
  have : ∀ i : Fin 12, 1 ≤ i.val → i.val ≤ 10 → sizes[i.val]? = some 26 := by decide
  exact this ⟨i, by omega⟩ h1 h2
theorem body3 (ns : List Int) (k : Nat) (hk : k ≤ 100) (cell : Int) (x3 x4 x5 x6 x7 x8 : Option W) :
    ∃ y3 y4 y5 y6 y7 y8, m_law_b3 [some (.sh (.scr ns)), some (.sh (.int k)), some (.sh (.int cell)), x3, x4, x5, x6, x7, x8] = .ok (.nx [some (.sh (.scr ns)), some (.sh (.int k)), some (.sh (.int cell)), y3, y4, y5, y6, y7, y8]) := by
  obtain ⟨ds, hd, r⟩ := row_ok cell k hk
  obtain ⟨z, hz, lz⟩ := text_ok r
  obtain ⟨z', hz', lz'⟩ := spoilt_ok r z lz
  obtain ⟨d3, h3⟩ := r.at_ 3 (by decide)
  obtain ⟨d11, h11⟩ := r.at_ 11 (by decide)
  have e3 : ixD (.lst (ds.map D.int)) (.int 3) = .ok (.sh (.int d3)) := row_ix 3 h3
  have e11 : ixD (.lst (ds.map D.int)) (.int 11) = .ok (.sh (.int d11)) := row_ix 11 h11
  have hm : mulD (.lst [.int 26]) (.int 10) = .ok (.lst [.int 26, .int 26, .int 26, .int 26, .int 26, .int 26, .int 26, .int 26, .int 26, .int 26]) := rfl
  have hd' : r__law_digits [.int cell, .int (k : Int), .lst [.int 11, .int 26, .int 26, .int 26, .int 26, .int 26, .int 26, .int 26, .int 26, .int 26, .int 26, .int 16]] = .ok (.lst (ds.map .int)) := hd
  have hcut := cutS_le z none (some 8)
  have hl0 : z.length ≤ 10000000 := by omega
  have hl1 : (PySem.Str.ofString "z").length = 1 := by decide +kernel
  have hl2 : z.length + (PySem.Str.ofString "z").length ≤ 10000000 := by omega
  have happ : (z ++ PySem.Str.ofString "z").length ≤ 11 := by rw [app_len]; omega
  obtain ⟨y5, q1⟩ := loop1 (some (.sh (.scr ns))) (some (.sh (.int k))) (some (.sh (.int cell))) (some (.sh (.lst (ds.map .int)))) (some (.sh (.str z))) x6 x7 x8 [z, z', cutS z none (some 8), z ++ PySem.Str.ofString "z"] x5 (by
    intro o ho
    simp only [List.mem_cons, List.not_mem_nil, or_false] at ho
    rcases ho with h | h | h | h <;> subst h <;> omega)
  obtain ⟨y6, q2⟩ := loop2 (some (.sh (.scr ns))) (some (.sh (.int k))) (some (.sh (.int cell))) (some (.sh (.lst (ds.map .int)))) (some (.sh (.str z))) y5 x7 x8 [cell % 10 ^ 40, 0 - d3, 0, d11] x6
  have ht : ∃ t, atI (things z) d11 = some t := by
    obtain ⟨b0, b1⟩ := r.bl d11 h11
    unfold atI ixN
    have hl : (things z).length = 16 := rfl
    rw [hl, if_pos b0, if_pos (by omega)]
    exact ⟨_, List.getElem?_eq_getElem (by rw [hl]; omega)⟩
  obtain ⟨t, ht⟩ := ht
  have hmem : t ∈ things z := by
    unfold atI at ht
    obtain ⟨j, _, hj⟩ := Option.bind_eq_some_iff.mp ht
    exact List.mem_of_getElem? hj
  obtain ⟨n1, n2⟩ := thing_no z t hmem
  refine ⟨some (.sh (.lst (ds.map .int))), some (.sh (.str z)), y5, y6, some (.sh (.lst ((things z).take 14))), some (.sh t), ?_⟩
  unfold m_law_b3
  simp at q1 q2
  have hd1 : mDisp (mPCons (mD (mK (.str "a"))) (mD (mK (.int 1))) mPNil) = fun _ => .ok (.dic [.inr "a"] [.int 1]) := rfl
  have hd2 : mDisp (mPCons (mD (mK (.int 1))) (mD (mK (.int 1))) mPNil) = fun _ => .ok (.dic [.inl 1] [.int 1]) := rfl
  have hix : ixD (.lst (things z)) (.int d11) = .ok (.sh t) := by rw [v_ixl, ht]
  unfold things at hix ⊢
  simp [-v_ixl, -v_mull, -a_mDisp, hd1, hd2, hm, hd', hz, hz', e3, e11, hl0, hl2, q1, q2, hix, n1, n2, told_bl]
theorem law_true (ns : List Int) (hl : ns.length ≤ 63) : r_law [.scr ns] = .ok (.sh (.bl true)) := by
  unfold r_law m_law
  have hc : (cutD ns none (some 60)).length ≤ 60 := by
    unfold cutD
    rw [List.length_take, show HT.sIx ns.length ns.length (some 60) = min 60 ns.length from HT.sIx_nat _ _ 60]
    omega
  have hsm : 1 + (cutD ns none (some 60)).length ≤ 10000000 := by omega
  generalize hcs : cutD ns none (some 60) = cs at *
  simp [hcs, hsm]
  generalize hr : runL _ _ _ _ = r
  have key : ∃ env', r = .ok (.nx env') ∧ ∃ x1 x2 x3 x4 x5 x6 x7 x8 : Option W, env' = [some (.sh (.scr ns)), x1, x2, x3, x4, x5, x6, x7, x8] := by
    rw [← hr]
    refine runL_goes (mb := m_law_b3) (fun i env => ∃ x1 x2 x3 x4 x5 x6 x7 x8 : Option W, env = [some (.sh (.scr ns)), x1, x2, x3, x4, x5, x6, x7, x8]) _ 0 _ ⟨_, _, _, _, _, _, _, _, rfl⟩ ?_
    rintro i d env hd ⟨x1, x2, x3, x4, x5, x6, x7, x8, rfl⟩
    have hd' : (enumD 0 ((1 :: cs).map D.int))[i]? = some d := hd
    obtain ⟨x, hx, rfl⟩ := enumD_get hd'
    rw [List.getElem?_map] at hx
    obtain ⟨cell, hcell, rfl⟩ := Option.map_eq_some_iff.mp hx
    have hi := (List.getElem?_eq_some_iff.mp hcell).1
    rw [List.length_cons] at hi
    obtain ⟨y3, y4, y5, y6, y7, y8, hb⟩ := body3 ns (0 + i) (by omega) cell x3 x4 x5 x6 x7 x8
    exact ⟨_, _, rfl, .inl hb, _, _, _, _, _, _, _, _, rfl⟩
  obtain ⟨env', rfl, x1, x2, x3, x4, x5, x6, x7, x8, rfl⟩ := key
  simp
end My

set_option Elab.async false
set_option linter.all false
set_option maxRecDepth 100000
set_option maxHeartbeats 4000000
namespace My
open PySem L2 Ly PyProof.Rows
theorem all_mk {P : Program} {w : World} {K : PySem.W.Frag} {h : Heap} {mg : Str → Option Value} {fa : Addr} (X : K.In h) (G : h.Ns mainGlobals mg) (hfa : mg "law" = some (.ref fa))
    {f2 : Addr} {od2 an2 : Option Addr} {sl2 : Array (Option Value)} {oc2 kV2 dc2 pm2 cd2 ct2 : Value}
    (a2 : PySem.W.nsIn K mainGlobals "is_whole" = some (some (.ref f2))) (l2 : K.lookup f2 = some ⟨oc2, od2, .func (PySem.W.fnOf "is_whole" "is_whole" (defArgs s_is_whole) (defBody s_is_whole) (defScope s_is_whole) .none kV2 dc2 pm2 an2 cd2 ct2), sl2⟩) (c2 : PySem.W.codeIn K cd2 "is_whole" = true) (k2 : PySem.W.keepIn K (.ref f2) = true)
    {f3 : Addr} {od3 an3 : Option Addr} {sl3 : Array (Option Value)} {oc3 kV3 dc3 pm3 cd3 ct3 : Value}
    (a3 : PySem.W.nsIn K mainGlobals "is_name" = some (some (.ref f3))) (l3 : K.lookup f3 = some ⟨oc3, od3, .func (PySem.W.fnOf "is_name" "is_name" (defArgs s_is_name) (defBody s_is_name) (defScope s_is_name) .none kV3 dc3 pm3 an3 cd3 ct3), sl3⟩) (c3 : PySem.W.codeIn K cd3 "is_name" = true) (k3 : PySem.W.keepIn K (.ref f3) = true)
    {f5 : Addr} {od5 an5 : Option Addr} {sl5 : Array (Option Value)} {oc5 kV5 dc5 pm5 cd5 ct5 : Value}
    (a5 : PySem.W.nsIn K mainGlobals "_law_digits" = some (some (.ref f5))) (l5 : K.lookup f5 = some ⟨oc5, od5, .func (PySem.W.fnOf "_law_digits" "_law_digits" (defArgs s__law_digits) (defBody s__law_digits) (defScope s__law_digits) .none kV5 dc5 pm5 an5 cd5 ct5), sl5⟩) (c5 : PySem.W.codeIn K cd5 "_law_digits" = true) (k5 : PySem.W.keepIn K (.ref f5) = true)
    {f6 : Addr} {od6 an6 : Option Addr} {sl6 : Array (Option Value)} {oc6 kV6 dc6 pm6 cd6 ct6 : Value}
    (a6 : PySem.W.nsIn K mainGlobals "_law_text" = some (some (.ref f6))) (l6 : K.lookup f6 = some ⟨oc6, od6, .func (PySem.W.fnOf "_law_text" "_law_text" (defArgs s__law_text) (defBody s__law_text) (defScope s__law_text) .none kV6 dc6 pm6 an6 cd6 ct6), sl6⟩) (c6 : PySem.W.codeIn K cd6 "_law_text" = true) (k6 : PySem.W.keepIn K (.ref f6) = true)
    {f7 : Addr} {od7 an7 : Option Addr} {sl7 : Array (Option Value)} {oc7 kV7 dc7 pm7 cd7 ct7 : Value}
    (a7 : PySem.W.nsIn K mainGlobals "_law_spoilt" = some (some (.ref f7))) (l7 : K.lookup f7 = some ⟨oc7, od7, .func (PySem.W.fnOf "_law_spoilt" "_law_spoilt" (defArgs s__law_spoilt) (defBody s__law_spoilt) (defScope s__law_spoilt) .none kV7 dc7 pm7 an7 cd7 ct7), sl7⟩) (c7 : PySem.W.codeIn K cd7 "_law_spoilt" = true) (k7 : PySem.W.keepIn K (.ref f7) = true)
    {f8 : Addr} {od8 an8 : Option Addr} {sl8 : Array (Option Value)} {oc8 kV8 dc8 pm8 cd8 ct8 : Value}
    (a8 : PySem.W.nsIn K mainGlobals "_law_due_name" = some (some (.ref f8))) (l8 : K.lookup f8 = some ⟨oc8, od8, .func (PySem.W.fnOf "_law_due_name" "_law_due_name" (defArgs s__law_due_name) (defBody s__law_due_name) (defScope s__law_due_name) .none kV8 dc8 pm8 an8 cd8 ct8), sl8⟩) (c8 : PySem.W.codeIn K cd8 "_law_due_name" = true) (k8 : PySem.W.keepIn K (.ref f8) = true)
    {f9 : Addr} {od9 an9 : Option Addr} {sl9 : Array (Option Value)} {oc9 kV9 dc9 pm9 cd9 ct9 : Value}
    (a9 : PySem.W.nsIn K mainGlobals "_law_told" = some (some (.ref f9))) (l9 : K.lookup f9 = some ⟨oc9, od9, .func (PySem.W.fnOf "_law_told" "_law_told" (defArgs s__law_told) (defBody s__law_told) (defScope s__law_told) .none kV9 dc9 pm9 an9 cd9 ct9), sl9⟩) (c9 : PySem.W.codeIn K cd9 "_law_told" = true) (k9 : PySem.W.keepIn K (.ref f9) = true)
    {f10 : Addr} {od10 an10 : Option Addr} {sl10 : Array (Option Value)} {oc10 kV10 dc10 pm10 cd10 ct10 : Value}
    (a10 : PySem.W.nsIn K mainGlobals "law" = some (some (.ref f10))) (l10 : K.lookup f10 = some ⟨oc10, od10, .func (PySem.W.fnOf "law" "law" (defArgs s_law) (defBody s_law) (defScope s_law) .none kV10 dc10 pm10 an10 cd10 ct10), sl10⟩) (c10 : PySem.W.codeIn K cd10 "law" = true) (k10 : PySem.W.keepIn K (.ref f10) = true)
    (z_abs : PySem.W.nsIn K mainGlobals "abs" = some none)
    (z_bool : PySem.W.nsIn K mainGlobals "bool" = some none)
    (z_enumerate : PySem.W.nsIn K mainGlobals "enumerate" = some none)
    (z_int : PySem.W.nsIn K mainGlobals "int" = some none)
    (z_isinstance : PySem.W.nsIn K mainGlobals "isinstance" = some none)
    (z_len : PySem.W.nsIn K mainGlobals "len" = some none)
    (z_max : PySem.W.nsIn K mainGlobals "max" = some none)
    (z_str : PySem.W.nsIn K mainGlobals "str" = some none)
    {t_LETTERS : Tok} (g_LETTERS : PySem.W.nsIn K mainGlobals "LETTERS" = some (some (Value.str (PySem.Str.ofString "abcdefghijklmnopqrstuvwxyz") t_LETTERS)))
    : ∃ fd : FuncData, (∀ (s : Shared) (v : Value), BindsTo s fd ⟨[v], []⟩ [("_law_script", v)]) ∧ ∀ base : Heap, K.In base → base.Ns mainGlobals mg → FnOk P w K mg base (L2.CX P w) 2 fa fd ["_law_script"] (spM K 1 r_law) := by
  have e := hfa.symm.trans (PySem.W.mg_of X G a10)
  cases e
  have T : Txt mg := ⟨PySem.W.mg_none_of X G z_abs, PySem.W.mg_none_of X G z_bool, PySem.W.mg_none_of X G z_enumerate, PySem.W.mg_none_of X G z_int, PySem.W.mg_none_of X G z_isinstance, PySem.W.mg_none_of X G z_len, PySem.W.mg_none_of X G z_max, PySem.W.mg_none_of X G z_str, ⟨_, PySem.W.mg_of X G g_LETTERS⟩⟩
  have F2 := fun_mk (st := s_is_whole) l2 c2 k2
  have b2 := F2.binds (ps := ["thing"]) fun _ _ _ _ _ _ us hl => match us, hl with | [_], _ => rfl
  have M2 : Known K mg "is_whole" f2 _ ["thing"] := ⟨PySem.W.mg_of X G a2, k2, b2⟩
  have F3 := fun_mk (st := s_is_name) l3 c3 k3
  have b3 := F3.binds (ps := ["thing"]) fun _ _ _ _ _ _ us hl => match us, hl with | [_], _ => rfl
  have M3 : Known K mg "is_name" f3 _ ["thing"] := ⟨PySem.W.mg_of X G a3, k3, b3⟩
  have F5 := fun_mk (st := s__law_digits) l5 c5 k5
  have b5 := F5.binds (ps := ["_law_cell", "_law_k", "_law_sizes"]) fun _ _ _ _ _ _ us hl => match us, hl with | [_, _, _], _ => rfl
  have M5 : Known K mg "_law_digits" f5 _ ["_law_cell", "_law_k", "_law_sizes"] := ⟨PySem.W.mg_of X G a5, k5, b5⟩
  have F6 := fun_mk (st := s__law_text) l6 c6 k6
  have b6 := F6.binds (ps := ["_law_row"]) fun _ _ _ _ _ _ us hl => match us, hl with | [_], _ => rfl
  have M6 : Known K mg "_law_text" f6 _ ["_law_row"] := ⟨PySem.W.mg_of X G a6, k6, b6⟩
  have F7 := fun_mk (st := s__law_spoilt) l7 c7 k7
  have b7 := F7.binds (ps := ["_law_text_here", "_law_row"]) fun _ _ _ _ _ _ us hl => match us, hl with | [_, _], _ => rfl
  have M7 : Known K mg "_law_spoilt" f7 _ ["_law_text_here", "_law_row"] := ⟨PySem.W.mg_of X G a7, k7, b7⟩
  have F8 := fun_mk (st := s__law_due_name) l8 c8 k8
  have b8 := F8.binds (ps := ["_law_text_here"]) fun _ _ _ _ _ _ us hl => match us, hl with | [_], _ => rfl
  have M8 : Known K mg "_law_due_name" f8 _ ["_law_text_here"] := ⟨PySem.W.mg_of X G a8, k8, b8⟩
  have F9 := fun_mk (st := s__law_told) l9 c9 k9
  have b9 := F9.binds (ps := ["_law_found", "_law_due"]) fun _ _ _ _ _ _ us hl => match us, hl with | [_, _], _ => rfl
  have M9 : Known K mg "_law_told" f9 _ ["_law_found", "_law_due"] := ⟨PySem.W.mg_of X G a9, k9, b9⟩
  have F10 := fun_mk (st := s_law) l10 c10 k10
  refine ⟨PySem.W.fnOf "law" "law" (defArgs s_law) (defBody s_law) (defScope s_law) .none kV10 dc10 pm10 an10 cd10 ct10, fun s v => .of_eq rfl, fun base hb hn => ?_⟩
  have G2 := ok_is_whole (P := P) (w := w) (base := base) F2 T
  have G3 := ok_is_name (P := P) (w := w) (base := base) F3 T
  have G5 := ok__law_digits (P := P) (w := w) (base := base) F5 T
  have G6 := ok__law_text (P := P) (w := w) (base := base) F6 T
  have G7 := ok__law_spoilt (P := P) (w := w) (base := base) F7 T
  have G8 := ok__law_due_name (P := P) (w := w) (base := base) F8 T
  have G9 := ok__law_told (P := P) (w := w) (base := base) F9 T
  have G10 := ok_law (P := P) (w := w) (base := base) F10 T G5 M5 G6 M6 G7 M7 G9 M9 G3 M3 G2 M2 G8 M8
  exact G10
theorem walk {l : PySem.W.OpenLaw} {q : Program} {loose : List Str} {XP : (Str → Option Value) → Heap → Prop} {YP : World → Heap → Prop} {d : DefRec} {K : Params → PySem.W.Frag} (hn : l.most = some 63) (hdf : d.params.defaults = [])
    (hY : ∀ (w : World) (h : Heap), YP w h → (K w.params).In h)
    (law_true : ∀ ns : List Int, ns.length ≤ 63 → r_law [.scr ns] = .ok (.sh (.bl true)))
    (F : ∀ (w : World) (mg : Str → Option Value) (fa : Addr) (h : Heap), (K w.params).In h → h.Ns mainGlobals mg → mg d.name = some (.ref fa) →
      ∃ fd : FuncData, (∀ (s : Shared) (u : Value), BindsTo s fd ⟨[u], []⟩ [("_law_script", u)]) ∧ ∀ base : Heap, (K w.params).In base → base.Ns mainGlobals mg → FnOk l.prog w (K w.params) mg base (L2.CX l.prog w) 2 fa fd ["_law_script"] (spM (K w.params) 1 r_law)) :
    PySem.W.WalkO q loose XP YP l.row.toRowW d [] (fun f vs => PySem.call f vs) :=
  L2.walk_of (n := 63) (k := 2) (x := "_law_script") (CX := fun w => L2.CX l.prog w) (sp := fun w => spM (K w.params) 1 r_law) hn (by decide) hdf ⟨rfl, by decide, by decide⟩ hY F
    (fun w H a ns hl _ hS => ⟨rfl, H, [.scr ns], Same.refl H, .cons (.scr hS) .nil, by rw [law_true ns hl]; exact fun v S' H' fp n => by cases n.own with | sh r => cases r; rfl⟩)
    fun w H s e s' z => by obtain ⟨_, _, _, _, _, _, _, _, _, _, _, _, z⟩ := z; exact z
end My
open PySem PySem.W PyProof.Rows
set_option maxRecDepth 100000 in
set_option maxHeartbeats 0 in
theorem PySem.Challenge.cw_shopbound_k04_names_and_numbers_holds : PySem.Challenge.rw_shopbound_k04_names_and_numbers.Holds := by
  w_on; o_law; k_head; (case hw => w_witness2)
  k_fill
  refine My.walk (l := PySem.Challenge.rw_shopbound_k04_names_and_numbers) rfl rfl (fun w h Y => PySem.W.kIn_of Y) My.law_true ?F
  case F =>
    intro w mg fa h KX G hmg
    refine' My.all_mk KX G hmg ?a2 ?l2 ?c2 ?k2 ?a3 ?l3 ?c3 ?k3 ?a5 ?l5 ?c5 ?k5 ?a6 ?l6 ?c6 ?k6 ?a7 ?l7 ?c7 ?k7 ?a8 ?l8 ?c8 ?k8 ?a9 ?l9 ?c9 ?k9 ?a10 ?l10 ?c10 ?k10 ?z_abs ?z_bool ?z_enumerate ?z_int ?z_isinstance ?z_len ?z_max ?z_str ?g_LETTERS
    (case a2 => k_is)
    (case l2 => k_is)
    (case c2 => k_is)
    (case k2 => k_is)
    (case a3 => k_is)
    (case l3 => k_is)
    (case c3 => k_is)
    (case k3 => k_is)
    (case a5 => k_is)
    (case l5 => k_is)
    (case c5 => k_is)
    (case k5 => k_is)
    (case a6 => k_is)
    (case l6 => k_is)
    (case c6 => k_is)
    (case k6 => k_is)
    (case a7 => k_is)
    (case l7 => k_is)
    (case c7 => k_is)
    (case k7 => k_is)
    (case a8 => k_is)
    (case l8 => k_is)
    (case c8 => k_is)
    (case k8 => k_is)
    (case a9 => k_is)
    (case l9 => k_is)
    (case c9 => k_is)
    (case k9 => k_is)
    (case a10 => k_is)
    (case l10 => k_is)
    (case c10 => k_is)
    (case k10 => k_is)
    (case z_abs => k_is)
    (case z_bool => k_is)
    (case z_enumerate => k_is)
    (case z_int => k_is)
    (case z_isinstance => k_is)
    (case z_len => k_is)
    (case z_max => k_is)
    (case z_str => k_is)
    (case g_LETTERS => k_is)

