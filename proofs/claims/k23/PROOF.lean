import PyProof.Rows.All
import Wide.All
import OpenK.AllK
import Wide.FinOn
import HandS.ForMost
import HandS.ForExc
import HandS.IsInst
import HandS.Wide
import HandS.Deep
import HandS.Steps
import HandS.ListItems
import HandS.Style
import HandS.Finally
import HandS.FStr
import HandS.RaiseMore
import KE.KEqDict
import HandS.SortInts
import HandS.More
import PySem.Challenge.RW_shopbound_k23_plans_written
set_option Elab.async false
set_option linter.all false
set_option maxRecDepth 100000
/-! Ly: data instead of addresses. D: what a value is, as data; Rep: the stable part S of the heap bears it; W: a value with what is owned; mirrors: plain functions over lists of W. -/
namespace Ly
open PySem L2

/-- data -/
inductive D where
  | non | bl (b : Bool) | int (i : Int) | str (x : Str)
  | lst (xs : List D) | tup (xs : List D)
  | dic (ks : List Key) (xs : List D) | dit (ks : List (List Key)) (xs : List D)
  | obj (C : Addr) (fs : List Str) (xs : List D)
  | scr (ns : List Int)
  /-- a tuple of the module; a built-in type; a class -/
  | ktup (xs : List D)
  | ty (n : String)
  | cls (C : Addr)

mutual
/-- v is d in the stable heap S -/
inductive Rep (K : PySem.W.Frag) (S : Hp) : V → D → Prop
  | non : Rep K S .non .non
  | bl (b : Bool) : Rep K S (.bl b) (.bl b)
  | int (i : Int) : Rep K S (.int i) (.int i)
  | str (x : Str) : Rep K S (.str x) (.str x)
  | ty (n : String) : Rep K S (.ty n) (.ty n)
  | cls (C : Addr) : Rep K S (.ref C) (.cls C)
  | lst {a : Addr} {vs : List V} {xs : List D} : S a = some (.lst vs) → Reps K S vs xs → Rep K S (.ref a) (.lst xs)
  | tup {a : Addr} {vs : List V} {xs : List D} : S a = some (.tup vs) → Reps K S vs xs → Rep K S (.ref a) (.tup xs)
  | ktup {a : Addr} {vs : List V} {xs : List D} : SqT K S a vs → Reps K S vs xs → Rep K S (.ref a) (.ktup xs)
  | dic {a : Addr} {ks : List Key} {vs : List V} {xs : List D} : Rd S a (.dK (ks.zip vs)) → vs.length = ks.length → Reps K S vs xs → Rep K S (.ref a) (.dic ks xs)
  | dit {a : Addr} {ks : List (List Key)} {vs : List V} {xs : List D} : Rd S a (.dT (ks.zip vs)) → vs.length = ks.length → Reps K S vs xs → Rep K S (.ref a) (.dit ks xs)
  | obj {a C dx : Addr} {fs : List Str} {vs : List V} {xs : List D} : S a = some (.ins C dx (fs.zip vs)) → vs.length = fs.length → Reps K S vs xs → Rep K S (.ref a) (.obj C fs xs)
  | scr {a : Addr} {ns : List Int} : SqL K S a (ns.map V.int) → Rep K S (.ref a) (.scr ns)
inductive Reps (K : PySem.W.Frag) (S : Hp) : List V → List D → Prop
  | nil : Reps K S [] []
  | cons {v : V} {vs : List V} {d : D} {ds : List D} : Rep K S v d → Reps K S vs ds → Reps K S (v :: vs) (d :: ds)
end

theorem rd_up {S S' : Hp} {a : Addr} {u : HO} (h : Same S S') (r : Rd S a u) : Rd S' a u := by
  rcases r with e | ⟨o, e⟩
  · exact .inl (h _ _ e)
  · exact .inr ⟨o, h _ _ e⟩
theorem sqT_up {K : PySem.W.Frag} {S S' : Hp} {a : Addr} {xs : List V} (e : Same S S') (h : SqT K S a xs) : SqT K S' a xs := by
  rcases h with (h | ⟨o, h⟩) | h
  · exact .inl (.inl (e _ _ h))
  · exact .inl (.inr ⟨o, e _ _ h⟩)
  · exact .inr h
section
variable {K : PySem.W.Frag} {S S' H H' : Hp}
mutual
theorem Rep.mono (h : Same S S') : ∀ (d : D) (v : V), Rep K S v d → Rep K S' v d
  | .non, _, r => by cases r; exact .non
  | .bl b, _, r => by cases r; exact .bl b
  | .int i, _, r => by cases r; exact .int i
  | .str x, _, r => by cases r; exact .str x
  | .ty x, _, r => by cases r; exact .ty x
  | .cls x, _, r => by cases r; exact .cls x
  | .lst xs, _, r => by cases r with | lst e q => exact .lst (h _ _ e) (Reps.mono h xs _ q)
  | .tup xs, _, r => by cases r with | tup e q => exact .tup (h _ _ e) (Reps.mono h xs _ q)
  | .ktup xs, _, r => by cases r with | ktup e q => exact .ktup (sqT_up h e) (Reps.mono h xs _ q)
  | .dic ks xs, _, r => by cases r with | dic e l q => exact .dic (rd_up h e) l (Reps.mono h xs _ q)
  | .dit ks xs, _, r => by cases r with | dit e l q => exact .dit (rd_up h e) l (Reps.mono h xs _ q)
  | .obj C fs xs, _, r => by cases r with | obj e l q => exact .obj (h _ _ e) l (Reps.mono h xs _ q)
  | .scr ns, _, r => by cases r with | scr e => exact .scr (h.seq e)
theorem Reps.mono (h : Same S S') : ∀ (ds : List D) (vs : List V), Reps K S vs ds → Reps K S' vs ds
  | [], _, r => by cases r; exact .nil
  | d :: ds, _, r => by cases r with | cons a b => exact .cons (Rep.mono h d _ a) (Reps.mono h ds _ b)
end
theorem Rep.up {v : V} {d : D} (r : Rep K S v d) (h : Same S S') : Rep K S' v d := Rep.mono h d v r
theorem Reps.up {vs : List V} {ds : List D} (r : Reps K S vs ds) (h : Same S S') : Reps K S' vs ds := Reps.mono h ds vs r
theorem Reps.len : ∀ {vs : List V} {ds : List D}, Reps K S vs ds → vs.length = ds.length
  | _, _, .nil => rfl
  | _, _, .cons _ t => congrArg (· + 1) (Reps.len t)
theorem Reps.get : ∀ {vs : List V} {ds : List D} {i : Nat} {d : D}, Reps K S vs ds → ds[i]? = some d → ∃ v, vs[i]? = some v ∧ Rep K S v d
  | _, _, _, _, .nil, e => by simp at e
  | _, _, 0, _, .cons r _, e => by simp at e; subst e; exact ⟨_, rfl, r⟩
  | _, _, i + 1, d, .cons _ t, e => by
    obtain ⟨v, h1, h2⟩ := Reps.get (i := i) (d := d) t (by simpa using e)
    exact ⟨v, by simpa using h1, h2⟩
theorem Reps.getV : ∀ {vs : List V} {ds : List D} {i : Nat} {v : V}, Reps K S vs ds → vs[i]? = some v → ∃ d, ds[i]? = some d ∧ Rep K S v d
  | _, _, _, _, .nil, e => by simp at e
  | _, _, 0, _, .cons r _, e => by simp at e; subst e; exact ⟨_, rfl, r⟩
  | _, _, i + 1, d, .cons _ t, e => by
    obtain ⟨v, h1, h2⟩ := Reps.getV (i := i) (v := d) t (by simpa using e)
    exact ⟨v, by simpa using h1, h2⟩
theorem Reps.app : ∀ {vs ws : List V} {ds es : List D}, Reps K S vs ds → Reps K S ws es → Reps K S (vs ++ ws) (ds ++ es)
  | _, _, _, _, .nil, s => s
  | _, _, _, _, .cons r t, s => .cons r (Reps.app t s)
theorem Reps.take : ∀ {vs : List V} {ds : List D} (n : Nat), Reps K S vs ds → Reps K S (vs.take n) (ds.take n)
  | _, _, 0, _ => by rw [List.take_zero, List.take_zero]; exact .nil
  | _, _, _ + 1, .nil => .nil
  | _, _, n + 1, .cons r t => .cons r (Reps.take n t)
theorem Reps.drop : ∀ {vs : List V} {ds : List D} (n : Nat), Reps K S vs ds → Reps K S (vs.drop n) (ds.drop n)
  | _, _, 0, r => r
  | _, _, _ + 1, .nil => .nil
  | _, _, n + 1, .cons _ t => Reps.drop n t
theorem Reps.set {v : V} {d : D} (r : Rep K S v d) : ∀ {vs : List V} {ds : List D} (i : Nat), Reps K S vs ds → Reps K S (vs.set i v) (ds.set i d)
  | _, _, _, .nil => .nil
  | _, _, 0, .cons _ t => .cons r t
  | _, _, i + 1, .cons q t => .cons q (Reps.set r i t)
theorem Reps.rep {v : V} {d : D} (r : Rep K S v d) : ∀ n : Nat, Reps K S (List.replicate n v) (List.replicate n d)
  | 0 => .nil
  | n + 1 => .cons r (Reps.rep r n)
theorem Reps.ints : ∀ (ns : List Int), Reps K S (ns.map V.int) (ns.map D.int)
  | [] => .nil
  | n :: ns => .cons (.int n) (Reps.ints ns)
end

/-! ### growth -/
/-- from a stable part and a heap to later ones: nothing that was tracked is touched, what comes to the stable part is new -/
structure Gr (S H S' H' : Hp) : Prop where
  ss : Same S S'
  hh : Same H H'
  sub : Same S' H'
  nw : ∀ a o, S' a = some o → S a = some o ∨ H a = none

section
variable {S H S1 H1 S2 H2 S' H' : Hp}
theorem Gr.refl (h : Same S H) : Gr S H S H := ⟨Same.refl S, Same.refl H, h, fun _ _ e => .inl e⟩
theorem Gr.trans (a : Gr S H S1 H1) (b : Gr S1 H1 S2 H2) : Gr S H S2 H2 where
  ss := a.ss.trans b.ss
  hh := a.hh.trans b.hh
  sub := b.sub
  nw := fun c o e => by
    rcases b.nw c o e with h | h
    · exact a.nw c o h
    · exact .inr (a.hh.free h)
/-- the stable part stays, the heap grows -/
theorem Gr.hp (h : Same S H) (g : Same H H') : Gr S H S H' := ⟨Same.refl S, g, fun a o e => g a o (h a o e), fun _ _ e => .inl e⟩
/-- a new object, stable -/
theorem Gr.new {p : Addr} {o : HO} (h : Same S H) (e : H p = none) : Gr S H (upd S p o) (upd H p o) where
  ss := fun a u q => by rw [upd_ne (ne_of_none q (h.free e))]; exact q
  hh := fun a u q => by rw [upd_ne (ne_of_none q e)]; exact q
  sub := fun a u q => by
    by_cases z : a = p
    · subst z; rw [upd_same] at q ⊢; exact q
    · rw [upd_ne z] at q ⊢; exact h a u q
  nw := fun a u q => by
    by_cases z : a = p
    · subst z; exact .inr e
    · rw [upd_ne z] at q; exact .inl q
theorem Gr.gone (g : Gr S H S' H') {p : Addr} (hs : S p = none) (hh : (H p).isSome = true) : S' p = none := by
  cases e : S' p with
  | none => rfl
  | some o =>
    rcases g.nw p o e with z | z
    · rw [hs] at z; cases z
    · rw [z] at hh; cases hh
end

/-! ### values with what is owned -/
inductive W where
  | sh (d : D)
  | lst (xs : List D)
  | dic (ks : List Key) (xs : List D)
  | dit (ks : List (List Key)) (xs : List D)
  | obj (C : Addr) (fs : List Str) (ws : List W)
mutual
def W.toD : W → D
  | .sh d => d
  | .lst xs => .lst xs
  | .dic ks xs => .dic ks xs
  | .dit ks xs => .dit ks xs
  | .obj C fs ws => .obj C fs (W.toDs ws)
def W.toDs : List W → List D
  | [] => []
  | w :: ws => w.toD :: W.toDs ws
end
mutual
/-- v is w in the heap H with the stable part S; fp: the addresses that it owns -/
inductive Own (K : PySem.W.Frag) (S H : Hp) : V → W → List Addr → Prop
  | sh {v : V} {d : D} : Rep K S v d → Own K S H v (.sh d) []
  | lst {p : Addr} {vs : List V} {xs : List D} : H p = some (.lst vs) → Reps K S vs xs → Own K S H (.ref p) (.lst xs) [p]
  | dic {p : Addr} {ks : List Key} {vs : List V} {xs : List D} : H p = some (.dK (ks.zip vs)) → vs.length = ks.length → Reps K S vs xs → Own K S H (.ref p) (.dic ks xs) [p]
  | dit {p : Addr} {ks : List (List Key)} {vs : List V} {xs : List D} : H p = some (.dT (ks.zip vs)) → vs.length = ks.length → Reps K S vs xs → Own K S H (.ref p) (.dit ks xs) [p]
  | obj {p C dx : Addr} {fs : List Str} {vs : List V} {ws : List W} {fp : List Addr} : H p = some (.ins C dx (fs.zip vs)) → vs.length = fs.length → Owns K S H vs ws fp → Own K S H (.ref p) (.obj C fs ws) (p :: fp)
inductive Owns (K : PySem.W.Frag) (S H : Hp) : List V → List W → List Addr → Prop
  | nil : Owns K S H [] [] []
  | cons {v : V} {vs : List V} {w : W} {ws : List W} {fp fq : List Addr} : Own K S H v w fp → Owns K S H vs ws fq → Owns K S H (v :: vs) (w :: ws) (fp ++ fq)
end
section
variable {K : PySem.W.Frag} {S S' H H' : Hp}
mutual
/-- carried: the stable part grows, the owned addresses keep what they hold -/
theorem Own.carry (h : Same S S') : ∀ {v : V} (w : W) {fp : List Addr}, Own K S H v w fp → (∀ p ∈ fp, H' p = H p) → Own K S' H' v w fp
  | _, .sh d, _, r, k => by cases r with | sh q => exact .sh (q.up h)
  | _, .lst xs, _, r, k => by cases r with | lst e q => exact .lst (by rw [k _ (by simp)]; exact e) (q.up h)
  | _, .dic ks xs, _, r, k => by cases r with | dic e l q => exact .dic (by rw [k _ (by simp)]; exact e) l (q.up h)
  | _, .dit ks xs, _, r, k => by cases r with | dit e l q => exact .dit (by rw [k _ (by simp)]; exact e) l (q.up h)
  | _, .obj C fs ws, _, r, k => by cases r with | obj e l q => exact .obj (by rw [k _ (by simp)]; exact e) l (Owns.carry h ws q fun p hp => k p (List.mem_cons_of_mem _ hp))
theorem Owns.carry (h : Same S S') : ∀ {vs : List V} (ws : List W) {fp : List Addr}, Owns K S H vs ws fp → (∀ p ∈ fp, H' p = H p) → Owns K S' H' vs ws fp
  | _, [], _, r, k => by cases r; exact .nil
  | _, w :: ws, _, r, k => by cases r with | cons a b => exact .cons (Own.carry h w a fun p hp => k p (List.mem_append_left _ hp)) (Owns.carry h ws b fun p hp => k p (List.mem_append_right _ hp))
end
mutual
theorem Own.there : ∀ {v : V} (w : W) {fp : List Addr}, Own K S H v w fp → ∀ p ∈ fp, (H p).isSome = true
  | _, .sh d, _, r => by cases r; intro p hp; cases hp
  | _, .lst xs, _, r => by cases r with | lst e q => intro p hp; rw [List.mem_singleton.mp hp, e]; rfl
  | _, .dic ks xs, _, r => by cases r with | dic e l q => intro p hp; rw [List.mem_singleton.mp hp, e]; rfl
  | _, .dit ks xs, _, r => by cases r with | dit e l q => intro p hp; rw [List.mem_singleton.mp hp, e]; rfl
  | _, .obj C fs ws, _, r => by
    cases r with
    | obj e l q =>
      intro p hp
      rcases List.mem_cons.mp hp with rfl | hp
      · rw [e]; rfl
      · exact Owns.there ws q p hp
theorem Owns.there : ∀ {vs : List V} (ws : List W) {fp : List Addr}, Owns K S H vs ws fp → ∀ p ∈ fp, (H p).isSome = true
  | _, [], _, r => by cases r; intro p hp; cases hp
  | _, w :: ws, _, r => by
    cases r with
    | cons a b =>
      intro p hp
      rcases List.mem_append.mp hp with hp | hp
      · exact Own.there w a p hp
      · exact Owns.there ws b p hp
end
mutual
/-- read as data: in any stable heap that has the owned addresses as they are -/
theorem Own.rep (h : Same S S') : ∀ {v : V} (w : W) {fp : List Addr}, Own K S H v w fp → (∀ p ∈ fp, S' p = H p) → Rep K S' v w.toD
  | _, .sh d, _, r, k => by cases r with | sh q => unfold W.toD; exact q.up h
  | _, .lst xs, _, r, k => by cases r with | lst e q => unfold W.toD; exact .lst (by rw [k _ (by simp)]; exact e) (q.up h)
  | _, .dic ks xs, _, r, k => by cases r with | dic e l q => unfold W.toD; exact .dic (.inl (by rw [k _ (by simp)]; exact e)) l (q.up h)
  | _, .dit ks xs, _, r, k => by cases r with | dit e l q => unfold W.toD; exact .dit (.inl (by rw [k _ (by simp)]; exact e)) l (q.up h)
  | _, .obj C fs ws, _, r, k => by cases r with | obj e l q => unfold W.toD; exact .obj (by rw [k _ (by simp)]; exact e) l (Owns.rep h ws q fun p hp => k p (List.mem_cons_of_mem _ hp))
theorem Owns.rep (h : Same S S') : ∀ {vs : List V} (ws : List W) {fp : List Addr}, Owns K S H vs ws fp → (∀ p ∈ fp, S' p = H p) → Reps K S' vs (W.toDs ws)
  | _, [], _, r, k => by cases r; exact .nil
  | _, w :: ws, _, r, k => by cases r with | cons a b => unfold W.toDs; exact .cons (Own.rep h w a fun p hp => k p (List.mem_append_left _ hp)) (Owns.rep h ws b fun p hp => k p (List.mem_append_right _ hp))
end
/-- the stable part with the addresses fp as they are -/
def frz (S H : Hp) (fp : List Addr) : Hp := fun a => if a ∈ fp then H a else S a
theorem frz_same {fp : List Addr} (hn : ∀ p ∈ fp, S p = none) : Same S (frz S H fp) := fun a o e => by
  unfold frz
  rw [if_neg fun z => by rw [hn a z] at e; cases e]
  exact e
theorem frz_sub {fp : List Addr} (h : Same S H) : Same (frz S H fp) H := fun a o e => by
  unfold frz at e
  split at e
  · exact e
  · exact h a o e
theorem frz_at {fp : List Addr} {p : Addr} (hp : p ∈ fp) : frz S H fp p = H p := by unfold frz; rw [if_pos hp]
theorem frz_out {fp : List Addr} {p : Addr} (hp : p ∉ fp) : frz S H fp p = S p := by unfold frz; rw [if_neg hp]
/-- a new thing, made stable -/
theorem Gr.frz {S1 H1 : Hp} (g : Gr S H S1 H1) {fp : List Addr} (hn : ∀ p ∈ fp, H p = none ∧ S1 p = none) : Gr S H (frz S1 H1 fp) H1 where
  ss := g.ss.trans (frz_same fun p hp => (hn p hp).2)
  hh := g.hh
  sub := frz_sub g.sub
  nw := fun a o e => by
    by_cases z : a ∈ fp
    · exact .inr (hn a z).1
    · rw [frz_out z] at e; exact g.nw a o e
end
end Ly

set_option Elab.async false
set_option linter.all false
set_option maxRecDepth 100000
namespace Ly
open PySem L2

/-! ### results -/
/-- an exception of an own class: its class, its one field -/
structure Xc where
  cls : Addr
  fld : Option (Str × D)
inductive Res (α : Type) where
  | ok (a : α) | ex (x : Xc) | st
def Res.bind {α β : Type} (r : Res α) (f : α → Res β) : Res β := match r with
  | .ok a => f a
  | .ex x => .ex x
  | .st => .st
def Res.map {α β : Type} (f : α → β) (r : Res α) : Res β := r.bind fun a => .ok (f a)
@[simp] theorem Res.bind_ok {α β : Type} (a : α) (f : α → Res β) : (Res.ok a).bind f = f a := rfl
@[simp] theorem Res.bind_ex {α β : Type} (x : Xc) (f : α → Res β) : (Res.ex x : Res α).bind f = .ex x := rfl
@[simp] theorem Res.bind_st {α β : Type} (f : α → Res β) : (Res.st : Res α).bind f = .st := rfl
@[simp] theorem Res.map_ok {α β : Type} (a : α) (f : α → β) : (Res.ok a).map f = .ok (f a) := rfl
@[simp] theorem Res.map_ex {α β : Type} (x : Xc) (f : α → β) : (Res.ex x : Res α).map f = .ex x := rfl
@[simp] theorem Res.map_st {α β : Type} (f : α → β) : (Res.st : Res α).map f = .st := rfl
theorem Res.of_ok {α β : Type} {r : Res α} {f : α → Res β} {b : β} (h : r.bind f = .ok b) : ∃ a, r = .ok a ∧ f a = .ok b := by
  cases r with
  | ok a => exact ⟨a, rfl, h⟩
  | ex x => cases h
  | st => cases h
theorem Res.of_ex {α β : Type} {r : Res α} {f : α → Res β} {x : Xc} (h : r.bind f = .ex x) : r = .ex x ∨ ∃ a, r = .ok a ∧ f a = .ex x := by
  cases r with
  | ok a => exact .inr ⟨a, rfl, h⟩
  | ex y => exact .inl (by cases h; rfl)
  | st => cases h
theorem Res.of_okm {α β : Type} {r : Res α} {f : α → β} {b : β} (h : r.map f = .ok b) : ∃ a, r = .ok a ∧ b = f a := by
  cases r with
  | ok a => exact ⟨a, rfl, by cases h; rfl⟩
  | ex x => cases h
  | st => cases h
theorem Res.of_exm {α β : Type} {r : Res α} {f : α → β} {x : Xc} (h : r.map f = .ex x) : r = .ex x := by
  cases r with
  | ok a => cases h
  | ex y => cases h; rfl
  | st => cases h
/-- how the exception lies -/
def XR (K : PySem.W.Frag) (x : Xc) (cls : Value) (d : Option Addr) (H : Hp) : Prop :=
  cls = .ref x.cls ∧ match x.fld with
    | none => d = none
    | some (f, z) => ∃ p v, d = some p ∧ H p = some (.xd [(f, v)]) ∧ Rep K H v z

/-! ### views -/
abbrev En := List (Option W)
structure Vw (K : PySem.W.Frag) (env : En) (σ : L2.St) (S H : Hp) : Prop where
  len : env.length = σ.length
  sub : Same S H
  at_ : ∀ (i : Nat) (w : W), env[i]? = some (some w) → ∃ v fp, σ[i]? = some (some v) ∧ Own K S H v w fp ∧ ∀ p ∈ fp, S p = none
/-- a value whose top may be owned -/
inductive View (K : PySem.W.Frag) (S H : Hp) : V → D → Prop
  | rep {v : V} {d : D} : Rep K S v d → View K S H v d
  | lst {p : Addr} {vs : List V} {xs : List D} : H p = some (.lst vs) → Reps K S vs xs → View K S H (.ref p) (.lst xs)
  | dic {p : Addr} {ks : List Key} {vs : List V} {xs : List D} : Rd H p (.dK (ks.zip vs)) → vs.length = ks.length → Reps K S vs xs → View K S H (.ref p) (.dic ks xs)
  | dit {p : Addr} {ks : List (List Key)} {vs : List V} {xs : List D} : Rd H p (.dT (ks.zip vs)) → vs.length = ks.length → Reps K S vs xs → View K S H (.ref p) (.dit ks xs)
section
variable {K : PySem.W.Frag} {env : En} {σ : L2.St} {S S' H H' : Hp} {v : V} {d : D} {w : W} {fp : List Addr}
theorem Own.gr (o : Own K S H v w fp) (g : Gr S H S' H') : Own K S' H' v w fp := o.carry g.ss w fun p hp => by
  obtain ⟨u, e⟩ := Option.isSome_iff_exists.mp (Own.there w o p hp)
  rw [e]
  exact g.hh p u e
theorem Own.apart (o : Own K S H v w fp) (g : Gr S H S' H') (h : ∀ p ∈ fp, S p = none) : ∀ p ∈ fp, S' p = none := fun p hp => g.gone (h p hp) (Own.there w o p hp)
theorem Vw.gr (x : Vw K env σ S H) (g : Gr S H S' H') : Vw K env σ S' H' := ⟨x.len, g.sub, fun i w e => by
  obtain ⟨v, fp, a, b, c⟩ := x.at_ i w e
  exact ⟨v, fp, a, b.gr g, b.apart g c⟩⟩
theorem View.gr (x : View K S H v d) (g : Gr S H S' H') : View K S' H' v d := by
  cases x with
  | rep r => exact .rep (r.up g.ss)
  | lst e r => exact .lst (g.hh _ _ e) (r.up g.ss)
  | dic e l r => exact .dic (rd_up g.hh e) l (r.up g.ss)
  | dit e l r => exact .dit (rd_up g.hh e) l (r.up g.ss)
theorem View.toX (x : View K S H v d) (h : Same S H) : Rep K H v d := by
  cases x with
  | rep r => exact r.up h
  | lst e r => exact .lst e (r.up h)
  | dic e l r => exact .dic e l (r.up h)
  | dit e l r => exact .dit e l (r.up h)
theorem View.lst_inv {xs : List D} (x : View K S H v (.lst xs)) (h : Same S H) : ∃ p vs, v = .ref p ∧ H p = some (.lst vs) ∧ Reps K S vs xs := by
  cases x with
  | rep r => cases r with | lst e q => exact ⟨_, _, rfl, h _ _ e, q⟩
  | lst e q => exact ⟨_, _, rfl, e, q⟩
theorem View.dic_inv {ks : List Key} {xs : List D} (x : View K S H v (.dic ks xs)) (h : Same S H) : ∃ p vs, v = .ref p ∧ Rd H p (.dK (ks.zip vs)) ∧ vs.length = ks.length ∧ Reps K S vs xs := by
  cases x with
  | rep r => cases r with | dic e l q => exact ⟨_, _, rfl, rd_up h e, l, q⟩
  | dic e l q => exact ⟨_, _, rfl, e, l, q⟩
theorem View.dit_inv {ks : List (List Key)} {xs : List D} (x : View K S H v (.dit ks xs)) (h : Same S H) : ∃ p vs, v = .ref p ∧ Rd H p (.dT (ks.zip vs)) ∧ vs.length = ks.length ∧ Reps K S vs xs := by
  cases x with
  | rep r => cases r with | dit e l q => exact ⟨_, _, rfl, rd_up h e, l, q⟩
  | dit e l q => exact ⟨_, _, rfl, e, l, q⟩
theorem View.tup_inv {xs : List D} (x : View K S H v (.tup xs)) : ∃ p vs, v = .ref p ∧ S p = some (.tup vs) ∧ Reps K S vs xs := by
  cases x with
  | rep r => cases r with | tup e q => exact ⟨_, _, rfl, e, q⟩
theorem View.ktup_inv {xs : List D} (x : View K S H v (.ktup xs)) : ∃ p vs, v = .ref p ∧ SqT K S p vs ∧ Reps K S vs xs := by
  cases x with
  | rep r => cases r with | ktup e q => exact ⟨_, _, rfl, e, q⟩
theorem View.scr_inv {ns : List Int} (x : View K S H v (.scr ns)) : ∃ p, v = .ref p ∧ SqL K S p (ns.map V.int) := by
  cases x with
  | rep r => cases r with | scr e => exact ⟨_, rfl, e⟩
theorem View.int_inv {i : Int} (x : View K S H v (.int i)) : v = .int i := by
  cases x with
  | rep r => cases r; rfl
theorem View.bl_inv {b : Bool} (x : View K S H v (.bl b)) : v = .bl b := by
  cases x with
  | rep r => cases r; rfl
theorem View.str_inv {z : Str} (x : View K S H v (.str z)) : v = .str z := by
  cases x with
  | rep r => cases r; rfl
theorem View.non_inv (x : View K S H v .non) : v = .non := by
  cases x with
  | rep r => cases r; rfl
theorem View.obj_inv {C : Addr} {fs : List Str} {xs : List D} (x : View K S H v (.obj C fs xs)) : ∃ p dx vs, v = .ref p ∧ S p = some (.ins C dx (fs.zip vs)) ∧ vs.length = fs.length ∧ Reps K S vs xs := by
  cases x with
  | rep r => cases r with | obj e l q => exact ⟨_, _, _, rfl, e, l, q⟩
end

/-! ### expressions -/
/-- what a new value is: w at v with its own new addresses -/
structure New (K : PySem.W.Frag) (S H S' H' : Hp) (v : V) (w : W) (fp : List Addr) : Prop where
  gr : Gr S H S' H'
  own : Own K S' H' v w fp
  nd : fp.Nodup
  new : ∀ p ∈ fp, H p = none ∧ S' p = none
/-- E: the wish for exceptions; F: the slots that are read as they are (an owned one is made stable ahead) -/
class SemE (K : PySem.W.Frag) (E : XK) (t : TE) (F : outParam (List Nat)) (m : outParam (En → Res W)) : Prop where
  ok : ∀ {env σ S H Q w}, Vw K env σ S H → m env = .ok w → (∀ v S' H' fp, New K S H S' H' v w fp → Q v H') → t σ H Q
  ex : ∀ {env σ S H Q x}, Vw K env σ S H → m env = .ex x → (∀ cls d H', Same H H' → XR K x cls d H' → E cls d H') → t σ H Q
class SemV (K : PySem.W.Frag) (E : XK) (t : TE) (F : outParam (List Nat)) (m : outParam (En → Res D)) : Prop where
  ok : ∀ {env σ S H Q d}, Vw K env σ S H → m env = .ok d → (∀ v S' H', Gr S H S' H' → View K S' H' v d → Q v H') → t σ H Q
  ex : ∀ {env σ S H Q x}, Vw K env σ S H → m env = .ex x → (∀ cls d H', Same H H' → XR K x cls d H' → E cls d H') → t σ H Q
class SemX (K : PySem.W.Frag) (E : XK) (t : TE) (F : outParam (List Nat)) (m : outParam (En → Res D)) : Prop where
  ok : ∀ {env σ S H Q d}, Vw K env σ S H → m env = .ok d → (∀ v H', Same H H' → Rep K H' v d → Q v H') → t σ H Q
  ex : ∀ {env σ S H Q x}, Vw K env σ S H → m env = .ex x → (∀ cls d H', Same H H' → XR K x cls d H' → E cls d H') → t σ H Q
class SemT (K : PySem.W.Frag) (E : XK) (t : TT) (F : outParam (List Nat)) (m : outParam (En → Res Bool)) : Prop where
  ok : ∀ {env σ S H Q b}, Vw K env σ S H → m env = .ok b → (∀ H', Same H H' → Q b H') → t σ H Q
  ex : ∀ {env σ S H Q x}, Vw K env σ S H → m env = .ex x → (∀ cls d H', Same H H' → XR K x cls d H' → E cls d H') → t σ H Q
/-- arguments, made stable -/
class SemA (K : PySem.W.Frag) (E : XK) (t : TA) (F : outParam (List Nat)) (m : outParam (En → Res (List D))) : Prop where
  ok : ∀ {env σ S H Q ds}, Vw K env σ S H → m env = .ok ds → (∀ vs S' H', Gr S H S' H' → Reps K S' vs ds → Q vs H') → t σ H Q
  ex : ∀ {env σ S H Q x}, Vw K env σ S H → m env = .ex x → (∀ cls d H', Same H H' → XR K x cls d H' → E cls d H') → t σ H Q
/-- arguments, looked at -/
class SemAX (K : PySem.W.Frag) (E : XK) (t : TA) (F : outParam (List Nat)) (m : outParam (En → Res (List D))) : Prop where
  ok : ∀ {env σ S H Q ds}, Vw K env σ S H → m env = .ok ds → (∀ vs H', Same H H' → Reps K H' vs ds → Q vs H') → t σ H Q
  ex : ∀ {env σ S H Q x}, Vw K env σ S H → m env = .ex x → (∀ cls d H', Same H H' → XR K x cls d H' → E cls d H') → t σ H Q

section
variable {K : PySem.W.Frag} {E : XK} {t ta tb : TE} {F Fa Fb : List Nat} {m ma mb : En → Res W}
theorem New.stable {S H S' H' : Hp} {v : V} {w : W} {fp : List Addr} (n : New K S H S' H' v w fp) : Gr S H (frz S' H' fp) H' ∧ Rep K (frz S' H' fp) v w.toD :=
  ⟨n.gr.frz n.new, n.own.rep (frz_same fun p hp => (n.new p hp).2) w fun p hp => frz_at hp⟩
theorem New.sh {S H S' H' : Hp} {v : V} {d : D} (g : Gr S H S' H') (r : Rep K S' v d) : New K S H S' H' v (.sh d) [] := ⟨g, .sh r, List.nodup_nil, fun p hp => nomatch hp⟩
theorem New.lst {S H S' H' : Hp} {p : Addr} {vs : List V} {xs : List D} (g : Gr S H S' H') (hp : S' p = none) (hn : H' p = none) (r : Reps K S' vs xs) : New K S H S' (upd H' p (.lst vs)) (.ref p) (.lst xs) [p] :=
  ⟨g.trans (.hp g.sub fun a o e => by rw [upd_ne (ne_of_none e hn)]; exact e), .lst upd_same r, by simp, fun q hq => by rw [List.mem_singleton.mp hq]; exact ⟨g.hh.free hn, hp⟩⟩
/-- made stable at once -/
def mD (m : En → Res W) : En → Res D := fun e => (m e).map W.toD
theorem SemE.okD (h : SemE K E t F m) {env : En} {σ : L2.St} {S H : Hp} {Q : VK} {d : D} (x : Vw K env σ S H) (e : mD m env = .ok d) (k : ∀ v S' H', Gr S H S' H' → Rep K S' v d → Q v H') : t σ H Q := by
  obtain ⟨w, e1, rfl⟩ := Res.of_okm e
  exact h.ok x e1 fun v S' H' fp n => k v _ H' n.stable.1 n.stable.2
instance (priority := low) semV_E [h : SemE K E t F m] : SemV K E t F (mD m) where
  ok := fun x e k => h.okD x e fun v S' H' g r => k v S' H' g (.rep r)
  ex := fun x e k => h.ex x (Res.of_exm e) k
instance (priority := low) semX_V {m : En → Res D} [h : SemV K E t F m] : SemX K E t F m where
  ok := fun x e k => h.ok x e fun v S' H' g r => k v H' g.hh (r.toX g.sub)
  ex := fun x e k => h.ex x e k

/-! names, constants -/
def mVar (i : Nat) : En → Res W := fun e => match e[i]? with
  | some (some (.sh d)) => .ok (.sh d)
  | _ => .st
def mVarV (i : Nat) : En → Res D := fun e => match e[i]? with
  | some (some (.obj _ _ _)) => .st
  | some (some w) => .ok w.toD
  | _ => .st
def mVarX (i : Nat) : En → Res D := fun e => match e[i]? with
  | some (some w) => .ok w.toD
  | _ => .st
instance semE_var {i : Nat} : SemE K E (tVar i) [i] (mVar i) where
  ok := fun {env σ S H Q w} x e k => by
    unfold mVar at e
    split at e
    · rename_i d h
      cases e
      obtain ⟨v, fp, a, b, c⟩ := x.at_ _ _ h
      cases b with
      | sh r => exact ⟨v, a, k v S H [] (.sh (.refl x.sub) r)⟩
    · cases e
  ex := fun x e k => by
    unfold mVar at e
    split at e <;> cases e
instance semV_var {i : Nat} : SemV K E (tVar i) [] (mVarV i) where
  ok := fun {env σ S H Q w} x e k => by
    unfold mVarV at e
    split at e
    · cases e
    · rename_i w h1 h
      cases e
      obtain ⟨v, fp, a, b, c⟩ := x.at_ _ _ h
      refine ⟨v, a, k v S H (.refl x.sub) ?_⟩
      cases b with
      | sh r => exact .rep r
      | lst e r => exact .lst e r
      | dic e l r => exact .dic (.inl e) l r
      | dit e l r => exact .dit (.inl e) l r
      | obj _ _ _ => exact (h1 _ _ _ rfl).elim
    · cases e
  ex := fun x e k => by
    unfold mVarV at e
    split at e <;> cases e
instance semX_var {i : Nat} : SemX K E (tVar i) [] (mVarX i) where
  ok := fun {env σ S H Q w} x e k => by
    unfold mVarX at e
    split at e
    · rename_i w h
      cases e
      obtain ⟨v, fp, a, b, c⟩ := x.at_ _ _ h
      exact ⟨v, a, k v H (Same.refl H) (b.rep x.sub w fun p hp => rfl)⟩
    · cases e
  ex := fun x e k => by
    unfold mVarX at e
    split at e <;> cases e
def mK (d : D) : En → Res W := fun _ => .ok (.sh d)
theorem semE_K {v : V} {d : D} (r : ∀ S, Rep K S v d) : SemE K E (tC v) [] (mK d) where
  ok := fun {env σ S H Q w} x e k => by
    cases e
    exact k v S H [] (.sh (.refl x.sub) (r S))
  ex := fun x e k => by cases e
instance semE_int {i : Int} : SemE K E (tC (.int i)) [] (mK (.int i)) := semE_K fun _ => .int i
instance semE_str {i : Str} : SemE K E (tC (.str i)) [] (mK (.str i)) := semE_K fun _ => .str i
instance semE_bl {i : Bool} : SemE K E (tC (.bl i)) [] (mK (.bl i)) := semE_K fun _ => .bl i
instance semE_ty {n : String} : SemE K E (tC (.ty n)) [] (mK (.ty n)) := semE_K fun _ => .ty n
instance semE_cls {C : Addr} : SemE K E (tC (.ref C)) [] (mK (.cls C)) := semE_K fun _ => .cls C
instance semE_non : SemE K E (tC .non) [] (mK .non) := semE_K fun _ => .non

/-! operators: by views; by looks -/
/-- an operator whose result may hold parts of its operands -/
class OpV (K : PySem.W.Frag) (r : R2) (f : outParam (D → D → Res W)) : Prop where
  ok : ∀ {S H v u d e Q w}, Same S H → View K S H v d → View K S H u e → f d e = .ok w → (∀ z S' H' fp, New K S H S' H' z w fp → Q z H') → r v u H Q
  ex : ∀ {d e x}, f d e = .ex x → False
/-- an operator whose result is a number, a text, a truth, None -/
class OpX (K : PySem.W.Frag) (r : R2) (f : outParam (D → D → Res D)) : Prop where
  ok : ∀ {H v u d e Q z}, Rep K H v d → Rep K H u e → f d e = .ok z → (∀ y, (∀ S, Rep K S y z) → Q y H) → r v u H Q
  ex : ∀ {d e x}, f d e = .ex x → False
def mOp (f : D → D → Res W) (ma mb : En → Res D) : En → Res W := fun e => (ma e).bind fun a => (mb e).bind fun b => f a b
def mOpX (f : D → D → Res D) (ma mb : En → Res D) : En → Res W := fun e => (ma e).bind fun a => (mb e).bind fun b => (f a b).map .sh
theorem New.later {S H S1 H1 S' H' : Hp} {v : V} {w : W} {fp : List Addr} (g : Gr S H S1 H1) (n : New K S1 H1 S' H' v w fp) : New K S H S' H' v w fp :=
  ⟨g.trans n.gr, n.own, n.nd, fun p hp => ⟨g.hh.free (n.new p hp).1, (n.new p hp).2⟩⟩
instance semE_op {r : R2} {f : D → D → Res W} {ma mb : En → Res D} [ho : OpV K r f] [ha : SemV K E ta Fa ma] [hb : SemV K E tb Fb mb] : SemE K E (tOp r ta tb) (Fa ++ Fb) (mOp f ma mb) where
  ok := fun {env σ S H Q w} x e k => by
    obtain ⟨a, e1, e⟩ := Res.of_ok e
    obtain ⟨b, e2, e⟩ := Res.of_ok e
    refine ha.ok x e1 fun v S1 H1 g1 r1 => ?_
    refine hb.ok (x.gr g1) e2 fun u S2 H2 g2 r2 => ?_
    exact ho.ok g2.sub (r1.gr g2) r2 e fun z S' H' fp n => k z S' H' fp (n.later (g1.trans g2))
  ex := fun {env σ S H Q w} x e k => by
    rcases Res.of_ex e with e1 | ⟨a, e1, e⟩
    · exact ha.ex x e1 k
    · refine ha.ok x e1 fun v S1 H1 g1 r1 => ?_
      rcases Res.of_ex e with e2 | ⟨b, e2, e⟩
      · exact hb.ex (x.gr g1) e2 fun c d H' s q => k c d H' (g1.hh.trans s) q
      · exact (ho.ex e).elim
instance semE_opX {r : R2} {f : D → D → Res D} {ma mb : En → Res D} [ho : OpX K r f] [ha : SemX K E ta Fa ma] [hb : SemX K E tb Fb mb] : SemE K E (tOp r ta tb) (Fa ++ Fb) (mOpX f ma mb) where
  ok := fun {env σ S H Q w} x e k => by
    obtain ⟨a, e1, e⟩ := Res.of_ok e
    obtain ⟨b, e2, e⟩ := Res.of_ok e
    obtain ⟨z, e3, rfl⟩ := Res.of_okm e
    refine ha.ok x e1 fun v H1 g1 r1 => ?_
    have y1 := Gr.hp x.sub g1
    refine hb.ok (x.gr y1) e2 fun u H2 g2 r2 => ?_
    have y2 := Gr.hp y1.sub g2
    exact ho.ok (r1.up g2) r2 e3 fun y h => k y S H2 [] (.sh (y1.trans y2) (h S))
  ex := fun {env σ S H Q w} x e k => by
    rcases Res.of_ex e with e1 | ⟨a, e1, e⟩
    · exact ha.ex x e1 k
    · refine ha.ok x e1 fun v H1 g1 r1 => ?_
      rcases Res.of_ex e with e2 | ⟨b, e2, e⟩
      · exact hb.ex (x.gr (Gr.hp x.sub g1)) e2 fun c d H' s q => k c d H' (g1.trans s) q
      · exact (ho.ex (Res.of_exm e)).elim

/-! tests -/
def mTest (ma : En → Res D) : En → Res Bool := fun e => (ma e).bind fun d => match d with
  | .bl b => .ok b
  | _ => .st
theorem mTest_ok {ma : En → Res D} {env : En} {b : Bool} (e : mTest ma env = .ok b) : ma env = .ok (.bl b) := by
  obtain ⟨d, e1, e2⟩ := Res.of_ok e
  split at e2
  · cases e2; exact e1
  · cases e2
theorem mTest_ex {ma : En → Res D} {env : En} {x : Xc} (e : mTest ma env = .ex x) : ma env = .ex x := by
  rcases Res.of_ex e with e | ⟨d, _, e2⟩
  · exact e
  · split at e2 <;> cases e2
instance semT_test {ma : En → Res D} [ha : SemX K E ta Fa ma] : SemT K E (tTest ta) Fa (mTest ma) where
  ok := fun x e k => ha.ok x (mTest_ok e) fun v H' g r => by cases r; exact ⟨_, rfl, k H' g⟩
  ex := fun x e k => ha.ex x (mTest_ex e) k
instance semT_B {ma : En → Res D} [ha : SemX K E ta Fa ma] : SemT K E (tB ta) Fa (mTest ma) where
  ok := fun x e k => ha.ok x (mTest_ok e) fun v H' g r => by cases r; exact ⟨_, rfl, k H' g⟩
  ex := fun x e k => ha.ex x (mTest_ex e) k
def mAnd (ma mb : En → Res Bool) : En → Res Bool := fun e => (ma e).bind fun b => if b = true then mb e else .ok false
def mOr (ma mb : En → Res Bool) : En → Res Bool := fun e => (ma e).bind fun b => if b = true then .ok true else mb e
def mNot (ma : En → Res Bool) : En → Res Bool := fun e => (ma e).map (!·)
instance semT_and {t u : TT} {ma mb : En → Res Bool} [ha : SemT K E t Fa ma] [hb : SemT K E u Fb mb] : SemT K E (tAnd t u) (Fa ++ Fb) (mAnd ma mb) where
  ok := fun {env σ S H Q w} x e k => by
    obtain ⟨b, e1, e2⟩ := Res.of_ok e
    refine ha.ok x e1 fun H1 g => ?_
    cases b with
    | true => exact hb.ok (x.gr (Gr.hp x.sub g)) e2 fun H' g' => k H' (g.trans g')
    | false => cases e2; exact k H1 g
  ex := fun {env σ S H Q w} x e k => by
    rcases Res.of_ex e with e1 | ⟨b, e1, e2⟩
    · exact ha.ex x e1 k
    · refine ha.ok x e1 fun H1 g => ?_
      cases b with
      | true => exact hb.ex (x.gr (Gr.hp x.sub g)) e2 fun c d H' s q => k c d H' (g.trans s) q
      | false => cases e2
instance semT_or {t u : TT} {ma mb : En → Res Bool} [ha : SemT K E t Fa ma] [hb : SemT K E u Fb mb] : SemT K E (tOr t u) (Fa ++ Fb) (mOr ma mb) where
  ok := fun {env σ S H Q w} x e k => by
    obtain ⟨b, e1, e2⟩ := Res.of_ok e
    refine ha.ok x e1 fun H1 g => ?_
    cases b with
    | false => exact hb.ok (x.gr (Gr.hp x.sub g)) e2 fun H' g' => k H' (g.trans g')
    | true => cases e2; exact k H1 g
  ex := fun {env σ S H Q w} x e k => by
    rcases Res.of_ex e with e1 | ⟨b, e1, e2⟩
    · exact ha.ex x e1 k
    · refine ha.ok x e1 fun H1 g => ?_
      cases b with
      | false => exact hb.ex (x.gr (Gr.hp x.sub g)) e2 fun c d H' s q => k c d H' (g.trans s) q
      | true => cases e2
instance semT_not {t : TT} {ma : En → Res Bool} [ha : SemT K E t Fa ma] : SemT K E (tNot t) Fa (mNot ma) where
  ok := fun {env σ S H Q w} x e k => by
    obtain ⟨b, e1, rfl⟩ := Res.of_okm e
    exact ha.ok x e1 fun H1 g => k H1 g
  ex := fun {env σ S H Q w} x e k => ha.ex x (Res.of_exm e) k
/-- a value of a test, of and, of or -/
def mBl (m : En → Res Bool) : En → Res W := fun e => (m e).map fun b => .sh (.bl b)
def mAndV (ma mb : En → Res D) : En → Res W := mBl (mAnd (mTest ma) (mTest mb))
def mOrV (ma mb : En → Res D) : En → Res W := mBl (mOr (mTest ma) (mTest mb))
def mNotV (ma : En → Res D) : En → Res W := mBl (mNot (mTest ma))
theorem semE_bl_of {t : TT} {te : TE} {m : En → Res Bool} (h : SemT K E t F m) (hi : ∀ {σ H Q}, t σ H (fun b H' => Q (.bl b) H') → te σ H Q) : SemE K E te F (mBl m) where
  ok := fun {env σ S H Q w} x e k => by
    obtain ⟨b, e1, rfl⟩ := Res.of_okm e
    exact hi (h.ok x e1 fun H1 g => k _ S H1 [] (.sh (.hp x.sub g) (.bl b)))
  ex := fun {env σ S H Q w} x e k => hi (h.ex x (Res.of_exm e) k)
instance semE_andV {ma mb : En → Res D} [ha : SemX K E ta Fa ma] [hb : SemX K E tb Fb mb] : SemE K E (tAndV ta tb) (Fa ++ Fb) (mAndV ma mb) where
  ok := fun {env σ S H Q w} x e k => by
    obtain ⟨b, e1, rfl⟩ := Res.of_okm e
    obtain ⟨c, e2, e3⟩ := Res.of_ok e1
    refine ha.ok x (mTest_ok e2) fun v H1 g r => ?_
    cases r
    refine ⟨c, rfl, ?_⟩
    cases c with
    | true =>
      refine hb.ok (x.gr (Gr.hp x.sub g)) (mTest_ok e3) fun v H2 g2 r => ?_
      cases r
      exact k _ S H2 [] (.sh (.hp x.sub (g.trans g2)) (.bl b))
    | false =>
      cases e3
      exact k _ S H1 [] (.sh (.hp x.sub g) (.bl false))
  ex := fun {env σ S H Q w} x e k => by
    have e1 := Res.of_exm e
    rcases Res.of_ex e1 with e2 | ⟨c, e2, e3⟩
    · exact ha.ex x (mTest_ex e2) k
    · refine ha.ok x (mTest_ok e2) fun v H1 g r => ?_
      cases r
      refine ⟨c, rfl, ?_⟩
      cases c with
      | true => exact hb.ex (x.gr (Gr.hp x.sub g)) (mTest_ex e3) fun c d H' s q => k c d H' (g.trans s) q
      | false => cases e3
instance semE_orV {ma mb : En → Res D} [ha : SemX K E ta Fa ma] [hb : SemX K E tb Fb mb] : SemE K E (tOrV ta tb) (Fa ++ Fb) (mOrV ma mb) where
  ok := fun {env σ S H Q w} x e k => by
    obtain ⟨b, e1, rfl⟩ := Res.of_okm e
    obtain ⟨c, e2, e3⟩ := Res.of_ok e1
    refine ha.ok x (mTest_ok e2) fun v H1 g r => ?_
    cases r
    refine ⟨c, rfl, ?_⟩
    cases c with
    | false =>
      refine hb.ok (x.gr (Gr.hp x.sub g)) (mTest_ok e3) fun v H2 g2 r => ?_
      cases r
      exact k _ S H2 [] (.sh (.hp x.sub (g.trans g2)) (.bl b))
    | true =>
      cases e3
      exact k _ S H1 [] (.sh (.hp x.sub g) (.bl true))
  ex := fun {env σ S H Q w} x e k => by
    have e1 := Res.of_exm e
    rcases Res.of_ex e1 with e2 | ⟨c, e2, e3⟩
    · exact ha.ex x (mTest_ex e2) k
    · refine ha.ok x (mTest_ok e2) fun v H1 g r => ?_
      cases r
      refine ⟨c, rfl, ?_⟩
      cases c with
      | false => exact hb.ex (x.gr (Gr.hp x.sub g)) (mTest_ex e3) fun c d H' s q => k c d H' (g.trans s) q
      | true => cases e3
instance semE_notV {ma : En → Res D} [ha : SemX K E ta Fa ma] : SemE K E (tNotV ta) Fa (mNotV ma) where
  ok := fun {env σ S H Q w} x e k => by
    obtain ⟨b, e1, rfl⟩ := Res.of_okm e
    obtain ⟨c, e2, rfl⟩ := Res.of_okm e1
    refine ha.ok x (mTest_ok e2) fun v H1 g r => ?_
    cases r
    exact ⟨c, rfl, k _ S H1 [] (.sh (.hp x.sub g) (.bl _))⟩
  ex := fun {env σ S H Q w} x e k => ha.ex x (mTest_ex (Res.of_exm (Res.of_exm e))) k
def mIf (mc : En → Res Bool) (ma mb : En → Res W) : En → Res W := fun e => (mc e).bind fun b => if b = true then ma e else mb e
instance semE_if {t : TT} {mc : En → Res Bool} {Fc : List Nat} [hc : SemT K E t Fc mc] [ha : SemE K E ta Fa ma] [hb : SemE K E tb Fb mb] : SemE K E (tIf t ta tb) (Fc ++ Fa ++ Fb) (mIf mc ma mb) where
  ok := fun {env σ S H Q w} x e k => by
    obtain ⟨b, e1, e2⟩ := Res.of_ok e
    refine hc.ok x e1 fun H1 g => ?_
    have y := Gr.hp x.sub g
    cases b with
    | true => exact ha.ok (x.gr y) e2 fun v S' H' fp n => k v S' H' fp (n.later y)
    | false => exact hb.ok (x.gr y) e2 fun v S' H' fp n => k v S' H' fp (n.later y)
  ex := fun {env σ S H Q w} x e k => by
    rcases Res.of_ex e with e1 | ⟨b, e1, e2⟩
    · exact hc.ex x e1 k
    · refine hc.ok x e1 fun H1 g => ?_
      have y := Gr.hp x.sub g
      cases b with
      | true => exact ha.ex (x.gr y) e2 fun c d H' s q => k c d H' (g.trans s) q
      | false => exact hb.ex (x.gr y) e2 fun c d H' s q => k c d H' (g.trans s) q

/-! arguments, displays -/
def mNil : En → Res (List D) := fun _ => .ok []
def mCons (m : En → Res D) (mr : En → Res (List D)) : En → Res (List D) := fun e => (m e).bind fun d => (mr e).map fun ds => d :: ds
instance semA_nil : SemA K E tNil [] mNil where
  ok := fun {env σ S H Q w} x e k => by cases e; exact k [] S H (.refl x.sub) .nil
  ex := fun x e k => by cases e
instance semAX_nil : SemAX K E tNil [] mNil where
  ok := fun {env σ S H Q w} x e k => by cases e; exact k [] H (Same.refl H) .nil
  ex := fun x e k => by cases e
instance semA_cons {tr : TA} {Fr : List Nat} {mr : En → Res (List D)} [ha : SemE K E ta Fa ma] [hr : SemA K E tr Fr mr] : SemA K E (tCons ta tr) (Fa ++ Fr) (mCons (mD ma) mr) where
  ok := fun {env σ S H Q w} x e k => by
    obtain ⟨d, e1, e2⟩ := Res.of_ok e
    obtain ⟨ds, e3, rfl⟩ := Res.of_okm e2
    refine ha.okD x e1 fun v S1 H1 g1 r1 => ?_
    exact hr.ok (x.gr g1) e3 fun vs S2 H2 g2 r2 => k _ S2 H2 (g1.trans g2) (.cons (r1.up g2.ss) r2)
  ex := fun {env σ S H Q w} x e k => by
    rcases Res.of_ex e with e1 | ⟨d, e1, e2⟩
    · exact ha.ex x (Res.of_exm e1) k
    · refine ha.okD x e1 fun v S1 H1 g1 r1 => ?_
      exact hr.ex (x.gr g1) (Res.of_exm e2) fun c d H' s q => k c d H' (g1.hh.trans s) q
instance semAX_cons {tr : TA} {Fr : List Nat} {ma : En → Res D} {mr : En → Res (List D)} [ha : SemX K E ta Fa ma] [hr : SemAX K E tr Fr mr] : SemAX K E (tCons ta tr) (Fa ++ Fr) (mCons ma mr) where
  ok := fun {env σ S H Q w} x e k => by
    obtain ⟨d, e1, e2⟩ := Res.of_ok e
    obtain ⟨ds, e3, rfl⟩ := Res.of_okm e2
    refine ha.ok x e1 fun v H1 g1 r1 => ?_
    exact hr.ok (x.gr (Gr.hp x.sub g1)) e3 fun vs H2 g2 r2 => k _ H2 (g1.trans g2) (.cons (r1.up g2) r2)
  ex := fun {env σ S H Q w} x e k => by
    rcases Res.of_ex e with e1 | ⟨d, e1, e2⟩
    · exact ha.ex x e1 k
    · refine ha.ok x e1 fun v H1 g1 r1 => ?_
      exact hr.ex (x.gr (Gr.hp x.sub g1)) (Res.of_exm e2) fun c d H' s q => k c d H' (g1.trans s) q
def small (n : Nat) : Bool := decide (n ≤ 10000000)
theorem small_line {n : Nat} (h : small n = true) : n < sizeLine := by
  have := of_decide_eq_true h
  rw [sizeLine_eq]
  omega
def mLst (ma : En → Res (List D)) : En → Res W := fun e => (ma e).bind fun ds => if small ds.length then .ok (.lst ds) else .st
def mTup (ma : En → Res (List D)) : En → Res W := fun e => (ma e).bind fun ds => if small ds.length then .ok (.sh (.tup ds)) else .st
instance semE_lst {t : TA} {ma : En → Res (List D)} [ha : SemA K E t Fa ma] : SemE K E (tLst t) Fa (mLst ma) where
  ok := fun {env σ S H Q w} x e k => by
    obtain ⟨ds, e1, e2⟩ := Res.of_ok e
    split at e2
    · rename_i hs
      cases e2
      refine ha.ok x e1 fun vs S1 H1 g r => ⟨by rw [r.len]; exact Nat.le_of_lt (small_line hs), fun p hp => ?_⟩
      have hS : S1 p = none := g.sub.free hp
      exact k _ S1 _ [p] (.lst g hS hp r)
    · cases e2
  ex := fun {env σ S H Q w} x e k => by
    rcases Res.of_ex e with e1 | ⟨d, e1, e2⟩
    · exact ha.ex x e1 k
    · split at e2 <;> cases e2
theorem New.tup {S H S' H' : Hp} {p : Addr} {vs : List V} {xs : List D} (g : Gr S H S' H') (hn : H' p = none) (r : Reps K S' vs xs) : New K S H (upd S' p (.tup vs)) (upd H' p (.tup vs)) (.ref p) (.sh (.tup xs)) [] := by
  have g2 := g.trans (.new (o := .tup vs) g.sub hn)
  exact .sh g2 (.tup upd_same (r.up fun a o q => by rw [upd_ne (ne_of_none q (g.sub.free hn))]; exact q))
instance semE_tup {t : TA} {ma : En → Res (List D)} [ha : SemA K E t Fa ma] : SemE K E (tTup t) Fa (mTup ma) where
  ok := fun {env σ S H Q w} x e k => by
    obtain ⟨ds, e1, e2⟩ := Res.of_ok e
    split at e2
    · rename_i hs
      cases e2
      exact ha.ok x e1 fun vs S1 H1 g r => ⟨by rw [r.len]; exact Nat.le_of_lt (small_line hs), fun p hp => k _ _ _ [] (.tup g hp r)⟩
    · cases e2
  ex := fun {env σ S H Q w} x e k => by
    rcases Res.of_ex e with e1 | ⟨d, e1, e2⟩
    · exact ha.ex x e1 k
    · split at e2 <;> cases e2
end
end Ly

set_option Elab.async false
set_option linter.all false
set_option maxRecDepth 100000
namespace Ly
open PySem L2

/-! ### states of a frame -/
/-- what is told of a frame: the slots whose things are changed in place (i), the slots that keep their value (1000 + i); the values that slots keep -/
structure Fm where
  mu : List Nat
  pins : List (Nat × V)
  ok : ∀ q ∈ pins, mu.contains (1000 + q.1) = true
/-- B: what the caller keeps; S0: the stable part at the entry -/
structure StOk (K : PySem.W.Frag) (f : Fm) (B S0 : Hp) (env : En) (σ : L2.St) (S H : Hp) : Prop where
  len : env.length = σ.length
  pin : ∀ q ∈ f.pins, σ[q.1]? = some (some q.2)
  sub : Same S H
  base : Same B H
  ex0 : Same S0 S
  nw : ∀ a o, S a = some o → S0 a = some o ∨ B a = none
  own : ∃ fps : Nat → List Addr, (∀ (i : Nat) w, env[i]? = some (some w) → ∃ v, σ[i]? = some (some v) ∧ Own K S H v w (fps i) ∧ (fps i).Nodup) ∧
    (∀ i p, p ∈ fps i → S p = none ∧ B p = none ∧ (H p).isSome = true) ∧ ∀ i j p, p ∈ fps i → p ∈ fps j → i = j
/-- what a def hands back -/
structure RtOk (K : PySem.W.Frag) (B S0 S H : Hp) (v : V) (w : W) (fp : List Addr) : Prop where
  sub : Same S H
  base : Same B H
  ex0 : Same S0 S
  nw : ∀ a o, S a = some o → S0 a = some o ∨ B a = none
  own : Own K S H v w fp
  nd : fp.Nodup
  new : ∀ p ∈ fp, B p = none ∧ S p = none
section
variable {K : PySem.W.Frag} {f : Fm} {B S0 S S' H H' : Hp} {env : En} {σ : L2.St} {v : V} {w : W} {fp : List Addr}
/-- a slot that may be set anew -/
def free0 (mu : List Nat) (i : Nat) : Bool := !mu.contains (1000 + i)
theorem pin_set {i : Nat} {u : Option V} (h : ∀ q ∈ f.pins, σ[q.1]? = some (some q.2)) (hi : free0 f.mu i = true) : ∀ q ∈ f.pins, (σ.set i u)[q.1]? = some (some q.2) := fun q e => by
  have hm := f.ok q e
  have : i ≠ q.1 := fun z => by
    subst z
    unfold free0 at hi
    rw [hm] at hi
    cases hi
  rw [List.getElem?_set_ne this]
  exact h q e
theorem StOk.vw (x : StOk K f B S0 env σ S H) : Vw K env σ S H := ⟨x.len, x.sub, fun i w e => by
  obtain ⟨fps, h1, h2, _⟩ := x.own
  obtain ⟨v, a, b, _⟩ := h1 i w e
  exact ⟨v, _, a, b, fun p hp => (h2 i p hp).1⟩⟩
theorem StOk.gr (x : StOk K f B S0 env σ S H) (g : Gr S H S' H') : StOk K f B S0 env σ S' H' := by
  obtain ⟨fps, h1, h2, h3⟩ := x.own
  refine ⟨x.len, x.pin, g.sub, x.base.trans g.hh, x.ex0.trans g.ss, fun a o e => ?_, fps, fun i w e => ?_, fun i p hp => ?_, h3⟩
  · rcases g.nw a o e with h | h
    · exact x.nw a o h
    · exact .inr (x.base.free h)
  · obtain ⟨v, a, b, c⟩ := h1 i w e
    exact ⟨v, a, b.gr g, c⟩
  · obtain ⟨a, b, c⟩ := h2 i p hp
    obtain ⟨u, e⟩ := Option.isSome_iff_exists.mp c
    exact ⟨g.gone a c, b, by rw [g.hh p u e]; rfl⟩
theorem get_set {α : Type} {l : List α} {i j : Nat} {x y : α} (h : (l.set i x)[j]? = some y) : (i = j ∧ y = x ∧ i < l.length) ∨ (i ≠ j ∧ l[j]? = some y) := by
  by_cases e : i = j
  · subst e
    by_cases hl : i < l.length
    · rw [List.getElem?_set_self hl] at h; cases h; exact .inl ⟨rfl, rfl, hl⟩
    · rw [List.getElem?_eq_none (by simpa using hl)] at h; cases h
  · rw [List.getElem?_set_ne e] at h; exact .inr ⟨e, h⟩
/-- a new value is stored -/
theorem StOk.set (x : StOk K f B S0 env σ S H) (n : New K S H S' H' v w fp) (i : Nat) (hi : free0 f.mu i = true) : StOk K f B S0 (env.set i (some w)) (σ.set i (some v)) S' H' := by
  have y := x.gr n.gr
  obtain ⟨fps, h1, h2, h3⟩ := x.own
  obtain ⟨fps', g1, g2, g3⟩ : ∃ fps' : Nat → List Addr, (∀ (i : Nat) w, env[i]? = some (some w) → ∃ v, σ[i]? = some (some v) ∧ Own K S' H' v w (fps' i) ∧ (fps' i).Nodup) ∧
      (∀ i p, p ∈ fps' i → S' p = none ∧ B p = none ∧ (H' p).isSome = true ∧ (H p).isSome = true) ∧ ∀ i j p, p ∈ fps' i → p ∈ fps' j → i = j := by
    refine ⟨fps, fun i w e => ?_, fun i p hp => ?_, h3⟩
    · obtain ⟨v, a, b, c⟩ := h1 i w e
      exact ⟨v, a, b.gr n.gr, c⟩
    · obtain ⟨a, b, c⟩ := h2 i p hp
      obtain ⟨u, e⟩ := Option.isSome_iff_exists.mp c
      exact ⟨n.gr.gone a c, b, by rw [n.gr.hh p u e]; rfl, c⟩
  have far : ∀ j p, p ∈ fps' j → p ∈ fp → False := fun j p h h' => by
    have := (g2 j p h).2.2.2
    rw [(n.new p h').1] at this
    cases this
  refine ⟨by rw [List.length_set, List.length_set]; exact y.len, pin_set y.pin hi, y.sub, y.base, y.ex0, y.nw, fun j => if j = i then fp else fps' j, fun j u e => ?_, fun j p hp => ?_, fun j k p hj hk => ?_⟩
  · rcases get_set e with ⟨rfl, e1, hl⟩ | ⟨ne, e1⟩
    · cases e1
      refine ⟨v, List.getElem?_set_self (by rw [← y.len]; exact hl), ?_⟩
      simp only [if_pos]
      exact ⟨n.own, n.nd⟩
    · obtain ⟨z, a, b, c⟩ := g1 j u e1
      refine ⟨z, by rw [List.getElem?_set_ne ne]; exact a, ?_⟩
      simp only [if_neg (Ne.symm ne)]
      exact ⟨b, c⟩
  · by_cases e : j = i
    · simp only [if_pos e] at hp
      exact ⟨(n.new p hp).2, x.base.free (n.new p hp).1, Own.there w n.own p hp⟩
    · simp only [if_neg e] at hp
      obtain ⟨a, b, c, _⟩ := g2 j p hp
      exact ⟨a, b, c⟩
  · by_cases e : j = i
    · by_cases e' : k = i
      · exact e.trans e'.symm
      · simp only [if_pos e, if_neg e'] at hj hk
        exact (far k p hk hj).elim
    · by_cases e' : k = i
      · simp only [if_neg e, if_pos e'] at hj hk
        exact (far j p hj hk).elim
      · simp only [if_neg e, if_neg e'] at hj hk
        exact g3 j k p hj hk
/-- an owned thing is changed -/
theorem StOk.mut {i : Nat} {p : Addr} {o : HO} {u w' : W} (x : StOk K f B S0 env σ S H) (e : env[i]? = some (some u)) (hu : ∀ fq, Own K S H v u fq → fq = [p]) (hv : σ[i]? = some (some v)) (ho : Own K S (upd H p o) v w' [p]) :
    StOk K f B S0 (env.set i (some w')) σ S (upd H p o) := by
  obtain ⟨fps, h1, h2, h3⟩ := x.own
  obtain ⟨v', a, b, c⟩ := h1 i u e
  rw [hv] at a
  cases a
  have ep : fps i = [p] := hu _ b
  obtain ⟨q1, q2, q3⟩ := h2 i p (by rw [ep]; simp)
  have far : ∀ j, j ≠ i → ∀ q ∈ fps j, q ≠ p := fun j hj q hq z => by
    subst z
    exact hj (h3 j i q hq (by rw [ep]; simp))
  refine ⟨by rw [List.length_set]; exact x.len, x.pin, fun a o' z => ?_, fun a o' z => ?_, x.ex0, x.nw, fps, fun j w e' => ?_, fun j q hq => ?_, h3⟩
  · rw [upd_ne (ne_of_none z q1)]; exact x.sub a o' z
  · rw [upd_ne (ne_of_none z q2)]; exact x.base a o' z
  · rcases get_set e' with ⟨rfl, e1, hl⟩ | ⟨ne, e1⟩
    · cases e1
      exact ⟨v, hv, by rw [ep]; exact ho, by rw [ep]; simp⟩
    · obtain ⟨z, a, b', c'⟩ := h1 j w e1
      exact ⟨z, a, b'.carry (Same.refl S) w fun q hq => upd_ne (far j (Ne.symm ne) q hq), c'⟩
  · obtain ⟨a, b', c'⟩ := h2 j q hq
    refine ⟨a, b', ?_⟩
    by_cases z : q = p
    · rw [z, upd_same]; rfl
    · rw [upd_ne z]; exact c'
def fz1 (i : Nat) (env : En) : En := match env[i]? with
  | some (some w) => env.set i (some (.sh w.toD))
  | _ => env
def fz : List Nat → En → En
  | [], env => env
  | i :: r, env => fz r (fz1 i env)
theorem StOk.fz1 (x : StOk K f B S0 env σ S H) (i : Nat) : ∃ S', StOk K f B S0 (fz1 i env) σ S' H ∧ Same S S' := by
  unfold Ly.fz1
  split
  · rename_i w e
    obtain ⟨fps, h1, h2, h3⟩ := x.own
    obtain ⟨v, a, b, c⟩ := h1 i w e
    have hn : ∀ p ∈ fps i, S p = none := fun p hp => (h2 i p hp).1
    have ss := frz_same (S := S) (H := H) hn
    refine ⟨frz S H (fps i), ⟨by rw [List.length_set]; exact x.len, x.pin, frz_sub x.sub, x.base, x.ex0.trans ss, fun a o e => ?_, fun j => if j = i then [] else fps j, fun j u e' => ?_, fun j p hp => ?_, fun j k p hj hk => ?_⟩, ss⟩
    · by_cases z : a ∈ fps i
      · exact .inr (h2 i a z).2.1
      · rw [frz_out z] at e; exact x.nw a o e
    · rcases get_set e' with ⟨rfl, e1, hl⟩ | ⟨ne, e1⟩
      · cases e1
        refine ⟨v, a, ?_⟩
        simp only [if_pos]
        exact ⟨.sh (b.rep ss w fun p hp => frz_at hp), List.nodup_nil⟩
      · obtain ⟨z, a', b', c'⟩ := h1 j u e1
        refine ⟨z, a', ?_⟩
        simp only [if_neg (Ne.symm ne)]
        exact ⟨b'.carry ss u fun _ _ => rfl, c'⟩
    · by_cases e' : j = i
      · simp only [if_pos e'] at hp; cases hp
      · simp only [if_neg e'] at hp
        obtain ⟨a', b', c'⟩ := h2 j p hp
        exact ⟨by rw [frz_out fun z => e' (h3 j i p hp z)]; exact a', b', c'⟩
    · by_cases e' : j = i
      · simp only [if_pos e'] at hj; cases hj
      · by_cases e'' : k = i
        · simp only [if_pos e''] at hk; cases hk
        · simp only [if_neg e', if_neg e''] at hj hk
          exact h3 j k p hj hk
  · exact ⟨S, x, Same.refl S⟩
theorem StOk.fz : ∀ (F : List Nat) {env : En} {S : Hp}, StOk K f B S0 env σ S H → ∃ S', StOk K f B S0 (fz F env) σ S' H ∧ Same S S'
  | [], _, S, x => ⟨S, x, Same.refl S⟩
  | i :: F, _, S, x => by
    obtain ⟨S1, x1, s1⟩ := x.fz1 i
    obtain ⟨S2, x2, s2⟩ := StOk.fz F x1
    exact ⟨S2, x2, s1.trans s2⟩
end

/-! ### statements -/
inductive Fl where
  | nx (e : En) | rt (w : W) | bk (e : En) | ct (e : En)
def Post (K : PySem.W.Frag) (f : Fm) (B S0 : Hp) (D : Ends) (E : XK) (S : Hp) : Res Fl → Prop
  | .ok (.nx e) => ∀ σ' S' H', StOk K f B S0 e σ' S' H' → Same S S' → D.nx σ' H'
  | .ok (.bk e) => ∀ σ' S' H', StOk K f B S0 e σ' S' H' → Same S S' → D.bk σ' H'
  | .ok (.ct e) => ∀ σ' S' H', StOk K f B S0 e σ' S' H' → Same S S' → D.ct σ' H'
  | .ok (.rt w) => ∀ v S' H' fp, RtOk K B S0 S' H' v w fp → D.rt v H'
  | .ex x => ∀ cls d H', Same B H' → XR K x cls d H' → E cls d H'
  | .st => False
theorem Post.up {K : PySem.W.Frag} {f : Fm} {B S0 S S' : Hp} {D : Ends} {E : XK} {r : Res Fl} (p : Post K f B S0 D E S r) (h : Same S S') : Post K f B S0 D E S' r := by
  cases r with
  | ok r =>
    cases r with
    | nx e => exact fun σ T H' x s => p σ T H' x (h.trans s)
    | bk e => exact fun σ T H' x s => p σ T H' x (h.trans s)
    | ct e => exact fun σ T H' x s => p σ T H' x (h.trans s)
    | rt w => exact p
  | ex x => exact p
  | st => exact p
/-- Mu: the slots whose things are changed in place -/
class SemS (K : PySem.W.Frag) (Mu : List Nat) (E : XK) (t : TS) (m : outParam (En → Res Fl)) : Prop where
  run : ∀ {f B S0 D env σ S H}, f.mu = Mu → StOk K f B S0 env σ S H → Post K f B S0 D E S (m env) → t D σ H
section
variable {K : PySem.W.Frag} {Mu : List Nat} {E : XK} {te : TE} {F : List Nat} {me : En → Res W}
theorem xr_up {B H : Hp} {x : Xc} {P : Value → Option Addr → Hp → Prop} (b : Same B H) (k : ∀ cls d H', Same B H' → XR K x cls d H' → P cls d H') : ∀ cls d H', Same H H' → XR K x cls d H' → P cls d H' := fun c d H' s q => k c d H' (b.trans s) q

def keepW (Mu : List Nat) (i : Nat) (w : W) : W := if Mu.contains i then w else .sh w.toD
def mAsg (Mu F : List Nat) (i : Nat) (me : En → Res W) : En → Res Fl := fun env => if free0 Mu i then (me (fz F env)).map fun w => .nx ((fz F env).set i (some (keepW Mu i w))) else .st
theorem New.sh' {S H S' H' : Hp} {v : V} {w : W} {fp : List Addr} (n : New K S H S' H' v w fp) : New K S H (frz S' H' fp) H' v (.sh w.toD) [] := .sh n.stable.1 n.stable.2
instance semS_asg {i : Nat} [h : SemE K E te F me] : SemS K Mu E (tAsg te (gName i)) (mAsg Mu F i me) where
  run := fun {f B S0 D env σ S H} hm x p => by
    obtain ⟨S1, x1, s1⟩ := x.fz F
    unfold mAsg at p
    split at p
    case isFalse => exact p.elim
    rename_i hi
    rw [← hm] at hi
    cases e : me (fz F env) with
    | ok w =>
      rw [e] at p
      refine h.ok x1.vw e fun v S' H' fp n => ?_
      show D.nx _ _
      unfold keepW at p
      by_cases hm2 : Mu.contains i = true
      · simp only [hm2, if_true] at p
        exact p _ _ _ (x1.set n i hi) (s1.trans n.gr.ss)
      · simp only [hm2, if_false] at p
        exact p _ _ _ (x1.set n.sh' i hi) (s1.trans n.stable.1.ss)
    | ex z =>
      rw [e] at p
      exact h.ex x1.vw e (xr_up x1.base p)
    | st => rw [e] at p; exact p.elim

/-- what a target makes of an item: the slots are ts -/
class SemG (K : PySem.W.Frag) (g : TG) (ts : outParam (List Nat)) (m : outParam (D → En → Res En)) : Prop where
  run : ∀ {f B S0 env σ S H v d Q e}, ts.all (free0 f.mu) = true → StOk K f B S0 env σ S H → Rep K S v d → m d env = .ok e → (∀ σ', StOk K f B S0 e σ' S H → Q σ' H) → g v σ H Q
  vw : ∀ {env σ S H v d Q e}, Vw K env σ S H → Rep K S v d → m d env = .ok e → (∀ σ', Vw K e σ' S H → (∀ vs : List Nat, (∀ i ∈ ts, i ∈ vs) → wipe σ' vs = wipe σ vs) → Q σ' H) → g v σ H Q
  ex : ∀ {d env x}, m d env = .ex x → False
class SemGs (K : PySem.W.Frag) (g : TGs) (ts : outParam (List Nat)) (m : outParam (List D → En → Res En)) : Prop where
  run : ∀ {f B S0 env σ S H vs ds Q e}, ts.all (free0 f.mu) = true → StOk K f B S0 env σ S H → Reps K S vs ds → m ds env = .ok e → (∀ σ', StOk K f B S0 e σ' S H → Q σ' H) → g vs σ H Q
  vw : ∀ {env σ S H us ds Q e}, Vw K env σ S H → Reps K S us ds → m ds env = .ok e → (∀ σ', Vw K e σ' S H → (∀ vs : List Nat, (∀ i ∈ ts, i ∈ vs) → wipe σ' vs = wipe σ vs) → Q σ' H) → g us σ H Q
  ex : ∀ {d env x}, m d env = .ex x → False
theorem wipe_set {σ : L2.St} {i : Nat} {u : Option V} : ∀ {vs : List Nat}, i ∈ vs → wipe (σ.set i u) vs = wipe σ vs
  | [], h => by cases h
  | v :: vs, h => by
    unfold wipe
    by_cases hi : i ∈ vs
    · rw [wipe_set hi]
    · have e : v = i := by
        rcases List.mem_cons.mp h with e | e
        · exact e.symm
        · exact absurd e hi
      subst e
      have : ∀ (vs : List Nat), v ∉ vs → wipe (σ.set v u) vs = (wipe σ vs).set v u := by
        intro vs
        induction vs with
        | nil => intro _; rfl
        | cons a vs ih =>
          intro hn
          unfold wipe
          rw [ih fun z => hn (List.mem_cons_of_mem _ z), List.set_comm _ _ fun z => hn (by rw [z]; exact List.mem_cons_self)]
      rw [this vs hi, List.set_set]
def mName (i : Nat) : D → En → Res En := fun d env => .ok (env.set i (some (.sh d)))
theorem Vw.set {env : En} {σ : L2.St} {S H : Hp} {v : V} {d : D} (x : Vw K env σ S H) (r : Rep K S v d) (i : Nat) : Vw K (env.set i (some (.sh d))) (σ.set i (some v)) S H := ⟨by rw [List.length_set, List.length_set]; exact x.len, x.sub, fun j w e => by
  rcases get_set e with ⟨rfl, e1, hl'⟩ | ⟨ne, e1⟩
  · cases e1
    exact ⟨v, [], List.getElem?_set_self (by rw [← x.len]; exact hl'), .sh r, fun p hp => nomatch hp⟩
  · obtain ⟨z, fp, a, b, c⟩ := x.at_ j w e1
    exact ⟨z, fp, by rw [List.getElem?_set_ne ne]; exact a, b, c⟩⟩
instance semG_name {i : Nat} : SemG K (gName i) [i] (mName i) where
  run := fun hi x r e k => by
    cases e
    exact k _ (x.set (.sh (.refl x.sub) r) i (by simpa using hi))
  vw := fun x r e k => by
    cases e
    exact k _ (x.set r i) fun vs h => wipe_set (h i (by simp))
  ex := fun e => by cases e
def mGNil : List D → En → Res En := fun ds env => match ds with
  | [] => .ok env
  | _ => .st
def mGCons (m : D → En → Res En) (mr : List D → En → Res En) : List D → En → Res En := fun ds env => match ds with
  | d :: ds => (m d env).bind fun e => mr ds e
  | _ => .st
instance semGs_nil : SemGs K gNil [] mGNil where
  run := fun {f B S0 env σ S H vs ds Q e} hi x r e k => by
    cases ds with
    | nil => cases r; cases e; exact ⟨rfl, k _ x⟩
    | cons _ _ => cases e
  vw := fun {env σ S H us ds Q e} x r e k => by
    cases ds with
    | nil => cases r; cases e; exact ⟨rfl, k _ x fun _ _ => rfl⟩
    | cons _ _ => cases e
  ex := fun {d env x} e => by cases d <;> cases e
instance semGs_cons {g : TG} {gr : TGs} {ts tr : List Nat} {m : D → En → Res En} {mr : List D → En → Res En} [hg : SemG K g ts m] [hr : SemGs K gr tr mr] : SemGs K (gCons g gr) (ts ++ tr) (mGCons m mr) where
  run := fun {f B S0 env σ S H vs ds Q e} hi x r e k => by
    cases ds with
    | nil => cases e
    | cons d ds =>
      obtain ⟨e1, h1, h2⟩ := Res.of_ok e
      cases r with
      | cons a b =>
        rw [List.all_append, Bool.and_eq_true] at hi
        exact ⟨_, _, rfl, hg.run hi.1 x a h1 fun σ' y => hr.run hi.2 y b h2 k⟩
  vw := fun {env σ S H us ds Q e} x r e k => by
    cases ds with
    | nil => cases e
    | cons d ds =>
      obtain ⟨e1, h1, h2⟩ := Res.of_ok e
      cases r with
      | cons a b =>
        refine ⟨_, _, rfl, hg.vw x a h1 fun σ' y wp => ?_⟩
        exact hr.vw y b h2 fun σ2 z wq => k σ2 z fun vs hv => (wq vs fun i hi => hv i (List.mem_append_right _ hi)).trans (wp vs fun i hi => hv i (List.mem_append_left _ hi))
  ex := fun {d env x} e => by
    cases d with
    | nil => cases e
    | cons d ds =>
      rcases Res.of_ex e with e | ⟨_, _, e⟩
      · exact hg.ex e
      · exact hr.ex e
def mGTup (n : Nat) (m : List D → En → Res En) : D → En → Res En := fun d env => match d with
  | .tup xs => if xs.length = n then m xs env else .st
  | _ => .st
instance semG_tup {n : Nat} {g : TGs} {ts : List Nat} {m : List D → En → Res En} [hg : SemGs K g ts m] : SemG K (gTup K n g) ts (mGTup n m) where
  run := fun {f B S0 env σ S H v d Q e} hi x r e k => by
    unfold mGTup at e
    split at e
    · rename_i xs
      split at e
      · rename_i hn
        cases r with
        | tup a b => exact ⟨_, _, rfl, SqT.of (x.sub _ _ a), by rw [b.len]; exact hn, hg.run hi x b e k⟩
      · cases e
    · cases e
  vw := fun {env σ S H v d Q e} x r e k => by
    unfold mGTup at e
    split at e
    · rename_i xs
      split at e
      · rename_i hn
        cases r with
        | tup a b => exact ⟨_, _, rfl, SqT.of (x.sub _ _ a), by rw [b.len]; exact hn, hg.vw x b e fun σ' y wp => k σ' y wp⟩
      · cases e
    · cases e
  ex := fun {d env x} e => by
    unfold mGTup at e
    split at e
    · split at e
      · exact hg.ex e
      · cases e
    · cases e
def mAsgT (Mu ts F : List Nat) (me : En → Res W) (mg : D → En → Res En) : En → Res Fl := fun env => if ts.all (free0 Mu) then (mD me (fz F env)).bind fun d => (mg d (fz F env)).map .nx else .st
instance semS_asgT {n : Nat} {g : TGs} {ts : List Nat} {mg : D → En → Res En} [h : SemE K E te F me] [hg : SemG K (gTup K n g) ts mg] : SemS K Mu E (tAsg te (gTup K n g)) (mAsgT Mu ts F me mg) where
  run := fun {f B S0 D env σ S H} hm x p => by
    obtain ⟨S1, x1, s1⟩ := x.fz F
    unfold mAsgT at p
    split at p
    case isFalse => exact p.elim
    rename_i hi
    rw [← hm] at hi
    cases e : mD me (fz F env) with
    | ok d =>
      rw [e] at p
      refine h.okD x1.vw e fun v S' H' g r => ?_
      show gTup K n _ v σ H' D.nx
      cases e2 : mg d (fz F env) with
      | ok e3 =>
        simp only [Res.bind_ok, e2, Res.map_ok] at p
        exact hg.run hi (x1.gr g) r e2 fun σ' y => p _ _ _ y (s1.trans g.ss)
      | ex z => exact (hg.ex e2).elim
      | st => simp only [Res.bind_ok, e2, Res.map_st] at p; exact p.elim
    | ex z =>
      rw [e] at p
      exact h.ex x1.vw (Res.of_exm e) (xr_up x1.base p)
    | st => rw [e] at p; exact p.elim

def mSeq (a b : En → Res Fl) : En → Res Fl := fun env => (a env).bind fun r => match r with
  | .nx e => b e
  | r => .ok r
instance semS_seq {t u : TS} {ma mb : En → Res Fl} [ha : SemS K Mu E t ma] [hb : SemS K Mu E u mb] : SemS K Mu E (tSeq t u) (mSeq ma mb) where
  run := fun {f B S0 D env σ S H} hm x p => by
    refine ha.run hm x ?_
    unfold mSeq at p
    cases e : ma env with
    | ok r =>
      rw [e] at p
      cases r with
      | nx e1 => exact fun σ' S' H' y s => hb.run hm y (p.up s)
      | rt w => exact p
      | bk e1 => exact p
      | ct e1 => exact p
    | ex z => rw [e] at p; exact p
    | st => rw [e] at p; exact p
def mNext : En → Res Fl := fun env => .ok (.nx env)
def mBreak : En → Res Fl := fun env => .ok (.bk env)
def mCont : En → Res Fl := fun env => .ok (.ct env)
instance semS_next : SemS K Mu E tNext mNext where
  run := fun _ x p => p _ _ _ x (Same.refl _)
instance semS_break : SemS K Mu E tBreak mBreak where
  run := fun _ x p => p _ _ _ x (Same.refl _)
instance semS_cont : SemS K Mu E tCont mCont where
  run := fun _ x p => p _ _ _ x (Same.refl _)
def mIfS (F : List Nat) (mc : En → Res Bool) (ma mb : En → Res Fl) : En → Res Fl := fun env => (mc (fz F env)).bind fun b => if b = true then ma (fz F env) else mb (fz F env)
instance semS_if {c : TT} {t u : TS} {mc : En → Res Bool} {ma mb : En → Res Fl} [hc : SemT K E c F mc] [ha : SemS K Mu E t ma] [hb : SemS K Mu E u mb] : SemS K Mu E (tIfS c t u) (mIfS F mc ma mb) where
  run := fun {f B S0 D env σ S H} hm x p => by
    obtain ⟨S1, x1, s1⟩ := x.fz F
    unfold mIfS at p
    cases e : mc (fz F env) with
    | ok b =>
      rw [e] at p
      refine hc.ok x1.vw e fun H' g => ?_
      have y := x1.gr (.hp x1.sub g)
      cases b with
      | true => exact ha.run hm y (p.up s1)
      | false => exact hb.run hm y (p.up s1)
    | ex z =>
      rw [e] at p
      exact hc.ex x1.vw e (xr_up x1.base p)
    | st => rw [e] at p; exact p.elim
def mDrop (F : List Nat) (me : En → Res W) : En → Res Fl := fun env => (me (fz F env)).map fun _ => .nx (fz F env)
instance (priority := low) semS_drop [h : SemE K E te F me] : SemS K Mu E (tDrop te) (mDrop F me) where
  run := fun {f B S0 D env σ S H} hm x p => by
    obtain ⟨S1, x1, s1⟩ := x.fz F
    unfold mDrop at p
    cases e : me (fz F env) with
    | ok w =>
      rw [e] at p
      exact h.ok x1.vw e fun v S' H' fp n => p _ _ _ (x1.gr n.gr) (s1.trans n.gr.ss)
    | ex z => rw [e] at p; exact h.ex x1.vw e (xr_up x1.base p)
    | st => rw [e] at p; exact p.elim
def mRet (F : List Nat) (me : En → Res W) : En → Res Fl := fun env => (me (fz F env)).map .rt
instance semS_ret [h : SemE K E te F me] : SemS K Mu E (tRet te) (mRet F me) where
  run := fun {f B S0 D env σ S H} hm x p => by
    obtain ⟨S1, x1, s1⟩ := x.fz F
    unfold mRet at p
    cases e : me (fz F env) with
    | ok w =>
      rw [e] at p
      refine h.ok x1.vw e fun v S' H' fp n => ?_
      have y := x1.gr n.gr
      exact p v S' H' fp ⟨y.sub, y.base, y.ex0, y.nw, n.own, n.nd, fun q hq => ⟨x1.base.free (n.new q hq).1, (n.new q hq).2⟩⟩
    | ex z => rw [e] at p; exact h.ex x1.vw e (xr_up x1.base p)
    | st => rw [e] at p; exact p.elim
/-- return of a name: what it owns goes along -/
def mRetVar (i : Nat) : En → Res Fl := fun env => match env[i]? with
  | some (some w) => .ok (.rt w)
  | _ => .st
instance semS_retVar {i : Nat} : SemS K Mu E (tRet (tVar i)) (mRetVar i) where
  run := fun {f B S0 D env σ S H} hm x p => by
    unfold mRetVar at p
    split at p
    · rename_i w e
      obtain ⟨fps, h1, h2, _⟩ := x.own
      obtain ⟨v, a, b, c⟩ := h1 i w e
      exact ⟨v, a, p v S H _ ⟨x.sub, x.base, x.ex0, x.nw, b, c, fun q hq => ⟨(h2 i q hq).2.1, (h2 i q hq).1⟩⟩⟩
    · exact p.elim
def mRetN : En → Res Fl := fun _ => .ok (.rt (.sh .non))
instance semS_retN : SemS K Mu E tRetN mRetN where
  run := fun {f B S0 D env σ S H} hm x p => p .non S H [] ⟨x.sub, x.base, x.ex0, x.nw, .sh .non, List.nodup_nil, fun p hp => nomatch hp⟩

/-! ### loops -/
/-- what is walked gives ds, whatever grows meanwhile -/
def JOk (K : PySem.W.Frag) (S0 P0 : Hp) (J : It) (ds : List D) : Prop := ∀ S H, Same S0 S → Same S H → Same P0 H → ∀ i, (∀ d, ds[i]? = some d → J.go i H ∧ ∀ x H', J.yld i H x H' → ∃ S', Gr S H S' H' ∧ Rep K S' x d) ∧ (ds[i]? = none → J.stop i H)
class SemI (K : PySem.W.Frag) (E : XK) (wi : TI) (F : outParam (List Nat)) (m : outParam (En → Res (List D))) : Prop where
  ok : ∀ {env σ S H R ds}, Vw K env σ S H → m env = .ok ds → (∀ J S' H', Gr S H S' H' → JOk K S' S' J ds → R J H') → wi σ H R
  ex : ∀ {env σ S H R x}, Vw K env σ S H → m env = .ex x → (∀ cls d H', Same H H' → XR K x cls d H' → E cls d H') → wi σ H R
def runL (mg : D → En → Res En) (mb : En → Res Fl) : List D → En → Res Fl
  | [], env => .ok (.nx env)
  | d :: ds, env => (mg d env).bind fun e => (mb e).bind fun r => match r with
    | .nx e => runL mg mb ds e
    | .ct e => runL mg mb ds e
    | .bk e => .ok (.nx e)
    | .rt w => .ok (.rt w)
def mFor (Mu ts F : List Nat) (mi : En → Res (List D)) (mg : D → En → Res En) (mb : En → Res Fl) : En → Res Fl := fun env => if ts.all (free0 Mu) then (mi (fz F env)).bind fun ds => runL mg mb ds (fz F env) else .st
instance semS_for {wi : TI} {g : TG} {tb : TS} {ts : List Nat} {mi : En → Res (List D)} {mg : D → En → Res En} {mb : En → Res Fl} [hi : SemI K E wi F mi] [hg : SemG K g ts mg] [hb : SemS K Mu E tb mb] : SemS K Mu E (tFor wi g tb) (mFor Mu ts F mi mg mb) where
  run := fun {f B S0 D env σ S H} hm x p => by
    obtain ⟨S1, x1, s1⟩ := x.fz F
    unfold mFor at p
    split at p
    case isFalse => exact p.elim
    rename_i hts
    rw [← hm] at hts
    cases e : mi (fz F env) with
    | ex z => rw [e] at p; exact hi.ex x1.vw e (xr_up x1.base p)
    | st => rw [e] at p; exact p.elim
    | ok ds =>
      rw [e] at p
      refine hi.ok x1.vw e fun J S2 H2 g2 jok => ?_
      have x2 := x1.gr g2
      have p2 : Post K f B S0 D E S2 (runL mg mb ds (fz F env)) := p.up (s1.trans g2.ss)
      refine ⟨fun i m σ H => m = ds.length - i ∧ ∃ env S, StOk K f B S0 env σ S H ∧ Same S2 S ∧ Post K f B S0 D E S (runL mg mb (ds.drop i) env), ⟨_, rfl, _, S2, x2, Same.refl S2, by rw [List.drop_zero]; exact p2⟩, ?_⟩
      rintro i m σ H ⟨rfl, env, S, x, s, q⟩
      obtain ⟨j1, j2⟩ := jok S H s x.sub (s.trans x.sub) i
      cases hd : ds[i]? with
      | none =>
        have hl : ds.length ≤ i := List.getElem?_eq_none_iff.mp hd
        rw [List.drop_eq_nil_of_le hl] at q
        exact .inl ⟨j2 hd, q σ S H x (Same.refl S)⟩
      | some d =>
        obtain ⟨hlt, hdd⟩ := List.getElem?_eq_some_iff.mp hd
        have hdrop : ds.drop i = d :: ds.drop (i + 1) := by rw [List.drop_eq_getElem_cons hlt, hdd]
        rw [hdrop] at q
        unfold runL at q
        obtain ⟨go, yld⟩ := j1 d hd
        refine .inr ⟨go, fun σ' H' => ∃ env S, StOk K f B S0 env σ' S H' ∧ Same S2 S ∧ Post K f B S0 D E S (runL mg mb (ds.drop (i + 1)) env), fun σ' H' z => ⟨_, by omega, rfl, z⟩, fun y H' hy => ?_⟩
        obtain ⟨S3, g3, r3⟩ := yld y H' hy
        cases eg : mg d env with
        | ex z => exact (hg.ex eg).elim
        | st => rw [eg] at q; exact q.elim
        | ok env' =>
          rw [eg] at q
          refine hg.run hts (x.gr g3) r3 eg fun σ' x4 => ?_
          refine hb.run hm x4 ?_
          have q' := q.up g3.ss
          simp only [Res.bind_ok] at q'
          cases er : mb env' with
          | ex z => rw [er] at q'; exact q'
          | st => rw [er] at q'; exact q'
          | ok r =>
            rw [er] at q'
            cases r with
            | nx e5 => exact fun σ5 S5 H5 x5 s5 => ⟨e5, S5, x5, (s.trans g3.ss).trans s5, Post.up q' s5⟩
            | ct e5 => exact fun σ5 S5 H5 x5 s5 => ⟨e5, S5, x5, (s.trans g3.ss).trans s5, Post.up q' s5⟩
            | bk e5 => exact q'
            | rt w => exact q'
/-! while: by fuel -/
def runW (F : List Nat) (mc : En → Res Bool) (mb : En → Res Fl) : Nat → En → Res Fl
  | 0, _ => .st
  | n + 1, env => (mc (fz F env)).bind fun b => if b = true then (mb (fz F env)).bind fun r => match r with
      | .nx e => runW F mc mb n e
      | .ct e => runW F mc mb n e
      | .bk e => .ok (.nx e)
      | .rt w => .ok (.rt w)
    else .ok (.nx (fz F env))
open Classical in
noncomputable def mWhile (F : List Nat) (mc : En → Res Bool) (mb : En → Res Fl) : En → Res Fl := fun env => if h : ∃ n, runW F mc mb n env ≠ .st then runW F mc mb (Classical.choose h) env else .st
theorem runW_more {F : List Nat} {mc : En → Res Bool} {mb : En → Res Fl} : ∀ (n m : Nat) (env : En), n ≤ m → runW F mc mb n env ≠ .st → runW F mc mb m env = runW F mc mb n env
  | 0, _, _, _, h => (h rfl).elim
  | n + 1, 0, _, hl, _ => by omega
  | n + 1, m + 1, env, hl, h => by
    unfold runW at h ⊢
    cases e : mc (Ly.fz F env) with
    | ex z => rfl
    | st => rfl
    | ok b =>
      rw [e] at h
      cases b with
      | false => rfl
      | true =>
        simp only [Res.bind_ok, if_true] at h ⊢
        cases e2 : mb (Ly.fz F env) with
        | ex z => rfl
        | st => rfl
        | ok r =>
          rw [e2] at h
          cases r with
          | nx e3 => exact runW_more n m e3 (by omega) h
          | ct e3 => exact runW_more n m e3 (by omega) h
          | bk e3 => rfl
          | rt w => rfl
theorem mWhile_of {F : List Nat} {mc : En → Res Bool} {mb : En → Res Fl} {env : En} {r : Res Fl} (n : Nat) (h : runW F mc mb n env = r) (hr : r ≠ .st) : mWhile F mc mb env = r := by
  have hh : ∃ n, runW F mc mb n env ≠ .st := ⟨n, by rw [h]; exact hr⟩
  unfold mWhile
  rw [dif_pos hh]
  have h1 := Classical.choose_spec hh
  rcases Nat.le_total n (Classical.choose hh) with hl | hl
  · rw [runW_more n _ env hl (by rw [h]; exact hr), h]
  · rw [← runW_more _ n env hl h1, h]
theorem Res.ne_st_bind {α β : Type} {r : Res α} {f : α → Res β} (h : r.bind f ≠ .st) : r ≠ .st := fun e => h (by rw [e]; rfl)
instance semS_while {c : TT} {tb : TS} {mc : En → Res Bool} {mb : En → Res Fl} [hc : SemT K E c F mc] [hb : SemS K Mu E tb mb] : SemS K Mu E (tWhile c tb) (mWhile F mc mb) where
  run := fun {f B S0 D env σ S H} hm x p => by
    unfold mWhile at p
    split at p
    · rename_i h
      generalize Classical.choose h = n at p
      refine ⟨fun m σ H => ∃ env S, StOk K f B S0 env σ S H ∧ Post K f B S0 D E S (runW F mc mb m env), ⟨n, env, S, x, p⟩, ?_⟩
      rintro m σ H ⟨env, S, x, p⟩
      cases m with
      | zero => exact p.elim
      | succ m =>
        obtain ⟨S1, x1, s1⟩ := x.fz F
        have q := p.up s1
        unfold runW at q
        cases e : mc (fz F env) with
        | ex z => rw [e] at q; exact hc.ex x1.vw e (xr_up x1.base q)
        | st => rw [e] at q; exact q.elim
        | ok b =>
          rw [e] at q
          refine hc.ok x1.vw e fun H' g => ?_
          have y := x1.gr (.hp x1.sub g)
          cases b with
          | false => exact q σ S1 H' y (Same.refl S1)
          | true =>
            rw [if_pos rfl]
            simp only [Res.bind_ok, if_true] at q
            refine ⟨fun σ' H' => ∃ env S, StOk K f B S0 env σ' S H' ∧ Post K f B S0 D E S (runW F mc mb m env), fun σ' H' z => ⟨m, by omega, z⟩, hb.run hm y ?_⟩
            cases er : mb (fz F env) with
            | ex z => rw [er] at q; exact q
            | st => rw [er] at q; exact q
            | ok r =>
              rw [er] at q
              cases r with
              | nx e5 => exact fun σ5 S5 H5 x5 s5 => ⟨e5, S5, x5, Post.up q s5⟩
              | ct e5 => exact fun σ5 S5 H5 x5 s5 => ⟨e5, S5, x5, Post.up q s5⟩
              | bk e5 => exact q
              | rt w => exact q
    · exact p.elim

/-! ### in place: append -/
def mAppend (F : List Nat) (i : Nat) (ma : En → Res (List D)) : En → Res Fl := fun env => match (fz F env)[i]? with
  | some (some (.lst xs)) => (ma (fz F env)).bind fun ds => match ds with
    | [d] => if small xs.length then .ok (.nx ((fz F env).set i (some (.lst (xs ++ [d]))))) else .st
    | _ => .st
  | _ => .st
instance semS_append {i : Nat} {t : TA} {ma : En → Res (List D)} [h : SemA K E t F ma] : SemS K Mu E (tDrop (tBM K "list" rAppend (tVar i) t)) (mAppend F i ma) where
  run := fun {f B S0 D env σ S H} hm x p => by
    obtain ⟨S1, x1, s1⟩ := x.fz F
    unfold mAppend at p
    split at p
    · rename_i xs e
      obtain ⟨v, fp, a, b, c⟩ := x1.vw.at_ i _ e
      cases b with
      | lst hp hr =>
        refine ⟨_, a, .inl ⟨rfl, _, SqL.of hp⟩, ?_⟩
        cases ea : ma (fz F env) with
        | ex z => rw [ea] at p; exact h.ex x1.vw ea (xr_up x1.base p)
        | st => rw [ea] at p; exact p.elim
        | ok ds =>
          rw [ea] at p
          simp only [Res.bind_ok] at p
          refine h.ok x1.vw ea fun vs S2 H2 g r => ?_
          split at p
          · rename_i d
            split at p
            · rename_i hs
              cases r with
              | cons r1 r2 =>
                cases r2
                have x2 := x1.gr g
                refine ⟨_, _, _, rfl, rfl, g.hh _ _ hp, by rw [hr.len]; exact small_line hs, ?_⟩
                refine p _ _ _ (x2.mut e (fun fq o => ?_) a (.lst upd_same ((hr.up g.ss).app (.cons r1 .nil)))) (s1.trans g.ss)
                cases o; rfl
            · exact p.elim
          · exact p.elim
    · exact p.elim
end
end Ly

set_option Elab.async false
set_option linter.all false
set_option maxRecDepth 100000
namespace Ly
open PySem L2

theorem OpR.or {X : Cx} {f : Value → Value → Sem Value} {r r' : R2} (h : OpR X f r) (h' : OpR X f r') : OpR X f (fun x y H Q => r x y H Q ∨ r' x y H Q) := by
  intro pins s σ H x y v u Q I rx ry q
  rcases q with q | q
  · exact h pins s σ H x y v u Q I rx ry q
  · exact h' pins s σ H x y v u Q I rx ry q

/-! ### data as the library's data; == -/
mutual
def toP : D → PyData
  | .non => .none
  | .bl b => .bool b
  | .int i => .int i
  | .str x => .str x
  | .lst xs => .list (toPs xs)
  | .tup xs => .tuple (toPs xs)
  | .ktup xs => .tuple (toPs xs)
  | .scr ns => .list (ns.map PyData.int)
  | .dic _ _ => .dict []
  | .dit _ _ => .dict []
  | .obj _ _ _ => .dict []
  | .ty _ => .dict []
  | .cls _ => .dict []
def toPs : List D → List PyData
  | [] => []
  | d :: ds => toP d :: toPs ds
end
section
variable {K : PySem.W.Frag} {H : Hp}
theorem DpAll.ints : ∀ ns : List Int, DpAll K H (ns.map V.int) (ns.map PyData.int)
  | [] => .nil
  | n :: ns => .cons (.int n) (DpAll.ints ns)
mutual
theorem Rep.dp : ∀ (d : D) {v : V}, Rep K H v d → (toP d).canLay0 = true → Dp K H v (toP d)
  | .non, _, r, _ => by cases r; unfold toP; exact .non
  | .bl b, _, r, _ => by cases r; unfold toP; exact .bl b
  | .int i, _, r, _ => by cases r; unfold toP; exact .int i
  | .str x, _, r, _ => by cases r; unfold toP; exact .str x
  | .lst xs, _, r, h => by
    unfold toP at h ⊢
    cases r with | lst e q => exact .lst (SqL.of e) (Reps.dp xs q (by simpa only [PyData.canLay0] using h))
  | .tup xs, _, r, h => by
    unfold toP at h ⊢
    cases r with | tup e q => exact .tup (SqT.of e) (Reps.dp xs q (by simpa only [PyData.canLay0] using h))
  | .ktup xs, _, r, h => by
    unfold toP at h ⊢
    cases r with | ktup e q => exact .tup e (Reps.dp xs q (by simpa only [PyData.canLay0] using h))
  | .scr ns, _, r, _ => by
    unfold toP
    cases r with | scr e => exact .lst e (DpAll.ints ns)
  | .dic _ _, _, _, h => by unfold toP at h; simp [PyData.canLay0] at h
  | .dit _ _, _, _, h => by unfold toP at h; simp [PyData.canLay0] at h
  | .obj _ _ _, _, _, h => by unfold toP at h; simp [PyData.canLay0] at h
  | .ty _, _, _, h => by unfold toP at h; simp [PyData.canLay0] at h
  | .cls _, _, _, h => by unfold toP at h; simp [PyData.canLay0] at h
theorem Reps.dp : ∀ (ds : List D) {vs : List V}, Reps K H vs ds → PyData.canLayAll0 (toPs ds) = true → DpAll K H vs (toPs ds)
  | [], _, r, _ => by cases r; unfold toPs; exact .nil
  | d :: ds, _, r, h => by
    unfold toPs at h ⊢
    cases r with
    | cons a b =>
      have h' : (toP d).canLay0 = true ∧ PyData.canLayAll0 (toPs ds) = true := by simpa [PyData.canLayAll0] using h
      exact .cons (Rep.dp d a h'.1) (Reps.dp ds b h'.2)
end
theorem Rep.dpS {d : D} {v : V} (r : Rep K H v d) (h : SeqAt.shaped (toP d) = true) : Dp K H v (toP d) := r.dp d (SeqAt.canLay_of_shaped h)
end
/-- scalars that == tells apart by themselves -/
def scalD : D → D → Option Bool
  | .non, .non => some true
  | .int a, .int b => some (decide (a = b))
  | .str a, .str b => some (decide (a = b))
  | .bl a, .bl b => some (decide (a = b))
  | .non, .int _ => some false | .int _, .non => some false | .non, .bl _ => some false | .bl _, .non => some false | .non, .str _ => some false | .str _, .non => some false
  | .int _, .str _ => some false | .str _, .int _ => some false | .bl _, .str _ => some false | .str _, .bl _ => some false
  | _, _ => none
def eqD (a b : D) : Res Bool := match scalD a b with
  | some t => .ok t
  | none => if SeqAt.shaped (toP a) && SeqAt.shaped (toP b) then .ok (PyData.eqv (toP a) (toP b)) else .st
def rEqU (K : PySem.W.Frag) : R2 := fun x y H Q => rEq x y H Q ∨ rEqD K x y H Q
def rNeU (K : PySem.W.Frag) : R2 := fun x y H Q => rNe x y H Q ∨ rNeD K x y H Q
theorem op_eqU {X : Cx} (hu : X.A.units + 64 < cLine) : OpR X (compareOp .Eq) (rEqU X.K) := OpR.or op_eq (op_eqD hu)
theorem op_neU {X : Cx} (hu : X.A.units + 64 < cLine) : OpR X (compareOp .NotEq) (rNeU X.K) := OpR.or op_ne (op_neD hu)
theorem scalD_ok {K : PySem.W.Frag} {H : Hp} {a b : D} {x y : V} {t : Bool} (rx : Rep K H x a) (ry : Rep K H y b) (h : scalD a b = some t) : scal x y = true ∧ decide (x = y) = t := by
  unfold scalD at h
  split at h <;> first | cases h | skip
  all_goals (cases rx; cases ry; refine ⟨rfl, ?_⟩; simp)
def eqB (a b : D) : Res D := (eqD a b).map .bl
def neB (a b : D) : Res D := (eqD a b).map fun t => .bl (!t)
section
variable {K : PySem.W.Frag}
instance opX_eq : OpX K (rEqU K) eqB where
  ok := fun {H v u d e Q z} rv ru h k => by
    obtain ⟨t, h1, rfl⟩ := Res.of_okm h
    unfold eqD at h1
    split at h1
    · rename_i t' hs
      cases h1
      obtain ⟨a, b⟩ := scalD_ok rv ru hs
      exact .inl ⟨a, by rw [b]; exact k _ fun S => .bl t⟩
    · split at h1
      · rename_i hs
        cases h1
        simp only [Bool.and_eq_true] at hs
        exact .inr ⟨_, _, rv.dpS hs.1, ru.dpS hs.2, hs.1, hs.2, k _ fun S => .bl _⟩
      · cases h1
  ex := fun h => by
    have h1 := Res.of_exm h
    unfold eqD at h1
    split at h1
    · cases h1
    · split at h1 <;> cases h1
instance opX_ne : OpX K (rNeU K) neB where
  ok := fun {H v u d e Q z} rv ru h k => by
    obtain ⟨t, h1, rfl⟩ := Res.of_okm h
    unfold eqD at h1
    split at h1
    · rename_i t' hs
      cases h1
      obtain ⟨a, b⟩ := scalD_ok rv ru hs
      exact .inl ⟨a, by rw [b]; exact k _ fun S => .bl _⟩
    · split at h1
      · rename_i hs
        cases h1
        simp only [Bool.and_eq_true] at hs
        exact .inr ⟨_, _, rv.dpS hs.1, ru.dpS hs.2, hs.1, hs.2, k _ fun S => .bl _⟩
      · cases h1
  ex := fun h => by
    have h1 := Res.of_exm h
    unfold eqD at h1
    split at h1
    · cases h1
    · split at h1 <;> cases h1

/-! ### order -/
def strLt (a b : Str) : Bool := decide (a.cps.toList < b.cps.toList)
def ltD : D → D → Res D
  | .int a, .int b => .ok (.bl (decide (a < b)))
  | .str a, .str b => .ok (.bl (strLt a b))
  | _, _ => .st
def leD : D → D → Res D
  | .int a, .int b => .ok (.bl (decide (a ≤ b)))
  | .str a, .str b => .ok (.bl (!strLt b a))
  | _, _ => .st
def gtD : D → D → Res D
  | .int a, .int b => .ok (.bl (decide (b < a)))
  | .str a, .str b => .ok (.bl (strLt b a))
  | _, _ => .st
def geD : D → D → Res D
  | .int a, .int b => .ok (.bl (decide (b ≤ a)))
  | .str a, .str b => .ok (.bl (!strLt a b))
  | _, _ => .st
def rOrd (f : Int → Int → Bool) (g : Str → Str → Bool) : R2 := fun x y H Q => (∃ i j, x = .int i ∧ y = .int j ∧ Q (.bl (f i j)) H) ∨ ∃ i j, x = .str i ∧ y = .str j ∧ Q (.bl (g i j)) H
def rLtU : R2 := rOrd (fun i j => decide (i < j)) strLt
def rLeU : R2 := rOrd (fun i j => decide (i ≤ j)) fun i j => !strLt j i
def rGtU : R2 := rOrd (fun i j => decide (j < i)) fun i j => strLt j i
def rGeU : R2 := rOrd (fun i j => decide (j ≤ i)) fun i j => !strLt i j
theorem op_ltU {X : Cx} : OpR X (compareOp .Lt) rLtU := OpR.or op_lt op_lt_str
theorem op_leU {X : Cx} : OpR X (compareOp .LtE) rLeU := OpR.or op_le op_le_str
theorem op_gtU {X : Cx} : OpR X (compareOp .Gt) rGtU := OpR.or op_gt op_gt_str
theorem op_geU {X : Cx} : OpR X (compareOp .GtE) rGeU := OpR.or op_ge op_ge_str
instance opX_lt : OpX K rLtU ltD where
  ok := fun {H v u d e Q z} rv ru h k => by
    unfold ltD at h
    split at h <;> first | cases h | skip
    · cases rv; cases ru; exact .inl ⟨_, _, rfl, rfl, k _ fun S => .bl _⟩
    · cases rv; cases ru; exact .inr ⟨_, _, rfl, rfl, k _ fun S => .bl _⟩
  ex := fun h => by unfold ltD at h; split at h <;> cases h
instance opX_le : OpX K rLeU leD where
  ok := fun {H v u d e Q z} rv ru h k => by
    unfold leD at h
    split at h <;> first | cases h | skip
    · cases rv; cases ru; exact .inl ⟨_, _, rfl, rfl, k _ fun S => .bl _⟩
    · cases rv; cases ru; exact .inr ⟨_, _, rfl, rfl, k _ fun S => .bl _⟩
  ex := fun h => by unfold leD at h; split at h <;> cases h
instance opX_gt : OpX K rGtU gtD where
  ok := fun {H v u d e Q z} rv ru h k => by
    unfold gtD at h
    split at h <;> first | cases h | skip
    · cases rv; cases ru; exact .inl ⟨_, _, rfl, rfl, k _ fun S => .bl _⟩
    · cases rv; cases ru; exact .inr ⟨_, _, rfl, rfl, k _ fun S => .bl _⟩
  ex := fun h => by unfold gtD at h; split at h <;> cases h
instance opX_ge : OpX K rGeU geD where
  ok := fun {H v u d e Q z} rv ru h k => by
    unfold geD at h
    split at h <;> first | cases h | skip
    · cases rv; cases ru; exact .inl ⟨_, _, rfl, rfl, k _ fun S => .bl _⟩
    · cases rv; cases ru; exact .inr ⟨_, _, rfl, rfl, k _ fun S => .bl _⟩
  ex := fun h => by unfold geD at h; split at h <;> cases h

/-! ### is None -/
def isNonD : D → Bool
  | .non => true
  | _ => false
def isD (a b : D) : Res D := match b with
  | .non => .ok (.bl (isNonD a))
  | _ => .st
def isntD (a b : D) : Res D := match b with
  | .non => .ok (.bl (!isNonD a))
  | _ => .st
theorem isNon_rep {H : Hp} {v : V} {d : D} (r : Rep K H v d) : decide (v = .non) = isNonD d := by
  cases r <;> simp [isNonD]
instance opX_is : OpX K rIsN isD where
  ok := fun {H v u d e Q z} rv ru h k => by
    unfold isD at h
    split at h
    · cases h
      cases ru
      exact ⟨rfl, by rw [isNon_rep rv]; exact k _ fun S => .bl _⟩
    · cases h
  ex := fun h => by unfold isD at h; split at h <;> cases h
instance opX_isnt : OpX K rNotN isntD where
  ok := fun {H v u d e Q z} rv ru h k => by
    unfold isntD at h
    split at h
    · cases h
      cases ru
      exact ⟨rfl, by rw [isNon_rep rv]; exact k _ fun S => .bl _⟩
    · cases h
  ex := fun h => by unfold isntD at h; split at h <;> cases h

/-! ### numbers, and what is put together -/
def big60 : Int := 10 ^ 60
def subD : D → D → Res D
  | .int a, .int b => .ok (.int (a - b))
  | _, _ => .st
def modD : D → D → Res D
  | .int a, .int b => if 0 < b then .ok (.int (a % b)) else .st
  | _, _ => .st
def fdivD : D → D → Res D
  | .int a, .int b => if 0 < b ∧ b < big60 then .ok (.int (a / b)) else .st
  | _, _ => .st
def powD : D → D → Res D
  | .int a, .int b => if 0 ≤ b ∧ b ≤ 1000000 ∧ -(2 ^ 64) < a ∧ a < 2 ^ 64 then .ok (.int (a ^ b.toNat)) else .st
  | _, _ => .st
def rSubI : R2 := rI0 fun i j => .int (i - j)
def rModI : R2 := rI (fun _ j => 0 < j) fun i j => .int (i % j)
def rFdivI : R2 := rI CDivW fun i j => .int (i / j)
def rPowI : R2 := rI CPow fun i j => .int (i ^ j.toNat)
theorem op_subI {X : Cx} : OpR X (binaryOp .Sub) rSubI := op_sub
theorem op_modI {X : Cx} : OpR X (binaryOp .Mod) rModI := op_mod
theorem op_fdivI {X : Cx} : OpR X (binaryOp .FloorDiv) rFdivI := op_fdivW
theorem op_powI {X : Cx} : OpR X (binaryOp .Pow) rPowI := op_pow
instance opX_sub : OpX K rSubI subD where
  ok := fun {H v u d e Q z} rv ru h k => by
    unfold subD at h
    split at h <;> first | cases h | skip
    cases rv; cases ru; exact ⟨_, _, rfl, rfl, k _ fun S => .int _⟩
  ex := fun h => by unfold subD at h; split at h <;> cases h
instance opX_mod : OpX K rModI modD where
  ok := fun {H v u d e Q z} rv ru h k => by
    unfold modD at h
    split at h <;> first | cases h | skip
    split at h
    · rename_i hc
      cases h; cases rv; cases ru; exact ⟨_, _, rfl, rfl, hc, k _ fun S => .int _⟩
    · cases h
  ex := fun h => by unfold modD at h; split at h <;> first | (split at h <;> cases h) | cases h
theorem fdiv_wide {j : Int} (h : 0 < j ∧ j < big60) : CDivW i j := by
  refine wide_div (b := 200) h.1 ?_ (by decide) (by decide)
  have h2 : j < 2 ^ 200 := Int.lt_trans h.2 (by decide +kernel)
  have : (j.natAbs : Int) < ((2 ^ 200 : Nat) : Int) := by
    rw [Int.natAbs_of_nonneg (Int.le_of_lt h.1)]
    exact_mod_cast h2
  exact_mod_cast this
instance opX_fdiv : OpX K rFdivI fdivD where
  ok := fun {H v u d e Q z} rv ru h k => by
    unfold fdivD at h
    split at h <;> first | cases h | skip
    split at h
    · rename_i hc
      cases h; cases rv; cases ru; exact ⟨_, _, rfl, rfl, fdiv_wide hc, k _ fun S => .int _⟩
    · cases h
  ex := fun h => by unfold fdivD at h; split at h <;> first | (split at h <;> cases h) | cases h
instance opX_pow : OpX K rPowI powD where
  ok := fun {H v u d e Q z} rv ru h k => by
    unfold powD at h
    split at h <;> first | cases h | skip
    split at h
    · rename_i hc
      cases h; cases rv; cases ru; exact ⟨_, _, rfl, rfl, ⟨hc.1, hc.2.1, by omega⟩, k _ fun S => .int _⟩
    · cases h
  ex := fun h => by unfold powD at h; split at h <;> first | (split at h <;> cases h) | cases h
def negD : D → Res D
  | .int a => .ok (.int (-a))
  | _ => .st
def addD : D → D → Res W
  | .int a, .int b => .ok (.sh (.int (a + b)))
  | .str a, .str b => if small (a.length + b.length) then .ok (.sh (.str (a ++ b))) else .st
  | .lst a, .lst b => if small (a.length + b.length) then .ok (.lst (a ++ b)) else .st
  | .tup a, .tup b => if small (a.length + b.length) && !a.isEmpty && !b.isEmpty then .ok (.sh (.tup (a ++ b))) else .st
  | _, _ => .st
def rAddS : R2 := fun x y H Q => ∃ i j, x = .str i ∧ y = .str j ∧ i.length + j.length ≤ sizeLine ∧ Q (.str (i ++ j)) H
def rAddU (K : PySem.W.Frag) : R2 := fun x y H Q => rI0 (fun i j => .int (i + j)) x y H Q ∨ rAddS x y H Q ∨ rCat x y H Q ∨ rCatT K x y H Q
theorem op_addU {X : Cx} : OpR X (binaryOp .Add) (rAddU X.K) := OpR.or op_add (OpR.or op_add_str (OpR.or op_cat op_catT))
theorem small_le {n : Nat} (h : small n = true) : n ≤ sizeLine := Nat.le_of_lt (small_line h)
instance opV_add : OpV K (rAddU K) addD where
  ok := fun {S H v u d e Q w} hs rv ru h k => by
    unfold addD at h
    split at h <;> first | cases h | skip
    · cases rv.int_inv; cases ru.int_inv
      exact .inl ⟨_, _, rfl, rfl, k _ S H [] (.sh (.refl hs) (.int _))⟩
    · split at h <;> first | cases h | skip
      rename_i hz
      cases rv.str_inv; cases ru.str_inv
      exact .inr (.inl ⟨_, _, rfl, rfl, small_le hz, k _ S H [] (.sh (.refl hs) (.str _))⟩)
    · split at h <;> first | cases h | skip
      rename_i a b hz
      obtain ⟨p, vs, rfl, hp, r1⟩ := rv.lst_inv hs
      obtain ⟨q, us, rfl, hq, r2⟩ := ru.lst_inv hs
      exact .inr (.inr (.inl ⟨_, _, _, _, rfl, rfl, hp, hq, by rw [r1.len, r2.len]; exact small_le hz, fun l hl => k _ S _ _ (.lst (.refl hs) (hs.free hl) hl (r1.app r2))⟩))
    · split at h <;> first | cases h | skip
      rename_i a b hz
      simp only [Bool.and_eq_true, Bool.not_eq_true', List.isEmpty_eq_false_iff] at hz
      obtain ⟨p, vs, rfl, hp, r1⟩ := rv.tup_inv
      obtain ⟨q, us, rfl, hq, r2⟩ := ru.tup_inv
      have n1 : vs ≠ [] := fun z => by subst z; cases r1; exact hz.1.2 rfl
      have n2 : us ≠ [] := fun z => by subst z; cases r2; exact hz.2 rfl
      exact .inr (.inr (.inr ⟨_, _, _, _, rfl, rfl, SqT.of (hs _ _ hp), SqT.of (hs _ _ hq), n1, by rw [r1.len, r2.len]; exact small_le hz.1.1, fun z => (n2 z).elim, fun _ l hl => k _ _ _ _ (.tup (.refl hs) hl (r1.app r2))⟩))
  ex := fun h => by
    unfold addD at h
    split at h <;> first | (split at h <;> cases h) | cases h
def mulD : D → D → Res W
  | .int a, .int b => if (-(2 ^ 64) < a ∧ a < 2 ^ 64) ∨ (-(2 ^ 64) < b ∧ b < 2 ^ 64) then .ok (.sh (.int (a * b))) else .st
  | .lst a, .int k => if small (a.length * k.toNat) && decide (-1000000 ≤ k) && decide (k ≤ 1000000) then .ok (.lst (List.replicate k.toNat a).flatten) else .st
  | .str a, .int k => if decide (0 ≤ k) && decide (k ≤ 1000) && decide (a.length ≤ 1000) then .ok (.sh (.str ⟨(List.replicate k.toNat a.cps.toList).flatten.toArray⟩)) else .st
  | _, _ => .st
theorem Reps.flat {S : Hp} {vs : List V} {ds : List D} (r : Reps K S vs ds) : ∀ n : Nat, Reps K S (List.replicate n vs).flatten (List.replicate n ds).flatten
  | 0 => .nil
  | n + 1 => by
    rw [List.replicate_succ, List.replicate_succ, List.flatten_cons, List.flatten_cons]
    exact r.app (Reps.flat r n)
end
end Ly

set_option Elab.async false
set_option linter.all false
set_option maxRecDepth 100000
namespace Ly
open PySem L2

theorem foldl_app (xs : List (Array Nat)) : ∀ acc : Array Nat, (xs.foldl (· ++ ·) acc).toList = acc.toList ++ (xs.map Array.toList).flatten := by
  induction xs with
  | nil => intro acc; simp
  | cons a xs ih => intro acc; rw [List.foldl_cons, ih]; simp
theorem rep_str (x : Str) (n : Nat) : (⟨(List.replicate n x.cps).foldl (· ++ ·) #[]⟩ : Str) = ⟨(List.replicate n x.cps.toList).flatten.toArray⟩ := by
  congr 1
  apply Array.ext'
  rw [foldl_app]
  simp
def rMulS : R2 := fun x y H Q => ∃ z k, x = .str z ∧ y = .int k ∧ 0 ≤ k ∧ k ≤ 1000 ∧ z.length ≤ 1000 ∧ Q (.str ⟨(List.replicate k.toNat z.cps.toList).flatten.toArray⟩) H
theorem op_mulS {X : Cx} : OpR X (binaryOp .Mult) rMulS := by
  intro pins s σ H x y v u Q I rx ry h
  obtain ⟨z, k, rfl, rfl, h0, h1, hz, q⟩ := h
  obtain ⟨t, rfl⟩ := rx
  obtain ⟨t', rfl⟩ := ry
  have hl : z.length * k.toNat ≤ 1000000 := Nat.mul_le_mul hz (by omega : k.toNat ≤ 1000)
  refine PySem.P.mul_str ?_ ?_ ?_ ?_
  · rw [decide_eq_false (by omega), decide_eq_false (by omega)]; rfl
  · intro hk _ hh
    have e1 : (k - 1000) * ((2 ^ 63 - 1) / k) ≤ 0 := Int.mul_nonpos_of_nonpos_of_nonneg (by omega) (Int.ediv_nonneg (by decide) (by omega))
    have e2 := Int.emod_add_mul_ediv (2 ^ 63 - 1) k
    have e3 := Int.emod_lt_of_pos (2 ^ 63 - 1) (by omega : 0 < k)
    rw [Int.sub_mul] at e1
    omega
  · intro _ _
    unfold Builtin.Str.tooLong
    have : sizeLine = 16777216 := sizeLine_eq
    exact decide_eq_false (by omega)
  · split
    · rename_i hk
      have : k = 0 := by omega
      subst this
      exact ⟨by decide, .str _, H, I.tok _, ⟨_, rfl⟩, q⟩
    · split
      · rename_i h2
        simp only [Bool.or_eq_true, beq_iff_eq] at h2
        have e : (⟨(List.replicate k.toNat z.cps.toList).flatten.toArray⟩ : Str) = z := by
          rcases h2 with h2 | h2
          · subst h2
            have : (1 : Int).toNat = 1 := rfl
            rw [this]
            simp
          · have : z.cps = #[] := Array.eq_empty_of_size_eq_zero h2
            obtain ⟨c⟩ := z
            have : c = #[] := this
            subst this
            simp
        rw [e] at q
        exact ⟨.str _, H, I, ⟨_, rfl⟩, q⟩
      · rw [rep_str]
        refine ⟨?_, .str _, H, I.tok _, ⟨_, rfl⟩, q⟩
        show (List.replicate k.toNat z.cps.toList).flatten.toArray.size ≤ sizeLine
        have : sizeLine = 16777216 := sizeLine_eq
        have : (List.replicate k.toNat z.cps.toList).flatten.toArray.size = z.length * k.toNat := by
          simp [List.length_flatten, Str.length, Nat.mul_comm]
        omega

def rMulU (K : PySem.W.Frag) : R2 := fun x y H Q => rI CMul (fun i j => .int (i * j)) x y H Q ∨ rRep x y H Q ∨ rMulS x y H Q
theorem op_mulU {X : Cx} : OpR X (binaryOp .Mult) (rMulU X.K) := OpR.or op_mul (OpR.or op_rep op_mulS)
section
variable {K : PySem.W.Frag}
instance opV_mul : OpV K (rMulU K) mulD where
  ok := fun {S H v u d e Q w} hs rv ru h k => by
    unfold mulD at h
    split at h <;> first | cases h | skip
    · split at h <;> first | cases h | skip
      rename_i hc
      cases rv.int_inv; cases ru.int_inv
      exact .inl ⟨_, _, rfl, rfl, hc, k _ S H [] (.sh (.refl hs) (.int _))⟩
    · split at h <;> first | cases h | skip
      rename_i a z hz
      simp only [Bool.and_eq_true, decide_eq_true_eq] at hz
      obtain ⟨p, vs, rfl, hp, r1⟩ := rv.lst_inv hs
      cases ru.int_inv
      exact .inr (.inl ⟨_, _, _, rfl, rfl, hp, by omega, by omega, by rw [r1.len]; exact small_le hz.1.1, fun l hl => k _ S _ _ (.lst (.refl hs) (hs.free hl) hl (r1.flat _))⟩)
    · split at h <;> first | cases h | skip
      rename_i hz
      simp only [Bool.and_eq_true, decide_eq_true_eq] at hz
      cases rv.str_inv; cases ru.int_inv
      exact .inr (.inr ⟨_, _, rfl, rfl, hz.1.1, hz.1.2, hz.2, k _ S H [] (.sh (.refl hs) (.str _))⟩)
  ex := fun h => by
    unfold mulD at h
    split at h <;> first | (split at h <;> cases h) | cases h

/-! ### in -/
def flatD : D → Bool
  | .non => true | .bl _ => true | .int _ => true | .str _ => true
  | _ => false
/-- == of flat data -/
def eqF : D → D → Bool
  | .non, .non => true
  | .bl a, .bl b => a == b
  | .bl a, .int b => (if a then 1 else 0) == b
  | .int a, .bl b => a == (if b then 1 else 0)
  | .int a, .int b => a == b
  | .str a, .str b => a == b
  | _, _ => false
theorem flat_rep {S : Hp} {v : V} {d : D} (r : Rep K S v d) (h : flatD d = true) : flatV v = true := by
  cases r <;> first | rfl | cases h
theorem eqF_rep {S T : Hp} {v u : V} {d e : D} (r : Rep K S v d) (q : Rep K T u e) (h : flatD d = true) (h' : flatD e = true) : eqV v u = eqF d e := by
  cases r <;> first | cases h | skip
  all_goals (cases q <;> first | rfl | cases h')
theorem flats_rep {S : Hp} : ∀ {vs : List V} {ds : List D}, Reps K S vs ds → ds.all flatD = true → vs.all flatV = true
  | _, _, .nil, _ => rfl
  | _, _, .cons r t, h => by
    rw [List.all_cons, Bool.and_eq_true] at h ⊢
    exact ⟨flat_rep r h.1, flats_rep t h.2⟩
theorem any_rep {S T : Hp} {x : V} {d : D} (rx : Rep K T x d) (hx : flatD d = true) : ∀ {vs : List V} {ds : List D}, Reps K S vs ds → ds.all flatD = true → inV x vs = ds.any fun y => eqF y d
  | _, _, .nil, _ => rfl
  | _, _, .cons r t, h => by
    rw [List.all_cons, Bool.and_eq_true] at h
    unfold inV
    rw [List.any_cons, List.any_cons, eqF_rep r rx h.1 hx]
    congr 1
    exact any_rep rx hx t h.2
def toK : D → Option Key
  | .int i => some (.inl i)
  | .str x => some (.inr x)
  | _ => none
def toKs : List D → Option (List Key)
  | [] => some []
  | d :: ds => (toK d).bind fun k => (toKs ds).map fun ks => k :: ks
theorem toK_rep {S : Hp} {v : V} {d : D} {k : Key} (r : Rep K S v d) (h : toK d = some k) : v = kV k := by
  cases r <;> cases h <;> rfl
theorem toKs_rep {S : Hp} : ∀ {vs : List V} {ds : List D} {ks : List Key}, Reps K S vs ds → toKs ds = some ks → vs = ks.map kV
  | _, _, _, .nil, h => by cases h; rfl
  | _, _, _, .cons r t, h => by
    unfold toKs at h
    obtain ⟨k, h1, h⟩ := Option.bind_eq_some_iff.mp h
    obtain ⟨ks, h2, rfl⟩ := Option.map_eq_some_iff.mp h
    rw [toK_rep r h1, toKs_rep t h2]
    rfl
def dlook {κ : Type} [DecidableEq κ] (ks : List κ) (xs : List D) (k : κ) : Option D := ((ks.zip xs).find? fun p => decide (p.1 = k)).map (·.2)
theorem dlook_rep {κ : Type} [DecidableEq κ] {S : Hp} {k : κ} : ∀ {ks : List κ} {vs : List V} {xs : List D}, Reps K S vs xs → (valV (ks.zip vs) k = none ∧ dlook ks xs k = none) ∨ ∃ v d, valV (ks.zip vs) k = some v ∧ dlook ks xs k = some d ∧ Rep K S v d
  | [], vs, xs, _ => .inl ⟨by simp [valV], by simp [dlook]⟩
  | c :: ks, _, _, .nil => .inl ⟨by simp [valV], by simp [dlook]⟩
  | c :: ks, _, _, .cons (v := v) (d := d) r t => by
    by_cases e : c = k
    · exact .inr ⟨v, d, by simp [valV, e], by simp [dlook, e], r⟩
    · rcases dlook_rep (k := k) (ks := ks) t with ⟨h1, h2⟩ | ⟨v', d', h1, h2, h3⟩
      · refine .inl ⟨?_, ?_⟩
        · rw [← h1]; simp [valV, e]
        · rw [← h2]; simp [dlook, e]
      · refine .inr ⟨v', d', ?_, ?_, h3⟩
        · rw [← h1]; simp [valV, e]
        · rw [← h2]; simp [dlook, e]
/-- the items of what is a sequence -/
def seqD : D → Option (List D)
  | .lst xs => some xs
  | .tup xs => some xs
  | .ktup xs => some xs
  | .scr ns => some (ns.map D.int)
  | _ => none
theorem seqD_rep {H : Hp} {v : V} {d : D} {xs : List D} (r : Rep K H v d) (h : seqD d = some xs) : ∃ p vs, v = .ref p ∧ (SqL K H p vs ∨ SqT K H p vs) ∧ Reps K H vs xs := by
  cases r with
  | lst e q => cases h; exact ⟨_, _, rfl, .inl (SqL.of e), q⟩
  | tup e q => cases h; exact ⟨_, _, rfl, .inr (SqT.of e), q⟩
  | ktup e q => cases h; exact ⟨_, _, rfl, .inr e, q⟩
  | scr e => cases h; exact ⟨_, _, rfl, .inl e, Reps.ints _⟩
  | _ => cases h
def inD (x y : D) : Res Bool := match y with
  | .str z => match x with
    | .str a => match a.cps.toList with
      | [c] => .ok (decide (c ∈ z.cps.toList))
      | _ => .st
    | _ => .st
  | .dic ks xs => match toK x with
    | some k => .ok (dlook ks xs k).isSome
    | none => .st
  | .dit ks xs => match x with
    | .tup ds => match toKs ds with
      | some k => .ok (dlook ks xs k).isSome
      | none => .st
    | _ => .st
  | y => match seqD y with
    | some ds => if flatD x && ds.all flatD then .ok (ds.any fun y => eqF y x) else match y with
      | .lst ds => if SeqAt.shaped (toP x) && SeqAt.shaped (.list (toPs ds)) then .ok ((toPs ds).any fun z => PyData.eqv z (toP x)) else .st
      | _ => .st
    | none => .st
def rDIn (neg : Bool) : R2 := fun y x H Q => ∃ a o, x = .ref a ∧ DGet H a y o ∧ Q (.bl (if neg then !o.isSome else o.isSome)) H
theorem op_dIn {X : Cx} (hu : X.A.units + 1 < cLine) : OpR X (compareOp .In) (rDIn false) := by
  intro pins s σ H x y v u Q I rx ry h
  obtain ⟨a, o, rfl, g, q⟩ := h
  cases ry
  exact d_in hu I g rx fun s' I' => ⟨.bl _, H, I', rfl, q⟩
theorem op_dNotIn {X : Cx} (hu : X.A.units + 1 < cLine) : OpR X (compareOp .NotIn) (rDIn true) := by
  intro pins s σ H x y v u Q I rx ry h
  obtain ⟨a, o, rfl, g, q⟩ := h
  cases ry
  exact d_notIn hu I g rx fun s' I' => ⟨.bl _, H, I', rfl, q⟩
def rInU (K : PySem.W.Frag) : R2 := fun x y H Q => rInS x y H Q ∨ rDIn false x y H Q ∨ rIn K false x y H Q ∨ rInD K x y H Q
def rNotInU (K : PySem.W.Frag) : R2 := fun x y H Q => rNotInS x y H Q ∨ rDIn true x y H Q ∨ rIn K true x y H Q ∨ rNotInD K x y H Q
theorem op_inU {X : Cx} (hu : X.A.units + 65 < cLine) : OpR X (compareOp .In) (rInU X.K) := OpR.or op_inS (OpR.or (op_dIn (by omega)) (OpR.or op_in_seq (op_inD hu)))
theorem op_notInU {X : Cx} (hu : X.A.units + 65 < cLine) : OpR X (compareOp .NotIn) (rNotInU X.K) := OpR.or op_notInS (OpR.or (op_dNotIn (by omega)) (OpR.or op_notIn_seq (op_notInD hu)))
theorem inD_ok {H : Hp} {x y : V} {d e : D} {b : Bool} (rx : Rep K H x d) (ry : Rep K H y e) (h : inD d e = .ok b) :
    (∃ (c : Nat) (z : Str), x = .str ⟨#[c]⟩ ∧ y = .str z ∧ b = decide (c ∈ z.cps.toList)) ∨ (∃ a o, y = .ref a ∧ DGet H a x o ∧ b = o.isSome) ∨
    (∃ p xs, y = .ref p ∧ (SqL K H p xs ∨ SqT K H p xs) ∧ flatV x = true ∧ xs.all flatV = true ∧ b = inV x xs) ∨
    ∃ d ds, Dp K H x d ∧ Dp K H y (.list ds) ∧ SeqAt.shaped d = true ∧ SeqAt.shaped (.list ds) = true ∧ b = ds.any fun z => PyData.eqv z d := by
  unfold inD at h
  split at h
  · rename_i z
    split at h <;> first | cases h | skip
    rename_i a
    split at h <;> first | cases h | skip
    rename_i c hc
    cases rx; cases ry
    refine .inl ⟨c, z, ?_, rfl, rfl⟩
    obtain ⟨⟨l⟩⟩ := a
    simp only at hc
    subst hc
    rfl
  · rename_i ks xs
    split at h <;> first | cases h | skip
    rename_i k hk
    cases ry with
    | dic e l q =>
      refine .inr (.inl ⟨_, _, rfl, .inl ⟨_, k, e, toK_rep rx hk, rfl⟩, ?_⟩)
      rcases dlook_rep (k := k) (ks := ks) q with ⟨h1, h2⟩ | ⟨v', d', h1, h2, _⟩
      · rw [h1, h2]; rfl
      · rw [h1, h2]; rfl
  · rename_i ks xs
    split at h <;> first | cases h | skip
    rename_i ds
    split at h <;> first | cases h | skip
    rename_i k hk
    cases ry with
    | dit e l q =>
      cases rx with
      | tup e2 q2 =>
        refine .inr (.inl ⟨_, _, rfl, .inr ⟨_, k, _, e, rfl, by rw [e2, toKs_rep q2 hk], rfl⟩, ?_⟩)
        rcases dlook_rep (k := k) (ks := ks) q with ⟨h1, h2⟩ | ⟨v', d', h1, h2, _⟩
        · rw [h1, h2]; rfl
        · rw [h1, h2]; rfl
  · split at h
    · rename_i ds hs
      split at h
      · rename_i hf
        cases h
        simp only [Bool.and_eq_true] at hf
        obtain ⟨p, vs, rfl, hq, r⟩ := seqD_rep ry hs
        exact .inr (.inr (.inl ⟨p, vs, rfl, hq, flat_rep rx hf.1, flats_rep r hf.2, (any_rep rx hf.1 r hf.2).symm⟩))
      · split at h
        · rename_i ds' _ _ _
          split at h
          · rename_i hsh
            cases h
            simp only [Bool.and_eq_true] at hsh
            have : toP (.lst ds') = .list (toPs ds') := by unfold toP; rfl
            exact .inr (.inr (.inr ⟨_, _, rx.dpS hsh.1, by rw [← this]; exact ry.dpS (by rw [this]; exact hsh.2), hsh.1, hsh.2, rfl⟩))
          · cases h
        · cases h
    · cases h
theorem inD_ex {d e : D} {x : Xc} (h : inD d e = .ex x) : False := by
  unfold inD at h
  repeat' split at h
  all_goals cases h
def inB (a b : D) : Res D := (inD a b).map .bl
def notInB (a b : D) : Res D := (inD a b).map fun t => .bl (!t)
instance opX_in : OpX K (rInU K) inB where
  ok := fun {H v u d e Q z} rv ru h k => by
    obtain ⟨t, h1, rfl⟩ := Res.of_okm h
    rcases inD_ok rv ru h1 with ⟨c, z, rfl, rfl, e⟩ | ⟨a, o, rfl, g, e⟩ | ⟨p, xs, rfl, hq, f1, f2, e⟩ | ⟨d, ds, h1, h2, s1, s2, e⟩
    · exact .inl ⟨c, z, rfl, rfl, by rw [← e]; exact k _ fun S => .bl _⟩
    · exact .inr (.inl ⟨a, o, rfl, g, by rw [if_neg Bool.false_ne_true, ← e]; exact k _ fun S => .bl _⟩)
    · exact .inr (.inr (.inl ⟨p, xs, rfl, hq, f1, f2, by rw [if_neg Bool.false_ne_true, ← e]; exact k _ fun S => .bl _⟩))
    · exact .inr (.inr (.inr ⟨d, ds, h1, h2, s1, s2, by rw [← e]; exact k _ fun S => .bl _⟩))
  ex := fun h => inD_ex (Res.of_exm h)
instance opX_notIn : OpX K (rNotInU K) notInB where
  ok := fun {H v u d e Q z} rv ru h k => by
    obtain ⟨t, h1, rfl⟩ := Res.of_okm h
    rcases inD_ok rv ru h1 with ⟨c, z, rfl, rfl, e⟩ | ⟨a, o, rfl, g, e⟩ | ⟨p, xs, rfl, hq, f1, f2, e⟩ | ⟨d, ds, h1, h2, s1, s2, e⟩
    · exact .inl ⟨c, z, rfl, rfl, by rw [← e]; exact k _ fun S => .bl _⟩
    · exact .inr (.inl ⟨a, o, rfl, g, by rw [if_pos rfl, ← e]; exact k _ fun S => .bl _⟩)
    · exact .inr (.inr (.inl ⟨p, xs, rfl, hq, f1, f2, by rw [if_pos rfl, ← e]; exact k _ fun S => .bl _⟩))
    · exact .inr (.inr (.inr ⟨d, ds, h1, h2, s1, s2, by rw [← e]; exact k _ fun S => .bl _⟩))
  ex := fun h => inD_ex (Res.of_exm h)

/-! ### a < b < c -/
variable {E : XK} {ta tb tc : TE} {Fa Fb Fc : List Nat} {ma mb mc : En → Res D}
def mChain (f g : D → D → Res D) (ma mb mc : En → Res D) : En → Res W := fun e => (ma e).bind fun a => (mb e).bind fun b => (f a b).bind fun t => match t with
  | .bl true => (mc e).bind fun c => (g b c).map .sh
  | .bl false => .ok (.sh (.bl false))
  | _ => .st
instance semE_chain {r r' : R2} {f g : D → D → Res D} [ho : OpX K r f] [ho' : OpX K r' g] [ha : SemX K E ta Fa ma] [hb : SemX K E tb Fb mb] [hc : SemX K E tc Fc mc] : SemE K E (tChain r r' ta tb tc) (Fa ++ Fb ++ Fc) (mChain f g ma mb mc) where
  ok := fun {env σ S H Q w} x e k => by
    obtain ⟨a, e1, e⟩ := Res.of_ok e
    obtain ⟨b, e2, e⟩ := Res.of_ok e
    obtain ⟨t, e3, e⟩ := Res.of_ok e
    refine ha.ok x e1 fun v H1 g1 r1 => ?_
    have y1 := Gr.hp x.sub g1
    refine hb.ok (x.gr y1) e2 fun u H2 g2 r2 => ?_
    have y2 := y1.trans (Gr.hp y1.sub g2)
    refine ho.ok (r1.up g2) r2 e3 fun z hz => ?_
    split at e
    · obtain ⟨c, e4, e⟩ := Res.of_ok e
      obtain ⟨z2, e5, rfl⟩ := Res.of_okm e
      cases hz H2
      refine ⟨true, rfl, iteT ?_⟩
      refine hc.ok (x.gr y2) e4 fun w' H3 g3 r3 => ?_
      exact ho'.ok (r2.up g3) r3 e5 fun y h => k y S H3 [] (.sh (y2.trans (.hp y2.sub g3)) (h S))
    · cases e
      cases hz H2
      exact ⟨false, rfl, iteF (k _ S H2 [] (.sh y2 (.bl false)))⟩
    · cases e
  ex := fun {env σ S H Q w} x e k => by
    rcases Res.of_ex e with e1 | ⟨a, e1, e⟩
    · exact ha.ex x e1 k
    refine ha.ok x e1 fun v H1 g1 r1 => ?_
    have y1 := Gr.hp x.sub g1
    rcases Res.of_ex e with e2 | ⟨b, e2, e⟩
    · exact hb.ex (x.gr y1) e2 fun c d H' s q => k c d H' (g1.trans s) q
    refine hb.ok (x.gr y1) e2 fun u H2 g2 r2 => ?_
    have y2 := y1.trans (Gr.hp y1.sub g2)
    rcases Res.of_ex e with e3 | ⟨t, e3, e⟩
    · exact (ho.ex e3).elim
    refine ho.ok (r1.up g2) r2 e3 fun z hz => ?_
    split at e
    · cases hz H2
      refine ⟨true, rfl, iteT ?_⟩
      rcases Res.of_ex e with e4 | ⟨c, e4, e⟩
      · exact hc.ex (x.gr y2) e4 fun c d H' s q => k c d H' (y2.hh.trans s) q
      · exact (ho'.ex (Res.of_exm e)).elim
    · cases e
    · cases e
end
end Ly

set_option Elab.async false
set_option linter.all false
set_option maxRecDepth 100000
namespace Ly
open PySem L2 PyProof.Rows

/-! ### subscripts -/
section
variable {K : PySem.W.Frag}
theorem ixN_get {n : Nat} {i : Int} {j : Nat} (h : ixN n i = some j) : j < n := by
  unfold ixN at h
  split at h
  · split at h
    · cases h; omega
    · cases h
  · split at h
    · cases h; omega
    · cases h
theorem atI_rep {S : Hp} {vs : List V} {ds : List D} {i : Int} {d : D} (r : Reps K S vs ds) (h : atI ds i = some d) : ∃ v, atI vs i = some v ∧ Rep K S v d := by
  unfold atI at h ⊢
  rw [r.len]
  obtain ⟨j, h1, h2⟩ := Option.bind_eq_some_iff.mp h
  obtain ⟨v, h3, h4⟩ := r.get h2
  exact ⟨v, by rw [h1]; exact h3, h4⟩
def ixD (a b : D) : Res W := match a, b with
  | .lst xs, .int i => match atI xs i with
    | some d => .ok (.sh d)
    | none => .st
  | .tup xs, .int i => match atI xs i with
    | some d => .ok (.sh d)
    | none => .st
  | .ktup xs, .int i => match atI xs i with
    | some d => .ok (.sh d)
    | none => .st
  | .scr ns, .int i => match atI ns i with
    | some n => .ok (.sh (.int n))
    | none => .st
  | .str z, .int i => if small z.length then match atI z.cps.toList i with
    | some c => .ok (.sh (.str ⟨#[c]⟩))
    | none => .st
    else .st
  | .dic ks xs, k => match toK k with
    | some k => match dlook ks xs k with
      | some d => .ok (.sh d)
      | none => .st
    | none => .st
  | .dit ks xs, .tup k => match toKs k with
    | some k => match dlook ks xs k with
      | some d => .ok (.sh d)
      | none => .st
    | none => .st
  | _, _ => .st
def rIxD : R2 := fun x y H Q => ∃ a v, x = .ref a ∧ DGet H a y (some v) ∧ Q v H
theorem ix_dict {X : Cx} (hu : X.A.units + 1 < cLine) : IxR X rIxD := by
  intro value slice pins s σ H x y v u Q I rx ry h hs
  obtain ⟨a, w, rfl, g, q⟩ := h
  cases rx
  exact tail_any (dict_typeIs I g) PySem.F.slot_dict_getitem.lookup (d_getItem hu I g ry fun w' s' I' r' => ⟨w, H, I', r', q⟩) hs
def rIxU (K : PySem.W.Frag) : R2 := fun x y H Q => rIx K x y H Q ∨ rIxD x y H Q
theorem ix_U {X : Cx} (hu : X.A.units + 1 < cLine) : IxR X (rIxU X.K) := IxR.or ix_seq (ix_dict hu)
theorem atI_map {α β : Type} (f : α → β) (xs : List α) (i : Int) : atI (xs.map f) i = (atI xs i).map f := by
  unfold atI
  rw [List.length_map]
  cases ixN xs.length i with
  | none => rfl
  | some j => simp
instance opV_ix : OpV K (rIxU K) ixD where
  ok := fun {S H v u d e Q w} hs rv ru h k => by
    unfold ixD at h
    split at h
    · split at h <;> first | cases h | skip
      rename_i xs i d hd
      obtain ⟨p, vs, rfl, hp, r⟩ := rv.lst_inv hs
      cases ru.int_inv
      obtain ⟨z, h1, h2⟩ := atI_rep r hd
      exact .inl (.inl ⟨_, _, _, _, rfl, rfl, SqL.of hp, h1, k _ S H [] (.sh (.refl hs) h2)⟩)
    · split at h <;> first | cases h | skip
      rename_i xs i d hd
      obtain ⟨p, vs, rfl, hp, r⟩ := rv.tup_inv
      cases ru.int_inv
      obtain ⟨z, h1, h2⟩ := atI_rep r hd
      exact .inl (.inr (.inl ⟨_, _, _, _, rfl, rfl, SqT.of (hs _ _ hp), h1, k _ S H [] (.sh (.refl hs) h2)⟩))
    · split at h <;> first | cases h | skip
      rename_i xs i d hd
      obtain ⟨p, vs, rfl, hp, r⟩ := rv.ktup_inv
      cases ru.int_inv
      obtain ⟨z, h1, h2⟩ := atI_rep r hd
      exact .inl (.inr (.inl ⟨_, _, _, _, rfl, rfl, sqT_up hs hp, h1, k _ S H [] (.sh (.refl hs) h2)⟩))
    · split at h <;> first | cases h | skip
      rename_i ns i n hd
      obtain ⟨p, rfl, hp⟩ := rv.scr_inv
      cases ru.int_inv
      exact .inl (.inl ⟨_, _, _, .int n, rfl, rfl, hs.seq hp, by rw [atI_map, hd]; rfl, k _ S H [] (.sh (.refl hs) (.int n))⟩)
    · split at h <;> first | cases h | skip
      rename_i z i hz
      split at h <;> first | cases h | skip
      rename_i c hc
      cases rv.str_inv; cases ru.int_inv
      exact .inl (.inr (.inr ⟨_, _, _, rfl, rfl, small_le hz, hc, k _ S H [] (.sh (.refl hs) (.str _))⟩))
    · rename_i ks xs
      split at h <;> first | cases h | skip
      rename_i key hk
      split at h <;> first | cases h | skip
      rename_i d hd
      obtain ⟨p, vs, rfl, hp, hl, r⟩ := rv.dic_inv hs
      rcases dlook_rep (k := key) (ks := ks) r with ⟨h1, h2⟩ | ⟨v', d', h1, h2, h3⟩
      · rw [hd] at h2; cases h2
      · rw [hd] at h2; cases h2
        exact .inr ⟨_, v', rfl, .inl ⟨_, key, hp, toK_rep (ru.toX hs) hk, h1.symm⟩, k _ S H [] (.sh (.refl hs) h3)⟩
    · rename_i ks xs kk
      split at h <;> first | cases h | skip
      rename_i key hk
      split at h <;> first | cases h | skip
      rename_i d hd
      obtain ⟨p, vs, rfl, hp, hl, r⟩ := rv.dit_inv hs
      obtain ⟨q, us, rfl, hq, r2⟩ := ru.tup_inv
      rcases dlook_rep (k := key) (ks := ks) r with ⟨h1, h2⟩ | ⟨v', d', h1, h2, h3⟩
      · rw [hd] at h2; cases h2
      · rw [hd] at h2; cases h2
        exact .inr ⟨_, v', rfl, .inr ⟨_, key, _, hp, rfl, by rw [hs _ _ hq, toKs_rep r2 hk], h1.symm⟩, k _ S H [] (.sh (.refl hs) h3)⟩
    · cases h
  ex := fun h => by
    unfold ixD at h
    repeat' split at h
    all_goals cases h

/-! ### slices -/
class SemO (K : PySem.W.Frag) (E : XK) (t : TO) (F : outParam (List Nat)) (m : outParam (En → Res (Option Int))) : Prop where
  ok : ∀ {env σ S H Q o}, Vw K env σ S H → m env = .ok o → (∀ H', Same H H' → Q o H') → t σ H Q
  ex : ∀ {env σ S H Q x}, Vw K env σ S H → m env = .ex x → (∀ cls d H', Same H H' → XR K x cls d H' → E cls d H') → t σ H Q
def mNoPart : En → Res (Option Int) := fun _ => .ok none
def mPart (m : En → Res D) : En → Res (Option Int) := fun e => (m e).bind fun d => match d with
  | .int i => .ok (some i)
  | _ => .st
instance semO_none {E : XK} : SemO K E tNoPart [] mNoPart where
  ok := fun x e k => by cases e; exact k _ (Same.refl _)
  ex := fun x e k => by cases e
instance semO_some {E : XK} {ta : TE} {Fa : List Nat} {ma : En → Res D} [ha : SemX K E ta Fa ma] : SemO K E (tPart ta) Fa (mPart ma) where
  ok := fun {env σ S H Q o} x e k => by
    obtain ⟨d, e1, e2⟩ := Res.of_ok e
    split at e2
    · cases e2
      exact ha.ok x e1 fun v H' g r => by cases r; exact ⟨_, rfl, k H' g⟩
    · cases e2
  ex := fun {env σ S H Q o} x e k => by
    rcases Res.of_ex e with e1 | ⟨d, e1, e2⟩
    · exact ha.ex x e1 k
    · split at e2 <;> cases e2
def cutD {α : Type} (xs : List α) (lo hi : Option Int) : List α := (xs.drop (HT.sIx xs.length 0 lo)).take (HT.sIx xs.length xs.length hi - HT.sIx xs.length 0 lo)
theorem cut_rep {S : Hp} {vs : List V} {ds : List D} (r : Reps K S vs ds) (lo hi : Option Int) : Reps K S (cutV vs lo hi) (cutD ds lo hi) := by
  unfold cutV cutD
  rw [r.len]
  exact (r.drop _).take _
theorem cut_map {α β : Type} (f : α → β) (xs : List α) (lo hi : Option Int) : cutD (xs.map f) lo hi = (cutD xs lo hi).map f := by
  unfold cutD
  rw [List.length_map, List.map_take, List.map_drop]
def slD (a : D) (lo hi : Option Int) : Res W := match a with
  | .lst xs => .ok (.lst (cutD xs lo hi))
  | .scr ns => .ok (.lst ((cutD ns lo hi).map D.int))
  | .tup xs => if HT.sIx xs.length 0 lo = 0 ∧ HT.sIx xs.length xs.length hi = xs.length then .st else .ok (.sh (.tup (cutD xs lo hi)))
  | .str z => if small z.length then .ok (.sh (.str (cutS z lo hi))) else .st
  | _ => .st
def rSlU (K : PySem.W.Frag) : V → Option Int → Option Int → Hp → VK → Prop := fun x lo hi H Q => rSlL K x lo hi H Q ∨ rSlT K x lo hi H Q ∨ rSlS x lo hi H Q
theorem sl_U {X : Cx} : SlR X (rSlU X.K) := SlR.or sl_list (SlR.or sl_tup sl_str)
def mSl (ma : En → Res D) (ml mh : En → Res (Option Int)) : En → Res W := fun e => (ma e).bind fun a => (ml e).bind fun l => (mh e).bind fun h => slD a l h
theorem slD_ok {S H : Hp} {v : V} {a : D} {lo hi : Option Int} {w : W} {Q : VK} (hs : Same S H) (rv : View K S H v a) (h : slD a lo hi = .ok w) (k : ∀ z S' H' fp, New K S H S' H' z w fp → Q z H') : rSlU K v lo hi H Q := by
  unfold slD at h
  split at h
  · cases h
    obtain ⟨p, vs, rfl, hp, r⟩ := rv.lst_inv hs
    exact .inl ⟨_, _, rfl, SqL.of hp, fun l hl => k _ S _ _ (.lst (.refl hs) (hs.free hl) hl (cut_rep r lo hi))⟩
  · cases h
    obtain ⟨p, rfl, hp⟩ := rv.scr_inv
    refine .inl ⟨_, _, rfl, hs.seq hp, fun l hl => k _ S _ _ (.lst (.refl hs) (hs.free hl) hl ?_)⟩
    rw [show cutV _ lo hi = cutD _ lo hi from rfl, cut_map]
    exact Reps.ints _
  · split at h <;> first | cases h | skip
    rename_i xs hn
    obtain ⟨p, vs, rfl, hp, r⟩ := rv.tup_inv
    exact .inr (.inl ⟨_, _, rfl, SqT.of (hs _ _ hp), by rw [r.len]; exact hn, fun l hl => k _ _ _ _ (.tup (.refl hs) hl (cut_rep r lo hi))⟩)
  · split at h <;> first | cases h | skip
    rename_i z hz
    cases rv.str_inv
    exact .inr (.inr ⟨_, rfl, small_le hz, k _ S H [] (.sh (.refl hs) (.str _))⟩)
  · cases h
theorem slD_ex {a : D} {lo hi : Option Int} {x : Xc} (h : slD a lo hi = .ex x) : False := by
  unfold slD at h
  repeat' split at h
  all_goals cases h
instance semE_sl {E : XK} {ta : TE} {tl th : TO} {Fa Fl Fh : List Nat} {ma : En → Res D} {ml mh : En → Res (Option Int)} [ha : SemV K E ta Fa ma] [hl : SemO K E tl Fl ml] [hh : SemO K E th Fh mh] : SemE K E (tSl (rSlU K) ta tl th) (Fa ++ Fl ++ Fh) (mSl ma ml mh) where
  ok := fun {env σ S H Q w} x e k => by
    obtain ⟨a, e1, e⟩ := Res.of_ok e
    obtain ⟨l, e2, e⟩ := Res.of_ok e
    obtain ⟨h, e3, e⟩ := Res.of_ok e
    refine ha.ok x e1 fun v S1 H1 g1 r1 => ?_
    refine hl.ok (x.gr g1) e2 fun H2 g2 => ?_
    have y2 := Gr.hp g1.sub g2
    refine hh.ok ((x.gr g1).gr y2) e3 fun H3 g3 => ?_
    have y3 := y2.trans (.hp y2.sub g3)
    exact slD_ok y3.sub (r1.gr y3) e fun z S' H' fp n => k z S' H' fp (n.later (g1.trans y3))
  ex := fun {env σ S H Q w} x e k => by
    rcases Res.of_ex e with e1 | ⟨a, e1, e⟩
    · exact ha.ex x e1 k
    refine ha.ok x e1 fun v S1 H1 g1 r1 => ?_
    rcases Res.of_ex e with e2 | ⟨l, e2, e⟩
    · exact hl.ex (x.gr g1) e2 fun c d H' s q => k c d H' (g1.hh.trans s) q
    refine hl.ok (x.gr g1) e2 fun H2 g2 => ?_
    have y2 := Gr.hp g1.sub g2
    rcases Res.of_ex e with e3 | ⟨h, e3, e⟩
    · exact hh.ex ((x.gr g1).gr y2) e3 fun c d H' s q => k c d H' ((g1.hh.trans g2).trans s) q
    exact (slD_ex e).elim

/-! ### built-in calls -/
inductive Views (K : PySem.W.Frag) (S H : Hp) : List V → List D → Prop
  | nil : Views K S H [] []
  | cons {v : V} {vs : List V} {d : D} {ds : List D} : View K S H v d → Views K S H vs ds → Views K S H (v :: vs) (d :: ds)
theorem Views.gr {S H S' H' : Hp} (g : Gr S H S' H') : ∀ {vs : List V} {ds : List D}, Views K S H vs ds → Views K S' H' vs ds
  | _, _, .nil => .nil
  | _, _, .cons a b => .cons (a.gr g) (Views.gr g b)
class SemAV (K : PySem.W.Frag) (E : XK) (t : TA) (F : outParam (List Nat)) (m : outParam (En → Res (List D))) : Prop where
  ok : ∀ {env σ S H Q ds}, Vw K env σ S H → m env = .ok ds → (∀ vs S' H', Gr S H S' H' → Views K S' H' vs ds → Q vs H') → t σ H Q
  ex : ∀ {env σ S H Q x}, Vw K env σ S H → m env = .ex x → (∀ cls d H', Same H H' → XR K x cls d H' → E cls d H') → t σ H Q
instance semAV_nil {E : XK} : SemAV K E tNil [] mNil where
  ok := fun {env σ S H Q w} x e k => by cases e; exact k [] S H (.refl x.sub) .nil
  ex := fun x e k => by cases e
instance semAV_cons {E : XK} {ta : TE} {tr : TA} {Fa Fr : List Nat} {ma : En → Res D} {mr : En → Res (List D)} [ha : SemV K E ta Fa ma] [hr : SemAV K E tr Fr mr] : SemAV K E (tCons ta tr) (Fa ++ Fr) (mCons ma mr) where
  ok := fun {env σ S H Q w} x e k => by
    obtain ⟨d, e1, e2⟩ := Res.of_ok e
    obtain ⟨ds, e3, rfl⟩ := Res.of_okm e2
    refine ha.ok x e1 fun v S1 H1 g1 r1 => ?_
    exact hr.ok (x.gr g1) e3 fun vs S2 H2 g2 r2 => k _ S2 H2 (g1.trans g2) (.cons (r1.gr g2) r2)
  ex := fun {env σ S H Q w} x e k => by
    rcases Res.of_ex e with e1 | ⟨d, e1, e2⟩
    · exact ha.ex x e1 k
    · refine ha.ok x e1 fun v S1 H1 g1 r1 => ?_
      exact hr.ex (x.gr g1) (Res.of_exm e2) fun c d H' s q => k c d H' (g1.hh.trans s) q
class CalV (K : PySem.W.Frag) (r : List V → Hp → VK → Prop) (f : outParam (List D → Res W)) : Prop where
  ok : ∀ {S H vs ds Q w}, Same S H → Views K S H vs ds → f ds = .ok w → (∀ z S' H' fp, New K S H S' H' z w fp → Q z H') → r vs H Q
  ex : ∀ {ds x}, f ds = .ex x → False
def mCal (f : List D → Res W) (ma : En → Res (List D)) : En → Res W := fun e => (ma e).bind f
instance semE_cal {E : XK} {r : List V → Hp → VK → Prop} {f : List D → Res W} {t : TA} {Fa : List Nat} {ma : En → Res (List D)} [hf : CalV K r f] [ha : SemAV K E t Fa ma] : SemE K E (tCB r t) Fa (mCal f ma) where
  ok := fun {env σ S H Q w} x e k => by
    obtain ⟨ds, e1, e2⟩ := Res.of_ok e
    exact ha.ok x e1 fun vs S1 H1 g r => hf.ok g.sub r e2 fun z S' H' fp n => k z S' H' fp (n.later g)
  ex := fun {env σ S H Q w} x e k => by
    rcases Res.of_ex e with e1 | ⟨d, e1, e2⟩
    · exact ha.ex x e1 k
    · exact (hf.ex e2).elim
theorem CallR.or {X : Cx} {f : Value} {r r' : List V → Hp → VK → Prop} (h : CallR X f r) (h' : CallR X f r') : CallR X f (fun xs H Q => r xs H Q ∨ r' xs H Q) := by
  intro pins s σ H xs us Q I r q
  rcases q with q | q
  · exact h pins s σ H xs us Q I r q
  · exact h' pins s σ H xs us Q I r q
theorem views1 {S H : Hp} {vs : List V} {d : D} (r : Views K S H vs [d]) : ∃ v, vs = [v] ∧ View K S H v d := by
  cases r with
  | cons a b => cases b; exact ⟨_, rfl, a⟩
theorem views2 {S H : Hp} {vs : List V} {d e : D} (r : Views K S H vs [d, e]) : ∃ v u, vs = [v, u] ∧ View K S H v d ∧ View K S H u e := by
  cases r with
  | cons a b =>
    cases b with
    | cons c b => cases b; exact ⟨_, _, rfl, a, c⟩
/-! len -/
def rLen (K : PySem.W.Frag) : List V → Hp → VK → Prop := fun xs H Q => (∃ x n, xs = [x] ∧ LenV K x H n ∧ Q (.int n) H) ∨ ∃ a kvs, xs = [V.ref a] ∧ Rd H a (.dK kvs) ∧ Q (.int kvs.length) H
theorem call_lenRd {X : Cx} : CallR X (.builtin "len") (fun xs H Q => ∃ a kvs, xs = [V.ref a] ∧ Rd H a (.dK kvs) ∧ Q (.int kvs.length) H) := by
  intro pins s σ H xs us Q I r h
  obtain ⟨a, kvs, rfl, ha, q⟩ := h
  obtain ⟨u, rfl, ru⟩ := vals1 r
  cases ru
  exact d_len I ha fun t s' I' => ⟨.int kvs.length, H, I', ⟨t, rfl⟩, q⟩
theorem call_lenU {X : Cx} : CallR X (.builtin "len") (rLen X.K) := CallR.or call_len call_lenRd
def lenD : List D → Res W
  | [.str z] => if small z.length then .ok (.sh (.int z.length)) else .st
  | [.lst xs] => .ok (.sh (.int xs.length))
  | [.tup xs] => .ok (.sh (.int xs.length))
  | [.ktup xs] => .ok (.sh (.int xs.length))
  | [.scr xs] => .ok (.sh (.int xs.length))
  | [.dic ks xs] => .ok (.sh (.int ks.length))
  | _ => .st
instance calV_len : CalV K (rLen K) lenD where
  ok := fun {S H vs ds Q w} hs r h k => by
    unfold lenD at h
    split at h <;> first | cases h | skip
    · split at h <;> first | cases h | skip
      rename_i hz
      obtain ⟨v, rfl, r1⟩ := views1 r
      cases r1.str_inv
      exact .inl ⟨_, _, rfl, ⟨small_le hz, rfl⟩, k _ S H [] (.sh (.refl hs) (.int _))⟩
    · obtain ⟨v, rfl, r1⟩ := views1 r
      obtain ⟨p, us, rfl, hp, q⟩ := r1.lst_inv hs
      exact .inl ⟨_, _, rfl, .inl ⟨_, SqL.of hp, q.len.symm⟩, k _ S H [] (.sh (.refl hs) (.int _))⟩
    · obtain ⟨v, rfl, r1⟩ := views1 r
      obtain ⟨p, us, rfl, hp, q⟩ := r1.tup_inv
      exact .inl ⟨_, _, rfl, .inr ⟨_, SqT.of (hs _ _ hp), q.len.symm⟩, k _ S H [] (.sh (.refl hs) (.int _))⟩
    · obtain ⟨v, rfl, r1⟩ := views1 r
      obtain ⟨p, us, rfl, hp, q⟩ := r1.ktup_inv
      exact .inl ⟨_, _, rfl, .inr ⟨_, sqT_up hs hp, q.len.symm⟩, k _ S H [] (.sh (.refl hs) (.int _))⟩
    · obtain ⟨v, rfl, r1⟩ := views1 r
      obtain ⟨p, rfl, hp⟩ := r1.scr_inv
      exact .inl ⟨_, _, rfl, .inl ⟨_, hs.seq hp, (List.length_map ..).symm⟩, k _ S H [] (.sh (.refl hs) (.int _))⟩
    · obtain ⟨v, rfl, r1⟩ := views1 r
      rename_i ks xs
      obtain ⟨p, us, rfl, hp, hl, q⟩ := r1.dic_inv hs
      refine .inr ⟨_, _, rfl, hp, ?_⟩
      have : (ks.zip us).length = ks.length := by rw [List.length_zip, hl, Nat.min_self]
      rw [this]
      exact k _ S H [] (.sh (.refl hs) (.int _))
  ex := fun h => by
    unfold lenD at h
    repeat' split at h
    all_goals cases h
/-! abs, max, min of two -/
def rAbs : List V → Hp → VK → Prop := fun xs H Q => ∃ i, xs = [.int i] ∧ Q (.int (if i < 0 then -i else i)) H
theorem call_absU {X : Cx} : CallR X (.builtin "abs") rAbs := call_abs
def absD : List D → Res W
  | [.int i] => .ok (.sh (.int (if i < 0 then -i else i)))
  | _ => .st
instance calV_abs : CalV K rAbs absD where
  ok := fun {S H vs ds Q w} hs r h k => by
    unfold absD at h
    split at h <;> first | cases h | skip
    obtain ⟨v, rfl, r1⟩ := views1 r
    cases r1.int_inv
    exact ⟨_, rfl, k _ S H [] (.sh (.refl hs) (.int _))⟩
  ex := fun h => by unfold absD at h; split at h <;> cases h
def rMax2 : List V → Hp → VK → Prop := fun xs H Q => ∃ i j, xs = [.int i, .int j] ∧ Q (.int (if j > i then j else i)) H
def rMin2 : List V → Hp → VK → Prop := fun xs H Q => ∃ i j, xs = [.int i, .int j] ∧ Q (.int (if j < i then j else i)) H
theorem call_max2U {X : Cx} (hc : X.calm = true) : CallR X (.builtin "max") rMax2 := call_max2 hc
theorem call_min2U {X : Cx} (hc : X.calm = true) : CallR X (.builtin "min") rMin2 := call_min2 hc
def max2D : List D → Res W
  | [.int i, .int j] => .ok (.sh (.int (if j > i then j else i)))
  | _ => .st
def min2D : List D → Res W
  | [.int i, .int j] => .ok (.sh (.int (if j < i then j else i)))
  | _ => .st
instance calV_max2 : CalV K rMax2 max2D where
  ok := fun {S H vs ds Q w} hs r h k => by
    unfold max2D at h
    split at h <;> first | cases h | skip
    obtain ⟨v, u, rfl, r1, r2⟩ := views2 r
    cases r1.int_inv; cases r2.int_inv
    exact ⟨_, _, rfl, k _ S H [] (.sh (.refl hs) (.int _))⟩
  ex := fun h => by unfold max2D at h; split at h <;> cases h
instance calV_min2 : CalV K rMin2 min2D where
  ok := fun {S H vs ds Q w} hs r h k => by
    unfold min2D at h
    split at h <;> first | cases h | skip
    obtain ⟨v, u, rfl, r1, r2⟩ := views2 r
    cases r1.int_inv; cases r2.int_inv
    exact ⟨_, _, rfl, k _ S H [] (.sh (.refl hs) (.int _))⟩
  ex := fun h => by unfold min2D at h; split at h <;> cases h
/-! isinstance -/
def tyD : D → Option String
  | .non => some "NoneType" | .bl _ => some "bool" | .int _ => some "int" | .str _ => some "str"
  | .lst _ => some "list" | .scr _ => some "list" | .tup _ => some "tuple" | .ktup _ => some "tuple" | .dic _ _ => some "dict"
  | _ => none
def tyNames : List String := ["NoneType", "bool", "int", "str", "list", "tuple", "dict"]
def isTy (a n : String) : Option Bool := if n == "int" then some (a == "int" || a == "bool") else if n == "bool" || n == "str" || n == "list" || n == "tuple" || n == "dict" then some (a == n) else none
theorem isTy_kit {a n : String} {b : Bool} (ha : a ∈ tyNames) (h : isTy a n = some b) : kitB a n = some b := by
  have key : ∀ a ∈ tyNames, ∀ n ∈ ["int", "bool", "str", "list", "tuple", "dict"], kitB a n = isTy a n := by decide +kernel
  have hn : n ∈ ["int", "bool", "str", "list", "tuple", "dict"] := by
    unfold isTy at h
    split at h
    · rename_i e; simp at e; simp [e]
    · split at h
      · rename_i e; simp at e; rcases e with (((e | e) | e) | e) | e <;> simp [e]
      · cases h
  rw [key a ha n hn, h]
theorem tyD_in {d : D} {a : String} (h : tyD d = some a) : a ∈ tyNames := by
  cases d <;> cases h <;> decide
theorem tyD_rep {H : Hp} {v : V} {d : D} {a : String} (r : Rep K H v d) (h : tyD d = some a) : TyX K H v (.type a) := by
  cases r with
  | non => cases h; exact .base .non
  | bl b => cases h; exact .base (.bl b)
  | int i => cases h; exact .base (.int i)
  | str x => cases h; exact .base (.str x)
  | lst e q => cases h; exact .base (.lst e)
  | tup e q => cases h; exact .base (.tup e)
  | dic e l q =>
    cases h
    rcases e with e | ⟨o, e⟩
    · exact .base (.dK e)
    · exact .fDict e
  | scr e =>
    cases h
    rcases e with (e | ⟨o, e⟩) | ⟨o, its, n, e, c, _⟩
    · exact .base (.lst e)
    · exact .base (.frz e)
    · exact .kList e c
  | ktup e q =>
    cases h
    rcases e with (e | ⟨o, e⟩) | ⟨o, its, n, e, c, _⟩
    · exact .base (.tup e)
    · exact .fTuple e
    · exact .kTuple e c
  | _ => cases h
def isiD : List D → Res W
  | [x, .ty n] => match tyD x with
    | some a => match isTy a n with
      | some b => .ok (.sh (.bl b))
      | none => .st
    | none => .st
  | _ => .st
instance calV_isi : CalV K (rIsi K) isiD where
  ok := fun {S H vs ds Q w} hs r h k => by
    unfold isiD at h
    split at h <;> first | cases h | skip
    rename_i x n
    split at h <;> first | cases h | skip
    rename_i a ha
    split at h <;> first | cases h | skip
    rename_i b hb
    obtain ⟨v, u, rfl, r1, r2⟩ := views2 r
    have : u = .ty n := by
      cases r2 with
      | rep q => cases q; rfl
    subst this
    exact ⟨_, _, _, _, b, rfl, .ty n, tyD_rep (r1.toX hs) ha, kit_ty (isTy_kit (tyD_in ha) hb), k _ S H [] (.sh (.refl hs) (.bl b))⟩
  ex := fun h => by
    unfold isiD at h
    repeat' split at h
    all_goals cases h
/-! str(n), int(flag), int(text), list(xs) -/
def rStrI : List V → Hp → VK → Prop := fun xs H Q => ∃ i, xs = [.int i] ∧ i.natAbs.log2 < 1920 ∧ Q (.str (toString i)) H
end
end Ly

set_option Elab.async false
set_option linter.all false
set_option maxRecDepth 100000
namespace Ly
open PySem L2 PyProof.Rows

/-! ### what is walked -/
def iU (K : PySem.W.Frag) (te : TE) : TI := fun σ H R => te σ H fun x H1 => (∃ a, x = .ref a ∧ (∃ xs, SqL K H1 a xs) ∧ R (Itl K a) H1) ∨ (∃ a, x = .ref a ∧ (∃ xs, SqT K H1 a xs) ∧ R (Itt K a) H1) ∨ ∃ z, x = .str z ∧ R (Its z) H1
theorem pi_U {X : Cx} {tg e : Expr} {te : TE} (he : PE X e te) : PI X tg e (iU X.K te) := by
  refine ⟨fun pins s σ H R I h => ?_⟩
  refine thn (he.run pins s σ H _ I h) fun v s1 ⟨y, H1, I1, r1, q⟩ => ?_
  rcases q with ⟨a, rfl, ⟨xs, hq⟩, q⟩ | ⟨a, rfl, ⟨xs, hq⟩, q⟩ | ⟨x, rfl, q⟩
  · cases r1
    obtain ⟨its, rv, p, hz⟩ := I1.list hq
    refine wpAny_pyIter_list p.isList ?_
    refine ⟨s1.heap.objs.size, [s1.heap.objs.size], _, _, H1, rfl, I1.kept (t' := s1.toks) fun b o e => Heap.get?_push_of_some _ e, turn_list a _, ⟨_, Heap.get?_push_size _ rfl, rfl, rfl⟩, fun b hb => ?_, q⟩
    have e : b = s1.heap.objs.size := by simpa using hb
    subst e
    exact I1.fpOk (Nat.le_refl _) (I1.hok.fresh (Nat.le_refl _))
  · cases r1
    obtain ⟨its, rv, p, hz⟩ := I1.tuple hq
    refine wpAny_pyIter_tuple (show s1.heap.IsTuple a its.toArray from p) ?_
    refine ⟨s1.heap.objs.size, [s1.heap.objs.size], _, _, H1, rfl, I1.kept (t' := s1.toks) fun b o e => Heap.get?_push_of_some _ e, turn_tuple a _, ⟨_, Heap.get?_push_size _ rfl, rfl, rfl⟩, fun b hb => ?_, q⟩
    have e : b = s1.heap.objs.size := by simpa using hb
    subst e
    exact I1.fpOk (Nat.le_refl _) (I1.hok.fresh (Nat.le_refl _))
  · obtain ⟨t, rfl⟩ := r1
    cases ha : x.cps.all (· < 128)
    · exact wpAny_pyIter_wide ha (pi_one (tk := s1.toks) I1 _ (turn_str _ x t "str_iterator" (.inr rfl)) ⟨_, Heap.get?_push_size _ rfl, rfl, rfl⟩ q)
    · exact wpAny_pyIter_ascii ha (pi_one (tk := s1.toks) I1 _ (turn_str _ x t "str_ascii_iterator" (.inl rfl)) ⟨_, Heap.get?_push_size _ rfl, rfl, rfl⟩ q)
/-- one sign -/
def sign (c : Nat) : D := .str ⟨#[c]⟩
/-- the items of a thing that is walked -/
def itemsD : D → Res (List D)
  | .lst xs => .ok xs
  | .tup xs => .ok xs
  | .ktup xs => .ok xs
  | .scr ns => .ok (ns.map D.int)
  | .str z => .ok (z.cps.toList.map sign)
  | _ => .st
/-- walked for an expression's sake: nothing that stands is changed meanwhile -/
theorem wipe_sub (σ : L2.St) (vs : List Nat) : ∀ us : List Nat, (∀ i ∈ us, i ∈ vs) → wipe (wipe σ us) vs = wipe σ vs
  | [], _ => rfl
  | u :: us, h => by
    rw [show wipe σ (u :: us) = (wipe σ us).set u none from rfl, wipe_set (h u List.mem_cons_self)]
    exact wipe_sub σ vs us fun i hi => h i (List.mem_cons_of_mem _ hi)
theorem wipe_wipe (σ : L2.St) (vs : List Nat) : wipe (wipe σ vs) vs = wipe σ vs := wipe_sub σ vs vs fun _ h => h
class SemIV (K : PySem.W.Frag) (E : XK) (wi : TI) (F : outParam (List Nat)) (m : outParam (En → Res (List D))) : Prop where
  ok : ∀ {env σ S H R ds}, Vw K env σ S H → m env = .ok ds → (∀ J S' H', Gr S H S' H' → JOk K S' H' J ds → R J H') → wi σ H R
  ex : ∀ {env σ S H R x}, Vw K env σ S H → m env = .ex x → (∀ cls d H', Same H H' → XR K x cls d H' → E cls d H') → wi σ H R
section
variable {K : PySem.W.Frag} {E : XK}
theorem JOk.list {S P : Hp} {a : Addr} {vs : List V} {ds : List D} (h : SqL K P a vs) (r : Reps K S vs ds) : JOk K S P (Itl K a) ds := fun S' H' s1 s2 s3 i => by
  have hq := s3.seq h
  refine ⟨fun d hd => ?_, fun hd => ⟨vs, hq, by rw [r.len]; exact List.getElem?_eq_none_iff.mp hd⟩⟩
  obtain ⟨v, hv, rv⟩ := r.get hd
  refine ⟨⟨vs, v, hq, hv⟩, fun x H2 y => ?_⟩
  obtain ⟨rfl, y⟩ := y
  have := y vs hq
  rw [hv] at this
  cases this
  exact ⟨S', .refl s2, rv.up s1⟩
theorem JOk.tup {S P : Hp} {a : Addr} {vs : List V} {ds : List D} (h : SqT K P a vs) (r : Reps K S vs ds) : JOk K S P (Itt K a) ds := fun S' H' s1 s2 s3 i => by
  have hq := sqT_up s3 h
  refine ⟨fun d hd => ?_, fun hd => ⟨vs, hq, by rw [r.len]; exact List.getElem?_eq_none_iff.mp hd⟩⟩
  obtain ⟨v, hv, rv⟩ := r.get hd
  refine ⟨⟨vs, v, hq, hv⟩, fun x H2 y => ?_⟩
  obtain ⟨rfl, y⟩ := y
  have := y vs hq
  rw [hv] at this
  cases this
  exact ⟨S', .refl s2, rv.up s1⟩
theorem JOk.str {S P : Hp} {z : Str} : JOk K S P (Its z) (z.cps.toList.map sign) := fun S' H' s1 s2 s3 i => by
  refine ⟨fun d hd => ?_, fun hd => ?_⟩
  · rw [List.getElem?_map] at hd
    obtain ⟨c, hc, rfl⟩ := Option.map_eq_some_iff.mp hd
    have hi := (List.getElem?_eq_some_iff.mp hc).1
    refine ⟨(by simpa using hi : i < z.cps.size), fun x H2 y => ?_⟩
    obtain ⟨rfl, c', hc', rfl⟩ := y
    have : c' = c := by
      have e : z.cps[i]? = z.cps.toList[i]? := by simp
      rw [e, hc] at hc'
      exact (Option.some.inj hc').symm
    subst this
    exact ⟨S', .refl s2, .str _⟩
  · have := List.getElem?_eq_none_iff.mp hd
    show z.cps.size ≤ i
    simpa using this
theorem items_J {S P H : Hp} {v : V} {d : D} {ds : List D} {R : It → Hp → Prop} (hs : Same S P) (hp : Same P H) (r : View K S P v d) (h : itemsD d = .ok ds) (k : ∀ J, JOk K S P J ds → R J H) :
    (∃ a, v = .ref a ∧ (∃ xs, SqL K H a xs) ∧ R (Itl K a) H) ∨ (∃ a, v = .ref a ∧ (∃ xs, SqT K H a xs) ∧ R (Itt K a) H) ∨ ∃ z, v = .str z ∧ R (Its z) H := by
  unfold itemsD at h
  split at h <;> first | cases h | skip
  · obtain ⟨p, vs, rfl, e, q⟩ := r.lst_inv hs
    exact .inl ⟨p, rfl, ⟨_, SqL.of (hp _ _ e)⟩, k _ (.list (SqL.of e) q)⟩
  · obtain ⟨p, vs, rfl, e, q⟩ := r.tup_inv
    exact .inr (.inl ⟨p, rfl, ⟨_, SqT.of (hp _ _ (hs _ _ e))⟩, k _ (.tup (SqT.of (hs _ _ e)) q)⟩)
  · obtain ⟨p, vs, rfl, e, q⟩ := r.ktup_inv
    exact .inr (.inl ⟨p, rfl, ⟨_, sqT_up hp (sqT_up hs e)⟩, k _ (.tup (sqT_up hs e) q)⟩)
  · obtain ⟨p, rfl, e⟩ := r.scr_inv
    exact .inl ⟨p, rfl, ⟨_, hp.seq (hs.seq e)⟩, k _ (.list (hs.seq e) (Reps.ints _))⟩
  · cases r.str_inv
    exact .inr (.inr ⟨_, rfl, k _ .str⟩)
theorem itemsD_ex {d : D} {x : Xc} (h : itemsD d = .ex x) : False := by
  unfold itemsD at h
  split at h <;> cases h
def mItems (m : En → Res D) : En → Res (List D) := fun e => (m e).bind itemsD
instance semI_U {te : TE} {F : List Nat} {m : En → Res W} [h : SemE K E te F m] : SemI K E (iU K te) F (mItems (mD m)) where
  ok := fun {env σ S H R ds} x e k => by
    obtain ⟨d, e1, e2⟩ := Res.of_ok e
    exact h.okD x e1 fun v S' H' g r => items_J (Same.refl S') g.sub (.rep r) e2 fun J j => k J S' H' g j
  ex := fun {env σ S H R ds} x e k => by
    rcases Res.of_ex e with e1 | ⟨d, e1, e2⟩
    · exact h.ex x (Res.of_exm e1) k
    · exact (itemsD_ex e2).elim
instance semIV_U {te : TE} {F : List Nat} {m : En → Res D} [h : SemV K E te F m] : SemIV K E (iU K te) F (mItems m) where
  ok := fun {env σ S H R ds} x e k => by
    obtain ⟨d, e1, e2⟩ := Res.of_ok e
    exact h.ok x e1 fun v S' H' g r => items_J g.sub (Same.refl H') r e2 fun J j => k J S' H' g j
  ex := fun {env σ S H R ds} x e k => by
    rcases Res.of_ex e with e1 | ⟨d, e1, e2⟩
    · exact h.ex x e1 k
    · exact (itemsD_ex e2).elim
/-! range -/
def rangeD (lo : Int) (n : Nat) : List D := (List.range n).map fun (i : Nat) => D.int (lo + (i : Int))
theorem JOk.rng {S P : Hp} {lo : Int} {n : Nat} : JOk K S P (Itr lo n) (rangeD lo n) := fun S' H' s1 s2 s3 i => by
  unfold rangeD
  refine ⟨fun d hd => ?_, fun hd => ?_⟩
  · rw [List.getElem?_map] at hd
    obtain ⟨c, hc, rfl⟩ := Option.map_eq_some_iff.mp hd
    obtain ⟨hl, hc⟩ := List.getElem?_eq_some_iff.mp hc
    rw [List.length_range] at hl
    rw [List.getElem_range] at hc
    subst hc
    refine ⟨hl, fun x H2 y => ?_⟩
    obtain ⟨rfl, rfl⟩ := y
    exact ⟨S', .refl s2, .int _⟩
  · have := List.getElem?_eq_none_iff.mp hd
    show n ≤ i
    simpa using this
def big62 (i : Int) : Bool := decide (-(2 ^ 62) ≤ i) && decide (i < 2 ^ 62)
def rng1D : List D → Res (List D)
  | [.int j] => if big62 j then .ok (rangeD 0 j.toNat) else .st
  | _ => .st
def rng2D : List D → Res (List D)
  | [.int i, .int j] => if big62 i && big62 j then .ok (rangeD i (j - i).toNat) else .st
  | _ => .st
theorem semI_rng1 {ta : TA} {F : List Nat} {m : En → Res (List D)} (h : SemA K E ta F m) {env : En} {σ : L2.St} {S H : Hp} {R : It → Hp → Prop} {ds : List D} (x : Vw K env σ S H) (e : (m env).bind rng1D = .ok ds)
    (k : ∀ J S' H', Gr S H S' H' → (∀ P, JOk K S' P J ds) → R J H') : iRng1 ta σ H R := by
  obtain ⟨vs, e1, e2⟩ := Res.of_ok e
  refine h.ok x e1 fun us S' H' g r => ?_
  unfold rng1D at e2
  split at e2 <;> first | cases e2 | skip
  split at e2 <;> first | cases e2 | skip
  rename_i hb
  simp only [big62, Bool.and_eq_true, decide_eq_true_eq] at hb
  cases r with
  | cons a b =>
    cases b; cases a
    exact ⟨_, rfl, hb.1, hb.2, k _ S' H' g fun P => .rng⟩
theorem semI_rng2 {ta : TA} {F : List Nat} {m : En → Res (List D)} (h : SemA K E ta F m) {env : En} {σ : L2.St} {S H : Hp} {R : It → Hp → Prop} {ds : List D} (x : Vw K env σ S H) (e : (m env).bind rng2D = .ok ds)
    (k : ∀ J S' H', Gr S H S' H' → (∀ P, JOk K S' P J ds) → R J H') : iRng2 ta σ H R := by
  obtain ⟨vs, e1, e2⟩ := Res.of_ok e
  refine h.ok x e1 fun us S' H' g r => ?_
  unfold rng2D at e2
  split at e2 <;> first | cases e2 | skip
  split at e2 <;> first | cases e2 | skip
  rename_i hb
  simp only [big62, Bool.and_eq_true, decide_eq_true_eq] at hb
  cases r with
  | cons a b =>
    cases b with
    | cons c d =>
      cases d; cases a; cases c
      exact ⟨_, _, rfl, ⟨hb.1.1, hb.1.2, hb.2.1, hb.2.2⟩, k _ S' H' g fun P => .rng⟩
theorem rng1D_ex {ds : List D} {x : Xc} (h : rng1D ds = .ex x) : False := by
  unfold rng1D at h
  repeat' split at h
  all_goals cases h
theorem rng2D_ex {ds : List D} {x : Xc} (h : rng2D ds = .ex x) : False := by
  unfold rng2D at h
  repeat' split at h
  all_goals cases h
def mRng1 (m : En → Res (List D)) : En → Res (List D) := fun e => (m e).bind rng1D
def mRng2 (m : En → Res (List D)) : En → Res (List D) := fun e => (m e).bind rng2D
instance semI_r1 {ta : TA} {F : List Nat} {m : En → Res (List D)} [h : SemA K E ta F m] : SemI K E (iRng1 ta) F (mRng1 m) where
  ok := fun x e k => semI_rng1 h x e fun J S' H' g j => k J S' H' g (j S')
  ex := fun {env σ S H R ds} x e k => by
    rcases Res.of_ex e with e1 | ⟨d, e1, e2⟩
    · exact h.ex x e1 k
    · exact (rng1D_ex e2).elim
instance semIV_r1 {ta : TA} {F : List Nat} {m : En → Res (List D)} [h : SemA K E ta F m] : SemIV K E (iRng1 ta) F (mRng1 m) where
  ok := fun x e k => semI_rng1 h x e fun J S' H' g j => k J S' H' g (j H')
  ex := fun {env σ S H R ds} x e k => by
    rcases Res.of_ex e with e1 | ⟨d, e1, e2⟩
    · exact h.ex x e1 k
    · exact (rng1D_ex e2).elim
instance semI_r2 {ta : TA} {F : List Nat} {m : En → Res (List D)} [h : SemA K E ta F m] : SemI K E (iRng2 ta) F (mRng2 m) where
  ok := fun x e k => semI_rng2 h x e fun J S' H' g j => k J S' H' g (j S')
  ex := fun {env σ S H R ds} x e k => by
    rcases Res.of_ex e with e1 | ⟨d, e1, e2⟩
    · exact h.ex x e1 k
    · exact (rng2D_ex e2).elim
instance semIV_r2 {ta : TA} {F : List Nat} {m : En → Res (List D)} [h : SemA K E ta F m] : SemIV K E (iRng2 ta) F (mRng2 m) where
  ok := fun x e k => semI_rng2 h x e fun J S' H' g j => k J S' H' g (j H')
  ex := fun {env σ S H R ds} x e k => by
    rcases Res.of_ex e with e1 | ⟨d, e1, e2⟩
    · exact h.ex x e1 k
    · exact (rng2D_ex e2).elim
/-! enumerate -/
def enumD : Nat → List D → List D
  | _, [] => []
  | i, d :: ds => .tup [.int (i : Int), d] :: enumD (i + 1) ds
theorem enumD_get : ∀ {ds : List D} {i j : Nat} {d : D}, (enumD j ds)[i]? = some d → ∃ x, ds[i]? = some x ∧ d = .tup [.int ((j + i : Nat) : Int), x]
  | [], _, _, _, h => by simp [enumD] at h
  | e :: ds, 0, j, d, h => by
    unfold enumD at h
    simp at h
    exact ⟨e, rfl, by rw [← h]; rfl⟩
  | e :: ds, i + 1, j, d, h => by
    unfold enumD at h
    rw [List.getElem?_cons_succ] at h
    obtain ⟨x, h1, h2⟩ := enumD_get h
    exact ⟨x, by simpa using h1, by rw [h2]; congr 4; omega⟩
theorem enumD_len : ∀ (ds : List D) (j : Nat), (enumD j ds).length = ds.length
  | [], _ => rfl
  | e :: ds, j => by unfold enumD; rw [List.length_cons, enumD_len ds, List.length_cons]
theorem JOk.enum {S P : Hp} {a : Addr} {vs : List V} {ds : List D} (h : SqL K P a vs) (r : Reps K S vs ds) : JOk K S P (Ite K a) (enumD 0 ds) := fun S' H' s1 s2 s3 i => by
  have hq := s3.seq h
  refine ⟨fun d hd => ?_, fun hd => ⟨vs, hq, by rw [r.len, ← enumD_len ds 0]; exact List.getElem?_eq_none_iff.mp hd⟩⟩
  obtain ⟨x, hx, rfl⟩ := enumD_get hd
  obtain ⟨v, hv, rv⟩ := r.get hx
  refine ⟨⟨vs, v, hq, hv⟩, fun u H2 y => ?_⟩
  obtain ⟨T, v', rfl, hT, rfl, y⟩ := y
  have := y vs hq
  rw [hv] at this
  cases this
  refine ⟨_, .new s2 hT, .tup upd_same ?_⟩
  have s4 : Same S' (upd S' T (.tup [.int (i : Nat), v])) := fun a o q => by rw [upd_ne (ne_of_none q (s2.free hT))]; exact q
  rw [Nat.zero_add]
  exact .cons (.int _) (.cons ((rv.up s1).up s4) .nil)
def enumItems : List D → Res (List D)
  | [.lst xs] => .ok (enumD 0 xs)
  | [.scr ns] => .ok (enumD 0 (ns.map D.int))
  | _ => .st
theorem enum_ex {ds : List D} {x : Xc} (h : enumItems ds = .ex x) : False := by
  unfold enumItems at h
  split at h <;> cases h
def mEnum (m : En → Res (List D)) : En → Res (List D) := fun e => (m e).bind enumItems
instance semI_enum {ta : TA} {F : List Nat} {m : En → Res (List D)} [h : SemA K E ta F m] : SemI K E (iEnum K ta) F (mEnum m) where
  ok := fun {env σ S H R ds} x e k => by
    obtain ⟨vs, e1, e2⟩ := Res.of_ok e
    refine h.ok x e1 fun us S' H' g r => ?_
    unfold enumItems at e2
    split at e2 <;> first | cases e2 | skip
    · cases r with
      | cons a b =>
        cases b
        cases a with
        | lst e q => exact ⟨_, _, rfl, SqL.of (g.sub _ _ e), k _ S' H' g (.enum (SqL.of e) q)⟩
    · cases r with
      | cons a b =>
        cases b
        cases a with
        | scr e => exact ⟨_, _, rfl, g.sub.seq e, k _ S' H' g (.enum e (Reps.ints _))⟩
  ex := fun {env σ S H R ds} x e k => by
    rcases Res.of_ex e with e1 | ⟨d, e1, e2⟩
    · exact h.ex x e1 k
    · exact (enum_ex e2).elim
instance semIV_enum {ta : TA} {F : List Nat} {m : En → Res (List D)} [h : SemAV K E ta F m] : SemIV K E (iEnum K ta) F (mEnum m) where
  ok := fun {env σ S H R ds} x e k => by
    obtain ⟨vs, e1, e2⟩ := Res.of_ok e
    refine h.ok x e1 fun us S' H' g r => ?_
    unfold enumItems at e2
    split at e2 <;> first | cases e2 | skip
    · obtain ⟨v, rfl, r1⟩ := views1 r
      obtain ⟨p, vs, rfl, e, q⟩ := r1.lst_inv g.sub
      exact ⟨_, _, rfl, SqL.of e, k _ S' H' g (.enum (SqL.of e) q)⟩
    · obtain ⟨v, rfl, r1⟩ := views1 r
      obtain ⟨p, rfl, e⟩ := r1.scr_inv
      exact ⟨_, _, rfl, g.sub.seq e, k _ S' H' g (.enum (g.sub.seq e) (Reps.ints _))⟩
  ex := fun {env σ S H R ds} x e k => by
    rcases Res.of_ex e with e1 | ⟨d, e1, e2⟩
    · exact h.ex x e1 k
    · exact (enum_ex e2).elim

/-! ### list comprehensions -/
def mTrue : En → Res Bool := fun _ => .ok true
instance semT_yes : SemT K E tYes [] mTrue where
  ok := fun x e k => by cases e; exact k _ (Same.refl _)
  ex := fun x e k => by cases e
def wipeE (env : En) : List Nat → En
  | [] => env
  | v :: vs => (wipeE env vs).set v none
theorem Vw.unset {env : En} {σ : L2.St} {S H : Hp} (x : Vw K env σ S H) (i : Nat) : Vw K (env.set i none) (σ.set i none) S H := ⟨by rw [List.length_set, List.length_set]; exact x.len, x.sub, fun j w e => by
  rcases get_set e with ⟨_, e1, _⟩ | ⟨ne, e1⟩
  · cases e1
  · obtain ⟨z, fp, a, b, c⟩ := x.at_ j w e1
    exact ⟨z, fp, by rw [List.getElem?_set_ne ne]; exact a, b, c⟩⟩
theorem Vw.wiped {env : En} {σ : L2.St} {S H : Hp} (x : Vw K env σ S H) : ∀ vs : List Nat, Vw K (wipeE env vs) (wipe σ vs) S H
  | [] => x
  | v :: vs => (x.wiped vs).unset v
def runC (mg : D → En → Res En) (mt : En → Res Bool) (me : En → Res D) : List D → En → Res (List D)
  | [], _ => .ok []
  | d :: ds, env => (mg d env).bind fun e => (mt e).bind fun b => if b = true then (me e).bind fun y => (runC mg mt me ds env).map fun ys => y :: ys else runC mg mt me ds env
def noEx {α : Type} : Res α → Res α
  | .ok a => .ok a
  | _ => .st
def mLc (ts vs : List Nat) (mi : En → Res (List D)) (mg : D → En → Res En) (mt : En → Res Bool) (me : En → Res D) : En → Res W := fun env => if ts.all (fun i => vs.contains i) then
  (mi env).bind fun ds => (noEx (runC mg mt me ds (wipeE env vs))).bind fun ys => if small ys.length then .ok (.lst ys) else .st
  else .st
instance semE_lc {wi : TI} {g : TG} {tt : TT} {te : TE} {vs ts Fi Ft Fe : List Nat} {mi : En → Res (List D)} {mg : D → En → Res En} {mt : En → Res Bool} {me : En → Res W} [hi : SemIV K E wi Fi mi] [hg : SemG K g ts mg] [ht : SemT K E0 tt Ft mt] [he : SemE K E0 te Fe me] :
    SemE K E (tLc wi g tt te vs) (Fi ++ Ft ++ Fe) (mLc ts vs mi mg mt (mD me)) where
  ok := fun {env σ S H Q w} x e k => by
    unfold mLc at e
    split at e
    · rename_i hts
      have hts' : ∀ i ∈ ts, i ∈ vs := fun i h => by
        have := List.all_eq_true.mp hts i h
        simpa using this
      obtain ⟨ds, e1, e⟩ := Res.of_ok e
      obtain ⟨ys, e2, e⟩ := Res.of_ok e
      split at e
      · rename_i hsm
        cases e
        have e3 : runC mg mt (mD me) ds (wipeE env vs) = .ok ys := by
          unfold noEx at e2
          split at e2
          · cases e2; assumption
          · cases e2
        refine hi.ok x e1 fun J S1 H1 g1 jok => ?_
        intro D hD
        have hSD : S1 D = none := g1.sub.free hD
        have x1 := x.gr g1
        refine ⟨fun i m H => m = ds.length - i ∧ ∃ S us acc rest, Gr S1 H1 S H ∧ S D = none ∧ H D = some (.lst us) ∧ Reps K S us acc ∧ runC mg mt (mD me) (ds.drop i) (wipeE env vs) = .ok rest ∧ acc ++ rest = ys,
          ⟨_, rfl, S1, [], [], ys, (Gr.refl g1.sub).trans (.hp g1.sub fun a o q => by rw [upd_ne (ne_of_none q hD)]; exact q), hSD, upd_same, .nil, by rw [List.drop_zero]; exact e3, rfl⟩, ?_⟩
        rintro i m H2 ⟨rfl, S2, us, acc, rest, g2, hS2, hH2, r2, e4, e5⟩
        obtain ⟨j1, j2⟩ := jok S2 H2 g2.ss g2.sub g2.hh i
        cases hd : ds[i]? with
        | none =>
          have hl : ds.length ≤ i := List.getElem?_eq_none_iff.mp hd
          rw [List.drop_eq_nil_of_le hl] at e4
          have e4' : rest = [] := by unfold runC at e4; cases e4; rfl
          subst e4'
          rw [List.append_nil] at e5
          subst e5
          refine .inl ⟨j2 hd, k _ S2 H2 [D] ⟨g1.trans g2, .lst hH2 r2, by simp, fun p hp => ?_⟩⟩
          rw [List.mem_singleton.mp hp]
          exact ⟨g1.hh.free hD, hS2⟩
        | some d =>
          obtain ⟨hlt, hdd⟩ := List.getElem?_eq_some_iff.mp hd
          have hdrop : ds.drop i = d :: ds.drop (i + 1) := by rw [List.drop_eq_getElem_cons hlt, hdd]
          rw [hdrop] at e4
          unfold runC at e4
          obtain ⟨en, f1, e4⟩ := Res.of_ok e4
          obtain ⟨b, f2, e4⟩ := Res.of_ok e4
          obtain ⟨go, yld⟩ := j1 d hd
          refine .inr ⟨go, fun H' => ∃ S us acc rest, Gr S1 H1 S H' ∧ S D = none ∧ H' D = some (.lst us) ∧ Reps K S us acc ∧ runC mg mt (mD me) (ds.drop (i + 1)) (wipeE env vs) = .ok rest ∧ acc ++ rest = ys, fun H' z => ⟨_, by omega, rfl, z⟩, fun y H' hy => ?_⟩
          obtain ⟨S3, g3, r3⟩ := yld y H' hy
          have hHD : (H2 D).isSome = true := by rw [hH2]; rfl
          have hS3 : S3 D = none := g3.gone hS2 hHD
          refine hg.vw (((x1.gr g2).gr g3).wiped vs) r3 f1 fun σ2 x4 wq => ⟨by rw [wq vs hts']; exact wipe_wipe _ _, ?_⟩
          refine ht.ok x4 f2 fun H4 g4 => ?_
          have y4 := Gr.hp g3.sub g4
          cases b with
          | false =>
            rw [if_neg Bool.false_ne_true] at e4 ⊢
            exact ⟨S3, us, acc, rest, (g2.trans g3).trans y4, hS3, g4 _ _ (g3.hh _ _ hH2), r2.up g3.ss, e4, e5⟩
          | true =>
            rw [if_pos rfl] at e4 ⊢
            obtain ⟨dy, f3, e4⟩ := Res.of_ok e4
            obtain ⟨rest', f4, rfl⟩ := Res.of_okm e4
            refine he.okD (x4.gr y4) f3 fun v S5 H5 g5 r5 => ?_
            have hD5 : H5 D = some (.lst us) := g5.hh _ _ (g4 _ _ (g3.hh _ _ hH2))
            have hS5 : S5 D = none := g5.gone hS3 (by rw [g4 _ _ (g3.hh _ _ hH2)]; rfl)
            have hlen : us.length < sizeLine := by
              rw [r2.len]
              have := congrArg List.length e5
              rw [List.length_append] at this
              have h2 := small_line hsm
              omega
            refine ⟨us, hD5, hlen, S5, us ++ [v], acc ++ [dy], rest', ?_, hS5, upd_same, ?_, f4, by rw [← e5]; simp⟩
            · have gg := ((g2.trans g3).trans y4).trans g5
              exact ⟨gg.ss, fun a o q => by rw [upd_ne (ne_of_none q hD)]; exact gg.hh a o q, fun a o q => by rw [upd_ne (ne_of_none q hS5)]; exact gg.sub a o q, gg.nw⟩
            · exact ((r2.up g3.ss).up g5.ss).app (.cons r5 .nil)
      · cases e
    · cases e
  ex := fun {env σ S H Q w} x e k => by
    unfold mLc at e
    split at e
    · rcases Res.of_ex e with e1 | ⟨ds, e1, e⟩
      · exact hi.ex x e1 k
      · rcases Res.of_ex e with e1 | ⟨ds, e1, e⟩
        · unfold noEx at e1
          split at e1 <;> cases e1
        · split at e <;> cases e
    · cases e
end
end Ly

set_option Elab.async false
set_option linter.all false
set_option maxRecDepth 100000
namespace Ly
open PySem L2 PyProof.Rows

/-! ### defs -/
/-- a def that answers as f tells of data: n parameters -/
def spM (K : PySem.W.Frag) (n : Nat) (f : List D → Res W) : Sp := fun vs H Q E => vs.length = n ∧ ∃ S ds, Same S H ∧ Reps K S vs ds ∧ match f ds with
  | .ok w => ∀ v S' H' fp, New K S H S' H' v w fp → Q v H'
  | .ex x => ∀ cls d H', Same H H' → XR K x cls d H' → E cls d H'
  | .st => False
def slots (n : Nat) (ds : List D) : En := ds.map (fun d => some (W.sh d)) ++ List.replicate (n - ds.length) none
def runD (n : Nat) (m : En → Res Fl) : List D → Res W := fun ds => (m (slots n ds)).bind fun r => match r with
  | .rt w => .ok w
  | .nx _ => .ok (.sh .non)
  | _ => .st
theorem reps_start {K : PySem.W.Frag} {S H : Hp} (Mu : List Nat) (N : List Str) {vs : List V} {ds : List D} (hs : Same S H) (r : Reps K S vs ds) (hl : vs.length ≤ N.length) : StOk K ⟨Mu, [], fun _ h => nomatch h⟩ H S (slots N.length ds) (L2.start N vs) S H := by
  have hlen := r.len
  refine ⟨by simp [slots, L2.start, hlen], (fun v h => nomatch h), hs, Same.refl H, Same.refl S, fun a o e => .inl e, fun _ => [], fun i w e => ?_, fun i p hp => absurd hp List.not_mem_nil, fun i j p hp => absurd hp List.not_mem_nil⟩
  unfold slots at e
  by_cases hi : i < ds.length
  · rw [List.getElem?_append_left (by simpa using hi), List.getElem?_map] at e
    obtain ⟨d, hd, e⟩ := Option.map_eq_some_iff.mp e
    cases e
    obtain ⟨v, hv, rv⟩ := r.get hd
    refine ⟨v, ?_, .sh rv, List.nodup_nil⟩
    unfold L2.start
    rw [List.getElem?_append_left (by simpa [hlen] using hi), List.getElem?_map, hv]
    rfl
  · rw [List.getElem?_append_right (by simpa using hi), List.getElem?_replicate] at e
    split at e <;> cases e
section
variable {P : Program} {w : World} {K : PySem.W.Frag} {mg : Str → Option Value} {base : Heap}
/-- THE RULE for a def: its body's rules, the meaning of that term, and what it comes to -/
theorem fn_sem {x qual : Str} {st : Stmt} {f : Addr} {fd : FuncData} {N ps : List Str} {k : Nat} (F : Fun K x qual st f fd) (Sc : FnScope N ps (defScope st)) (g : List D → Res W) (Mu : List Nat) (m : En → Res Fl)
    (hb : ∀ (cdv : Value) (A : Around) (outer : List Env) (s : Shared) (H : Hp) (E : XK), Room k (A.deeper (envOfC qual (defScope st) s.heap.objs.size f cdv)) →
      ∃ t, PSs (cxOf (L2.CX P w) P w K mg base N qual (defScope st) f cdv A outer s H E) (defBody st) t ∧ SemS K Mu E t m)
    (hg : ∀ ds, g ds ≠ .st → runD N.length m ds = g ds) : FnOk P w K mg base (L2.CX P w) (k + 1) f fd ps (spM K ps.length g) := by
  have hpl : ps.length ≤ N.length := by have := congrArg List.length Sc.pre; rw [List.length_take] at this; omega
  refine F.okX Sc (fun vs H Q E h => h.1) fun cdv A outer s H vs Q E hr h => ?_
  obtain ⟨t, h1, h2⟩ := hb cdv A outer s H E hr
  refine ⟨t, h1, ?_⟩
  obtain ⟨hl, S, ds, hs, r, q⟩ := h
  have hne : g ds ≠ .st := fun e => by rw [e] at q; exact q
  have e := hg ds hne
  rw [← e] at q
  refine h2.run rfl (reps_start Mu N hs r (by omega)) ?_
  unfold runD at q
  cases em : m (slots N.length ds) with
  | ex z => rw [em] at q; exact q
  | st => rw [em] at q; exact q
  | ok fl =>
    rw [em] at q
    cases fl with
    | nx en => exact fun σ' S' H' y _ => q .non S' H' [] (.sh ⟨y.ex0, y.base, y.sub, y.nw⟩ .non)
    | rt w => exact fun v S' H' fp y => q v S' H' fp ⟨⟨y.ex0, y.base, y.sub, y.nw⟩, y.own, y.nd, y.new⟩
    | bk en => exact q.elim
    | ct en => exact q.elim
/-- a known def: what it answers, once for all -/
theorem FnOk.fit {CX : CXT} {k n : Nat} {f : Addr} {fd : FuncData} {ps : List Str} {g g' : List D → Res W} (F : FnOk P w K mg base CX k f fd ps (spM K n g)) (h : ∀ ds, g' ds ≠ .st → g ds = g' ds) : FnOk P w K mg base CX k f fd ps (spM K n g') :=
  F.imp fun vs H Q E q => by
    obtain ⟨hl, S, ds, hs, r, q⟩ := q
    refine ⟨hl, S, ds, hs, r, ?_⟩
    have hne : g' ds ≠ .st := fun e => by rw [e] at q; exact q
    rw [h ds hne]
    exact q
end

/-! ### calls of defs -/
def flatW : W → Bool
  | .sh d => flatD d
  | _ => false
def onlyFlat : Res W → Res W
  | .ok w => if flatW w then .ok w else .st
  | r => r
def asked (n : Nat) (f : List D → Res W) : List D → Res W := fun ds => if ds.length = n then f ds else .st
def mCall (n : Nat) (f : List D → Res W) (ma mx : En → Res (List D)) : En → Res W := fun e => match ma e with
  | .ok ds => asked n f ds
  | .ex x => .ex x
  | .st => (mx e).bind fun ds => onlyFlat (asked n f ds)
section
variable {K : PySem.W.Frag} {E : XK}
theorem asked_ok {n : Nat} {f : List D → Res W} {ds : List D} {r : Res W} (h : asked n f ds = r) (hr : r ≠ .st) : ds.length = n ∧ f ds = r := by
  unfold asked at h
  split at h
  · exact ⟨by assumption, h⟩
  · exact (hr h.symm).elim
theorem New.flat {S S0 H S' H' : Hp} {v : V} {w : W} {fp : List Addr} (n : New K S0 H S' H' v w fp) (hf : flatW w = true) (hs : Same S H) : New K S H S H' v w [] := by
  have hh := n.gr.hh
  cases w with
  | sh d =>
    have o := n.own
    cases o with
    | sh r =>
      refine .sh (.hp hs hh) ?_
      cases r <;> first | (cases hf) | skip
      · exact .non
      · exact .bl _
      · exact .int _
      · exact .str _
  | _ => cases hf
instance semE_call {n : Nat} {f : List D → Res W} {t : TA} {Fa Fx : List Nat} {ma mx : En → Res (List D)} [ha : SemA K E t Fa ma] [hx : SemAX K E t Fx mx] : SemE K E (tCall (spM K n f) [] E t) Fx (mCall n f ma mx) where
  ok := fun {env σ S H Q w} x e k => by
    unfold mCall at e
    split at e
    · rename_i ds e1
      refine ha.ok x e1 fun vs S' H' g r => ?_
      obtain ⟨hl, e2⟩ := asked_ok e (by simp)
      refine ⟨by rw [List.append_nil, r.len]; exact hl, S', ds, g.sub, by rw [List.append_nil]; exact r, ?_⟩
      rw [e2]
      exact fun v S2 H2 fp nw => k v S2 H2 fp (nw.later g)
    · cases e
    · obtain ⟨ds, e1, e2⟩ := Res.of_ok e
      refine hx.ok x e1 fun vs H' g r => ?_
      unfold onlyFlat at e2
      split at e2
      · rename_i w' e3
        split at e2
        · rename_i hf
          cases e2
          obtain ⟨hl, e4⟩ := asked_ok e3 (by simp)
          refine ⟨by rw [List.append_nil, r.len]; exact hl, H', ds, Same.refl H', by rw [List.append_nil]; exact r, ?_⟩
          rw [e4]
          intro v S2 H2 fp nw
          have y := Gr.hp x.sub g
          exact k v S H2 [] ((nw.flat hf y.sub).later y)
        · cases e2
      · rename_i h1
        exact (h1 _ e2).elim
  ex := fun {env σ S H Q z} x e k => by
    unfold mCall at e
    split at e
    · rename_i ds e1
      refine ha.ok x e1 fun vs S' H' g r => ?_
      obtain ⟨hl, e2⟩ := asked_ok e (by simp)
      refine ⟨by rw [List.append_nil, r.len]; exact hl, S', ds, g.sub, by rw [List.append_nil]; exact r, ?_⟩
      rw [e2]
      exact fun c d H2 s q => k c d H2 (g.hh.trans s) q
    · rename_i z' e1
      cases e
      exact ha.ex x e1 k
    · rcases Res.of_ex e with e1 | ⟨ds, e1, e2⟩
      · exact hx.ex x e1 k
      · refine hx.ok x e1 fun vs H' g r => ?_
        unfold onlyFlat at e2
        split at e2
        · split at e2 <;> cases e2
        · obtain ⟨hl, e4⟩ := asked_ok e2 (by simp)
          refine ⟨by rw [List.append_nil, r.len]; exact hl, H', ds, Same.refl H', by rw [List.append_nil]; exact r, ?_⟩
          rw [e4]
          exact fun c d H2 s q => k c d H2 (g.trans s) q

/-! ### truth -/
def truD : D → Res Bool
  | .non => .ok false
  | .bl b => .ok b
  | .int i => .ok (i != 0)
  | .str z => if small z.length then .ok ((z.length : Int) != 0) else .st
  | .lst xs => .ok (!xs.isEmpty)
  | .tup xs => .ok (!xs.isEmpty)
  | .dic ks _ => .ok (!ks.isEmpty)
  | _ => .st
theorem isEmpty_len {α β : Type} {xs : List α} {ys : List β} (h : xs.length = ys.length) : xs.isEmpty = ys.isEmpty := by
  cases xs <;> cases ys <;> simp_all
theorem zip_len {α β : Type} {ks : List α} {vs : List β} (l : vs.length = ks.length) : ks.length = (ks.zip vs).length := by rw [List.length_zip, l, Nat.min_self]
def TruW (K : PySem.W.Frag) (x : V) (H : Hp) (k : Bool) : Prop := TruV K x H k ∨ ∃ p kvs, x = .ref p ∧ Rd H p (.dK kvs) ∧ k = !kvs.isEmpty
theorem truD_rep {H : Hp} {v : V} {d : D} {b : Bool} (r : Rep K H v d) (h : truD d = .ok b) : TruW K v H b := by
  cases r with
  | non => cases h; exact .inl rfl
  | bl b => cases h; exact .inl rfl
  | int i => cases h; exact .inl rfl
  | str x =>
    simp only [truD] at h
    split at h
    · rename_i hz; cases h; exact .inl ⟨small_le hz, rfl⟩
    · cases h
  | lst e q => cases h; exact .inl (.inl ⟨_, SqL.of e, by rw [isEmpty_len q.len]⟩)
  | tup e q => cases h; exact .inl (.inr (.inl ⟨_, SqT.of e, by rw [isEmpty_len q.len]⟩))
  | dic e l q => cases h; exact .inr ⟨_, _, rfl, e, by rw [isEmpty_len (zip_len l)]⟩
  | _ => cases h
theorem truD_ex {d : D} {x : Xc} (h : truD d = .ex x) : False := by
  unfold truD at h
  repeat' split at h
  all_goals cases h
def mTru (m : En → Res D) : En → Res Bool := fun e => (m e).bind truD
def tTruW (K : PySem.W.Frag) (ta : TE) : TT := fun σ H Q => ta σ H fun x H' => ∃ k, TruW K x H' k ∧ Q k H'
theorem pt_tru {X : Cx} {a : Expr} {ta : TE} (ha : PE X a ta) (he : ∀ whole, isTrue a X.env whole = (do let v ← whole; standAt a.pos; holding [v] (truthy v)) := by intro _; rfl) : PT X a (tTruW X.K ta) := by
  refine ⟨fun pins s σ H Q I h => ?_⟩
  refine isTrue_plain (thn (ha.run pins s σ H _ I h) fun v s1 ⟨x, H1, I1, r1, k, q1, q2⟩ => ?_) (he _)
  rcases q1 with q1 | ⟨p, kvs, rfl, q1, rfl⟩
  · exact tru_ok pins s1 σ H1 x v Q I1 r1 ⟨k, q1, q2⟩
  · obtain rfl : v = Value.ref p := r1
    exact d_truth I1 q1 fun s2 I2 => ⟨H1, I2, q2⟩
instance semT_tru {ta : TE} {F : List Nat} {m : En → Res D} [ha : SemX K E ta F m] : SemT K E (tTruW K ta) F (mTru m) where
  ok := fun {env σ S H Q b} x e k => by
    obtain ⟨d, e1, e2⟩ := Res.of_ok e
    exact ha.ok x e1 fun v H' g r => ⟨b, truD_rep r e2, k H' g⟩
  ex := fun {env σ S H Q b} x e k => by
    rcases Res.of_ex e with e1 | ⟨d, e1, e2⟩
    · exact ha.ex x e1 k
    · exact (truD_ex e2).elim
/-! a value by truth: not x -/
def mUn (f : D → Res D) (m : En → Res D) : En → Res W := fun e => (m e).bind fun d => (f d).map .sh
class UnX (K : PySem.W.Frag) (r : V → Hp → VK → Prop) (f : outParam (D → Res D)) : Prop where
  ok : ∀ {H v d Q z}, Rep K H v d → f d = .ok z → (∀ y, (∀ S, Rep K S y z) → Q y H) → r v H Q
  ex : ∀ {d x}, f d = .ex x → False
instance semE_un {r : V → Hp → VK → Prop} {f : D → Res D} {ta : TE} {F : List Nat} {m : En → Res D} [hf : UnX K r f] [ha : SemX K E ta F m] : SemE K E (tUn r ta) F (mUn f m) where
  ok := fun {env σ S H Q w} x e k => by
    obtain ⟨d, e1, e2⟩ := Res.of_ok e
    obtain ⟨z, e3, rfl⟩ := Res.of_okm e2
    exact ha.ok x e1 fun v H' g r => hf.ok r e3 fun y h => k y S H' [] (.sh (.hp x.sub g) (h S))
  ex := fun {env σ S H Q w} x e k => by
    rcases Res.of_ex e with e1 | ⟨d, e1, e2⟩
    · exact ha.ex x e1 k
    · exact (hf.ex (Res.of_exm e2)).elim
instance unX_neg : UnX K (rU fun i => .int (-i)) negD where
  ok := fun {H v d Q z} r h k => by
    unfold negD at h
    split at h <;> first | cases h | skip
    cases r
    exact ⟨_, rfl, k _ fun S => .int _⟩
  ex := fun h => by unfold negD at h; split at h <;> cases h

/-! ### methods of texts -/
/-- o.m(e) of a text -/
class M1V (K : PySem.W.Frag) (r : V → List V → Hp → VK → Prop) (f : outParam (Str → D → Res W)) : Prop where
  ok : ∀ {S H a u e Q w}, Same S H → View K S H u e → f a e = .ok w → (∀ z S' H' fp, New K S H S' H' z w fp → Q z H') → r (.str a) [u] H Q
  ex : ∀ {a e x}, f a e = .ex x → False
def mM1 (f : Str → D → Res W) (ma mb : En → Res D) : En → Res W := fun e => (ma e).bind fun a => match a with
  | .str a => (mb e).bind fun b => f a b
  | _ => .st
instance semE_m1 {r : V → List V → Hp → VK → Prop} {f : Str → D → Res W} {ta tb : TE} {Fa Fb : List Nat} {ma mb : En → Res D} [hf : M1V K r f] [ha : SemX K E ta Fa ma] [hb : SemV K E tb Fb mb] : SemE K E (tM1 r ta tb) (Fa ++ Fb) (mM1 f ma mb) where
  ok := fun {env σ S H Q w} x e k => by
    obtain ⟨a, e1, e⟩ := Res.of_ok e
    split at e
    · obtain ⟨b, e2, e⟩ := Res.of_ok e
      refine ha.ok x e1 fun v H1 g1 r1 => ?_
      cases r1
      refine ⟨⟨_, rfl⟩, ?_⟩
      have y := Gr.hp x.sub g1
      exact hb.ok (x.gr y) e2 fun u S2 H2 g2 r2 => hf.ok g2.sub r2 e fun z S' H' fp n => k z S' H' fp (n.later (y.trans g2))
    · cases e
  ex := fun {env σ S H Q w} x e k => by
    rcases Res.of_ex e with e1 | ⟨a, e1, e⟩
    · exact ha.ex x e1 k
    · split at e
      · refine ha.ok x e1 fun v H1 g1 r1 => ?_
        cases r1
        refine ⟨⟨_, rfl⟩, ?_⟩
        have y := Gr.hp x.sub g1
        rcases Res.of_ex e with e2 | ⟨b, e2, e⟩
        · exact hb.ex (x.gr y) e2 fun c d H' s q => k c d H' (g1.trans s) q
        · exact (hf.ex e).elim
      · cases e
def rJoin (K : PySem.W.Frag) : V → List V → Hp → VK → Prop := fun x xs H Q => ∃ a p, ∃ ys : List Str, x = .str a ∧ xs = [.ref p] ∧ (SqL K H p (ys.map V.str) ∨ SqT K H p (ys.map V.str)) ∧
      (ys.map (·.length)).sum + ys.length * a.length ≤ 16777216 ∧ Q (.str (Txt.join a ys)) H
theorem pe_joinU {X : Cx} {o e : Expr} {to te : TE} {apos pos : Pos} (ho : PE X o to) (he : PE X e te) (hs : starEach [e] X.env = [(false, eval e X.env)] := by rfl) (hbase : attributeBase o "join" X.env (eval o X.env) = eval o X.env := by rfl) (hline : (apos.endLine == pos.line) = true := by rfl) :
    PE X (.Call (.Attribute o "join" apos) [e] [] pos) (tM1 (rJoin X.K) to te) := pe_join ho he hs hbase hline
def strsD : List D → Option (List Str)
  | [] => some []
  | .str x :: ds => (strsD ds).map fun xs => x :: xs
  | _ :: _ => none
theorem strsD_rep {S : Hp} : ∀ {vs : List V} {ds : List D} {xs : List Str}, Reps K S vs ds → strsD ds = some xs → vs = xs.map V.str
  | _, _, _, .nil, h => by cases h; rfl
  | _, _, _, .cons r t, h => by
    unfold strsD at h
    split at h
    · rename_i e; cases e
    · rename_i x ds e
      cases e
      obtain ⟨xs, h1, rfl⟩ := Option.map_eq_some_iff.mp h
      cases r
      rw [strsD_rep t h1]
      rfl
    · cases h
def joinD (a : Str) : D → Res W
  | .lst xs => match strsD xs with
    | some ys => if small ((ys.map (·.length)).sum + ys.length * a.length) then .ok (.sh (.str (Txt.join a ys))) else .st
    | none => .st
  | _ => .st
instance m1_join : M1V K (rJoin K) joinD where
  ok := fun {S H a u e Q w} hs r h k => by
    unfold joinD at h
    split at h <;> first | cases h | skip
    rename_i xs
    split at h <;> first | cases h | skip
    rename_i ys hy
    split at h <;> first | cases h | skip
    rename_i hz
    obtain ⟨p, vs, rfl, hp, q⟩ := r.lst_inv hs
    have := strsD_rep q hy
    subst this
    exact ⟨a, p, ys, rfl, rfl, .inl (SqL.of hp), by have := of_decide_eq_true hz; omega, k _ S H [] (.sh (.refl hs) (.str _))⟩
  ex := fun h => by
    unfold joinD at h
    repeat' split at h
    all_goals cases h

/-! ### displays of dicts -/
def mDicK : En → Res W := fun _ => .ok (.dic [] [])
def mDicT : En → Res W := fun _ => .ok (.dit [] [])
instance semE_dnewK : SemE K E tDNewK [] mDicK where
  ok := fun {env σ S H Q w} x e k => by
    cases e
    intro p hp
    exact k _ S _ [p] ⟨.hp x.sub fun a o q => by rw [upd_ne (ne_of_none q hp)]; exact q, .dic (ks := []) (vs := []) upd_same rfl .nil, by simp, fun q hq => by rw [List.mem_singleton.mp hq]; exact ⟨hp, x.sub.free hp⟩⟩
  ex := fun x e k => by cases e
instance semE_dnewT : SemE K E tDNewT [] mDicT where
  ok := fun {env σ S H Q w} x e k => by
    cases e
    intro p hp
    exact k _ S _ [p] ⟨.hp x.sub fun a o q => by rw [upd_ne (ne_of_none q hp)]; exact q, .dit (ks := []) (vs := []) upd_same rfl .nil, by simp, fun q hq => by rw [List.mem_singleton.mp hq]; exact ⟨hp, x.sub.free hp⟩⟩
  ex := fun x e k => by cases e
/-- the pairs of a display -/
class SemPP (K : PySem.W.Frag) (E : XK) (trs : List (TE × TE)) (F : outParam (List Nat)) (m : outParam (En → Res (List (D × D)))) : Prop where
  ok : ∀ {env σ S H Q ps}, Vw K env σ S H → m env = .ok ps → (∀ us vs S' H', Gr S H S' H' → Reps K S' us (ps.map (·.1)) → Reps K S' vs (ps.map (·.2)) → Q (us.zip vs) H') → tPairs trs σ H Q
  ex : ∀ {env σ S H Q x}, Vw K env σ S H → m env = .ex x → (∀ cls d H', Same H H' → XR K x cls d H' → E cls d H') → tPairs trs σ H Q
def mPNil : En → Res (List (D × D)) := fun _ => .ok []
def mPCons (mk mv : En → Res D) (mr : En → Res (List (D × D))) : En → Res (List (D × D)) := fun e => (mk e).bind fun k => (mv e).bind fun v => (mr e).map fun ps => (k, v) :: ps
instance semPP_nil : SemPP K E [] [] mPNil where
  ok := fun {env σ S H Q ps} x e k => by cases e; exact k [] [] S H (.refl x.sub) .nil .nil
  ex := fun x e k => by cases e
instance semPP_cons {tk tv : TE} {trs : List (TE × TE)} {Fk Fv Fr : List Nat} {mk mv : En → Res W} {mr : En → Res (List (D × D))} [hk : SemE K E tk Fk mk] [hv : SemE K E tv Fv mv] [hr : SemPP K E trs Fr mr] : SemPP K E ((tk, tv) :: trs) (Fk ++ Fv ++ Fr) (mPCons (mD mk) (mD mv) mr) where
  ok := fun {env σ S H Q w} x e k => by
    obtain ⟨a, e1, e⟩ := Res.of_ok e
    obtain ⟨b, e2, e⟩ := Res.of_ok e
    obtain ⟨ps, e3, rfl⟩ := Res.of_okm e
    refine hk.okD x e1 fun v S1 H1 g1 r1 => ?_
    refine hv.okD (x.gr g1) e2 fun u S2 H2 g2 r2 => ?_
    refine hr.ok ((x.gr g1).gr g2) e3 fun us vs S3 H3 g3 r3 r4 => ?_
    exact k (v :: us) (u :: vs) S3 H3 ((g1.trans g2).trans g3) (.cons ((r1.up g2.ss).up g3.ss) r3) (.cons (r2.up g3.ss) r4)
  ex := fun {env σ S H Q w} x e k => by
    rcases Res.of_ex e with e1 | ⟨a, e1, e⟩
    · exact hk.ex x (Res.of_exm e1) k
    refine hk.okD x e1 fun v S1 H1 g1 r1 => ?_
    rcases Res.of_ex e with e2 | ⟨b, e2, e⟩
    · exact hv.ex (x.gr g1) (Res.of_exm e2) fun c d H' s q => k c d H' (g1.hh.trans s) q
    refine hv.okD (x.gr g1) e2 fun u S2 H2 g2 r2 => ?_
    exact hr.ex ((x.gr g1).gr g2) (Res.of_exm e) fun c d H' s q => k c d H' ((g1.hh.trans g2.hh).trans s) q
theorem putK_out {κ : Type} [DecidableEq κ] {v : V} {k : κ} : ∀ {kvs : List (κ × V)}, k ∉ kvs.map (·.1) → putK kvs k v = kvs ++ [(k, v)] := fun {kvs} h => by
  apply putK_new
  unfold valV
  rw [Option.map_eq_none_iff, List.find?_eq_none]
  intro p hp he
  exact h (List.mem_map.mpr ⟨p, hp, of_decide_eq_true he⟩)
theorem merge_nodup : ∀ {more acc : List (Key × V)}, ((acc ++ more).map (·.1)).Nodup → mergeK acc more = acc ++ more
  | [], acc, _ => by show acc = acc ++ []; rw [List.append_nil]
  | p :: r, acc, h => by
    show mergeK (putK acc p.1 p.2) r = _
    have h1 : p.1 ∉ acc.map (·.1) := by
      rw [List.map_append, List.map_cons, List.nodup_append] at h
      exact fun z => h.2.2 _ z _ List.mem_cons_self rfl
    rw [putK_out h1, merge_nodup (by rw [List.append_assoc]; exact h)]
    simp
theorem keys_kV : ∀ {ds : List D} {vs : List V} {ks : List Key} {S : Hp}, Reps K S vs ds → toKs ds = some ks → vs = ks.map kV := fun r h => toKs_rep r h
theorem zip_map_fst {α β : Type} : ∀ {as : List α} {bs : List β}, as.length = bs.length → (as.zip bs).map (·.1) = as
  | [], [], _ => rfl
  | a :: as, b :: bs, h => by rw [List.zip_cons_cons, List.map_cons, zip_map_fst (by simpa using h)]
theorem zip_kV : ∀ (ks : List Key) (vs : List V), (ks.map kV).zip vs = (ks.zip vs).map fun kv => (kV kv.1, kv.2)
  | [], _ => by simp
  | _ :: _, [] => by simp
  | a :: as, b :: bs => by simp [zip_kV as bs]
def mDisp (mp : En → Res (List (D × D))) : En → Res W := fun e => (mp e).bind fun ps => match toKs (ps.map (·.1)) with
  | some ks => if ks.Nodup ∧ ps.length ≤ 15 then .ok (.dic ks (ps.map (·.2))) else .st
  | none => .st
instance semE_disp {trs : List (TE × TE)} {F : List Nat} {mp : En → Res (List (D × D))} [hp : SemPP K E trs F mp] : SemE K E (tDisp trs) F (mDisp mp) where
  ok := fun {env σ S H Q w} x e k => by
    obtain ⟨ps, e1, e⟩ := Res.of_ok e
    split at e
    · rename_i ks hks
      split at e
      · rename_i hc
        cases e
        intro p hpn
        have g0 : Gr S H S (upd H p (.dK [])) := .hp x.sub fun a o q => by rw [upd_ne (ne_of_none q hpn)]; exact q
        refine hp.ok (x.gr g0) e1 fun us vs S1 H1 g1 r1 r2 => ?_
        have e2 := toKs_rep r1 hks
        have hl : ks.length = vs.length := by
          have a1 := r1.len
          have a2 := r2.len
          rw [e2, List.length_map, List.length_map] at a1
          rw [List.length_map] at a2
          omega
        have hlps : ks.length = ps.length := by
          have a1 := r1.len
          rw [e2, List.length_map, List.length_map] at a1
          exact a1
        have hS : S1 p = none := g1.gone (x.sub.free hpn) (by rw [upd_same]; rfl)
        refine ⟨g1.hh _ _ upd_same, ks.zip vs, ?_, ?_, ?_⟩
        · rw [e2]
          exact zip_kV ks vs
        · rw [List.length_zip]; omega
        · rw [merge_nodup (by rw [List.nil_append, zip_map_fst hl]; exact hc.1), List.nil_append]
          have hh : Same H (upd H1 p (.dK (ks.zip vs))) := fun a o q => by
            rw [upd_ne (ne_of_none q hpn)]
            exact (g0.trans g1).hh a o q
          have gg := g0.trans g1
          exact k _ S1 _ [p] ⟨⟨gg.ss, hh, fun a o q => by rw [upd_ne (ne_of_none q hS)]; exact gg.sub a o q, gg.nw⟩, .dic upd_same hl.symm r2, by simp, fun q hq => by rw [List.mem_singleton.mp hq]; exact ⟨hpn, hS⟩⟩
      · cases e
    · cases e
  ex := fun {env σ S H Q w} x e k => by
    rcases Res.of_ex e with e1 | ⟨ps, e1, e⟩
    · intro p hpn
      have g0 : Gr S H S (upd H p (.dK [])) := .hp x.sub fun a o q => by rw [upd_ne (ne_of_none q hpn)]; exact q
      exact hp.ex (x.gr g0) e1 fun c d H' s q => k c d H' (g0.hh.trans s) q
    · split at e
      · split at e <;> cases e
      · cases e
end
end Ly

set_option Elab.async false
set_option linter.all false
set_option maxRecDepth 100000
namespace Ly
open PySem L2 PyProof.Rows
theorem room65 {k : Nat} {A : Around} (r : Room k A) : A.units + 65 < cLine := by have := r.un; omega
theorem passD {P : Program} {w : World} {K : PySem.W.Frag} {mg : Str → Option Value} {base : Heap} {N : List Str} {qual : Str} {scope : Scope} {f : Addr} {cd : Value} {A : Around} {outer : List Env} {s : Shared} {H : Hp} {E : XK} :
    Passes (L2.CX P w) (cxOf (L2.CX P w) P w K mg base N qual scope f cd A outer s H E) E := passes_call (W := fun cls d _ H => E cls d H) (takes_of rfl rfl rfl rfl) fun _ _ _ _ h => h
/-! the rules with the written part told -/
section
variable {X : Cx} (K : PySem.W.Frag) (hK : X.K = K)
include hK
theorem ke_eq (hu : X.A.units + 64 < cLine) : OpR X (compareOp .Eq) (rEqU K) := by subst hK; exact op_eqU hu
theorem ke_ne (hu : X.A.units + 64 < cLine) : OpR X (compareOp .NotEq) (rNeU K) := by subst hK; exact op_neU hu
theorem ke_in (hu : X.A.units + 65 < cLine) : OpR X (compareOp .In) (rInU K) := by subst hK; exact op_inU hu
theorem ke_notIn (hu : X.A.units + 65 < cLine) : OpR X (compareOp .NotIn) (rNotInU K) := by subst hK; exact op_notInU hu
theorem ke_add : OpR X (binaryOp .Add) (rAddU K) := by subst hK; exact op_addU
theorem ke_mul : OpR X (binaryOp .Mult) (rMulU K) := by subst hK; exact op_mulU
theorem ke_ix (hu : X.A.units + 1 < cLine) : IxR X (rIxU K) := by subst hK; exact ix_U hu
theorem ke_sl : SlR X (rSlU K) := by subst hK; exact sl_U
theorem ke_len : CallR X (.builtin "len") (rLen K) := by subst hK; exact call_lenU
theorem ke_isi : CallR X (.builtin "isinstance") (rIsi K) := by subst hK; exact call_isi
theorem kt_tru {a : Expr} {ta : TE} (ha : PE X a ta) (he : ∀ whole, isTrue a X.env whole = (do let v ← whole; standAt a.pos; holding [v] (truthy v)) := by intro _; rfl) : PT X a (tTruW K ta) := by subst hK; exact pt_tru ha he
theorem kp_join {o e : Expr} {to te : TE} {apos pos : Pos} (ho : PE X o to) (he : PE X e te) (hs : starEach [e] X.env = [(false, eval e X.env)] := by rfl) (hbase : attributeBase o "join" X.env (eval o X.env) = eval o X.env := by rfl) (hline : (apos.endLine == pos.line) = true := by rfl) :
    PE X (.Call (.Attribute o "join" apos) [e] [] pos) (tM1 (rJoin K) to te) := by subst hK; exact pe_joinU ho he hs hbase hline
theorem ki_U {tg e : Expr} {te : TE} (he : PE X e te) : PI X tg e (iU K te) := by subst hK; exact pi_U he
theorem ki_enum {e : Expr} {ta : TA} {p pos tpos : Pos} {elts : List Expr} {kk : Nat} (hg : Gl X "enumerate") (hm : X.mg "enumerate" = none) (ha : PA X [e] ta) (hs : starEach [e] X.env = [(false, eval e X.env)] := by rfl) :
    PI X (.Tuple elts kk tpos) (.Call (.Name "enumerate" p) [e] [] pos) (iEnum K ta) := by subst hK; exact pi_enum hg hm ha hs
theorem kg_tup {es : List Expr} {k : Nat} {t : TGs} {n : Nat} {pos : Pos} (hc : X.calm = true) (h : PGs X es t)
    (hn : (assignEach es X.env).length = n := by rfl) (hst : (assignEach es X.env).findIdx? (·.1) = none := by rfl) : PG X (.Tuple es k pos) (gTup K n t) := by subst hK; exact pg_tup hc h hn hst
end
end Ly

set_option Elab.async false
set_option linter.all false
set_option maxRecDepth 100000
/-! LyS: mirrors, evaluated step by step (simp). -/
namespace Ly
open PySem L2 PyProof.Rows
section
variable {f : D → D → Res W} {fx : D → D → Res D} {e : En} {i : Nat} {w : W} {d : D} {F : List Nat} {n : Nat}
@[simp] theorem a_mD (m : En → Res W) : mD m e = (m e).map W.toD := rfl
@[simp] theorem a_mK : mK d e = .ok (.sh d) := rfl
@[simp] theorem a_mVar : mVar i e = match e[i]? with
  | some (some (.sh d)) => .ok (.sh d)
  | _ => .st := rfl
@[simp] theorem a_mVarV : mVarV i e = match e[i]? with
  | some (some (.obj _ _ _)) => .st
  | some (some w) => .ok w.toD
  | _ => .st := rfl
@[simp] theorem a_mVarX : mVarX i e = match e[i]? with
  | some (some w) => .ok w.toD
  | _ => .st := rfl
@[simp] theorem a_mOp (ma mb : En → Res D) : mOp f ma mb e = (ma e).bind fun a => (mb e).bind fun b => f a b := rfl
@[simp] theorem a_mOpX (ma mb : En → Res D) : mOpX fx ma mb e = (ma e).bind fun a => (mb e).bind fun b => (fx a b).map .sh := rfl
@[simp] theorem a_mTest (ma : En → Res D) : mTest ma e = (ma e).bind fun d => match d with
  | .bl b => .ok b
  | _ => .st := rfl
@[simp] theorem a_mAnd (ma mb : En → Res Bool) : mAnd ma mb e = (ma e).bind fun b => if b = true then mb e else .ok false := rfl
@[simp] theorem a_mOr (ma mb : En → Res Bool) : mOr ma mb e = (ma e).bind fun b => if b = true then .ok true else mb e := rfl
@[simp] theorem a_mNot (ma : En → Res Bool) : mNot ma e = (ma e).map (!·) := rfl
@[simp] theorem a_mBl (m : En → Res Bool) : mBl m e = (m e).map fun b => .sh (.bl b) := rfl
@[simp] theorem a_mAndV (ma mb : En → Res D) : mAndV ma mb e = (mAnd (mTest ma) (mTest mb) e).map fun b => .sh (.bl b) := rfl
@[simp] theorem a_mOrV (ma mb : En → Res D) : mOrV ma mb e = (mOr (mTest ma) (mTest mb) e).map fun b => .sh (.bl b) := rfl
@[simp] theorem a_mNotV (ma : En → Res D) : mNotV ma e = (mNot (mTest ma) e).map fun b => .sh (.bl b) := rfl
@[simp] theorem a_mIf (mc : En → Res Bool) (ma mb : En → Res W) : mIf mc ma mb e = (mc e).bind fun b => if b = true then ma e else mb e := rfl
@[simp] theorem a_mNil : mNil e = .ok [] := rfl
@[simp] theorem a_mCons (m : En → Res D) (mr : En → Res (List D)) : mCons m mr e = (m e).bind fun d => (mr e).map fun ds => d :: ds := rfl
@[simp] theorem a_mLst (ma : En → Res (List D)) : mLst ma e = (ma e).bind fun ds => if small ds.length then .ok (.lst ds) else .st := rfl
@[simp] theorem a_mTup (ma : En → Res (List D)) : mTup ma e = (ma e).bind fun ds => if small ds.length then .ok (.sh (.tup ds)) else .st := rfl
@[simp] theorem a_mAsg (Mu : List Nat) (me : En → Res W) : mAsg Mu F i me e = if free0 Mu i then (me (fz F e)).map fun w => .nx ((fz F e).set i (some (keepW Mu i w))) else .st := rfl
@[simp] theorem a_free0 (Mu : List Nat) : free0 Mu i = !Mu.contains (1000 + i) := rfl
@[simp] theorem a_mAsgT (Mu ts : List Nat) (me : En → Res W) (mg : D → En → Res En) : mAsgT Mu ts F me mg e = if ts.all (free0 Mu) then (mD me (fz F e)).bind fun d => (mg d (fz F e)).map .nx else .st := rfl
@[simp] theorem a_mName : mName i d e = .ok (e.set i (some (.sh d))) := rfl
@[simp] theorem a_mGNil0 : mGNil [] e = .ok e := rfl
@[simp] theorem a_mGCons (m : D → En → Res En) (mr : List D → En → Res En) (d : D) (ds : List D) : mGCons m mr (d :: ds) e = (m d e).bind fun e => mr ds e := rfl
@[simp] theorem a_mGTup (m : List D → En → Res En) (xs : List D) : mGTup n m (.tup xs) e = if xs.length = n then m xs e else .st := rfl
@[simp] theorem a_mSeq (a b : En → Res Fl) : mSeq a b e = (a e).bind fun r => match r with
  | .nx e => b e
  | r => .ok r := rfl
@[simp] theorem a_mNext : mNext e = .ok (.nx e) := rfl
@[simp] theorem a_mBreak : mBreak e = .ok (.bk e) := rfl
@[simp] theorem a_mCont : mCont e = .ok (.ct e) := rfl
@[simp] theorem a_mIfS (mc : En → Res Bool) (ma mb : En → Res Fl) : mIfS F mc ma mb e = (mc (fz F e)).bind fun b => if b = true then ma (fz F e) else mb (fz F e) := rfl
@[simp] theorem a_mDrop (me : En → Res W) : mDrop F me e = (me (fz F e)).map fun _ => .nx (fz F e) := rfl
@[simp] theorem a_mRet (me : En → Res W) : mRet F me e = (me (fz F e)).map .rt := rfl
@[simp] theorem a_mRetVar : mRetVar i e = match e[i]? with
  | some (some w) => .ok (.rt w)
  | _ => .st := rfl
@[simp] theorem a_mRetN : mRetN e = .ok (.rt (.sh .non)) := rfl
@[simp] theorem a_mFor (Mu ts : List Nat) (mi : En → Res (List D)) (mg : D → En → Res En) (mb : En → Res Fl) : mFor Mu ts F mi mg mb e = if ts.all (free0 Mu) then (mi (fz F e)).bind fun ds => runL mg mb ds (fz F e) else .st := rfl
@[simp] theorem a_mAppend (ma : En → Res (List D)) : mAppend F i ma e = match (fz F e)[i]? with
  | some (some (.lst xs)) => (ma (fz F e)).bind fun ds => match ds with
    | [d] => if small xs.length then .ok (.nx ((fz F e).set i (some (.lst (xs ++ [d]))))) else .st
    | _ => .st
  | _ => .st := rfl
@[simp] theorem a_mItems (m : En → Res D) : mItems m e = (m e).bind itemsD := rfl
@[simp] theorem a_mRng1 (m : En → Res (List D)) : mRng1 m e = (m e).bind rng1D := rfl
@[simp] theorem a_mRng2 (m : En → Res (List D)) : mRng2 m e = (m e).bind rng2D := rfl
@[simp] theorem a_mEnum (m : En → Res (List D)) : mEnum m e = (m e).bind enumItems := rfl
@[simp] theorem a_mTrue : mTrue e = .ok true := rfl
@[simp] theorem a_mLc (ts vs : List Nat) (mi : En → Res (List D)) (mg : D → En → Res En) (mt : En → Res Bool) (me : En → Res D) : mLc ts vs mi mg mt me e = if ts.all (fun i => vs.contains i) then
  (mi e).bind fun ds => (noEx (runC mg mt me ds (wipeE e vs))).bind fun ys => if small ys.length then .ok (.lst ys) else .st
  else .st := rfl
@[simp] theorem a_mCal (f : List D → Res W) (ma : En → Res (List D)) : mCal f ma e = (ma e).bind f := rfl
@[simp] theorem a_mCall (f : List D → Res W) (ma mx : En → Res (List D)) : mCall n f ma mx e = match ma e with
  | .ok ds => asked n f ds
  | .ex x => .ex x
  | .st => (mx e).bind fun ds => onlyFlat (asked n f ds) := rfl
@[simp] theorem a_asked (f : List D → Res W) (ds : List D) : asked n f ds = if ds.length = n then f ds else .st := rfl
@[simp] theorem a_mChain (f g : D → D → Res D) (ma mb mc : En → Res D) : mChain f g ma mb mc e = (ma e).bind fun a => (mb e).bind fun b => (f a b).bind fun t => match t with
  | .bl true => (mc e).bind fun c => (g b c).map .sh
  | .bl false => .ok (.sh (.bl false))
  | _ => .st := rfl
@[simp] theorem a_mSl (ma : En → Res D) (ml mh : En → Res (Option Int)) : mSl ma ml mh e = (ma e).bind fun a => (ml e).bind fun l => (mh e).bind fun h => slD a l h := rfl
@[simp] theorem a_mNoPart : mNoPart e = .ok none := rfl
@[simp] theorem a_mPart (m : En → Res D) : mPart m e = (m e).bind fun d => match d with
  | .int i => .ok (some i)
  | _ => .st := rfl
@[simp] theorem a_mTru (m : En → Res D) : mTru m e = (m e).bind truD := rfl
@[simp] theorem a_mUn (f : D → Res D) (m : En → Res D) : mUn f m e = (m e).bind fun d => (f d).map .sh := rfl
@[simp] theorem a_mM1 (f : Str → D → Res W) (ma mb : En → Res D) : mM1 f ma mb e = (ma e).bind fun a => match a with
  | .str a => (mb e).bind fun b => f a b
  | _ => .st := rfl
@[simp] theorem a_mDicK : mDicK e = .ok (.dic [] []) := rfl
@[simp] theorem a_mDicT : mDicT e = .ok (.dit [] []) := rfl
@[simp] theorem a_mPNil : mPNil e = .ok [] := rfl
@[simp] theorem a_mPCons (mk mv : En → Res D) (mr : En → Res (List (D × D))) : mPCons mk mv mr e = (mk e).bind fun k => (mv e).bind fun v => (mr e).map fun ps => (k, v) :: ps := rfl
@[simp] theorem a_mDisp (mp : En → Res (List (D × D))) : mDisp mp e = (mp e).bind fun ps => match toKs (ps.map (·.1)) with
  | some ks => if ks.Nodup ∧ ps.length ≤ 15 then .ok (.dic ks (ps.map (·.2))) else .st
  | none => .st := rfl
@[simp] theorem a_runD (m : En → Res Fl) (ds : List D) : runD n m ds = (m (slots n ds)).bind fun r => match r with
  | .rt w => .ok w
  | .nx _ => .ok (.sh .non)
  | _ => .st := rfl
@[simp] theorem a_fz0 : fz [] e = e := rfl
@[simp] theorem a_fzc (F : List Nat) : fz (i :: F) e = fz F (fz1 i e) := rfl
@[simp] theorem a_fz1 : fz1 i e = match e[i]? with
  | some (some w) => e.set i (some (.sh w.toD))
  | _ => e := rfl
@[simp] theorem a_keepW (Mu : List Nat) : keepW Mu i w = if Mu.contains i then w else .sh w.toD := rfl
@[simp] theorem a_toD1 : (W.sh d).toD = d := by unfold W.toD; rfl
@[simp] theorem a_toD2 (xs : List D) : (W.lst xs).toD = .lst xs := by unfold W.toD; rfl
@[simp] theorem a_toD3 (ks : List Key) (xs : List D) : (W.dic ks xs).toD = .dic ks xs := by unfold W.toD; rfl
@[simp] theorem a_toD4 (ks : List (List Key)) (xs : List D) : (W.dit ks xs).toD = .dit ks xs := by unfold W.toD; rfl
@[simp] theorem a_slots (ds : List D) : slots n ds = ds.map (fun d => some (W.sh d)) ++ List.replicate (n - ds.length) none := rfl
@[simp] theorem a_wipe0 : wipeE e [] = e := rfl
@[simp] theorem a_wipec (vs : List Nat) : wipeE e (i :: vs) = (wipeE e vs).set i none := rfl
@[simp] theorem a_noEx_ok {α : Type} (a : α) : noEx (.ok a) = .ok a := rfl
@[simp] theorem a_onlyFlat (w : W) : onlyFlat (.ok w) = if flatW w then .ok w else .st := rfl
@[simp] theorem a_flatW (d : D) : flatW (.sh d) = flatD d := rfl
@[simp] theorem a_small {n : Nat} (h : n ≤ 10000000) : small n = true := decide_eq_true h
@[simp] theorem a_runL0 (mg : D → En → Res En) (mb : En → Res Fl) : runL mg mb [] e = .ok (.nx e) := rfl
theorem a_runLc (mg : D → En → Res En) (mb : En → Res Fl) (d : D) (ds : List D) : runL mg mb (d :: ds) e = (mg d e).bind fun e => (mb e).bind fun r => match r with
    | .nx e => runL mg mb ds e
    | .ct e => runL mg mb ds e
    | .bk e => .ok (.nx e)
    | .rt w => .ok (.rt w) := rfl
@[simp] theorem a_runC0 (mg : D → En → Res En) (mt : En → Res Bool) (me : En → Res D) : runC mg mt me [] e = .ok [] := rfl
theorem a_runCc (mg : D → En → Res En) (mt : En → Res Bool) (me : En → Res D) (d : D) (ds : List D) : runC mg mt me (d :: ds) e = (mg d e).bind fun e' => (mt e').bind fun b => if b = true then (me e').bind fun y => (runC mg mt me ds e).map fun ys => y :: ys else runC mg mt me ds e := rfl
/-! operators on what they take -/
@[simp] theorem v_addi (a b : Int) : addD (.int a) (.int b) = .ok (.sh (.int (a + b))) := rfl
@[simp] theorem v_adds (a b : Str) : addD (.str a) (.str b) = if small (a.length + b.length) then .ok (.sh (.str (a ++ b))) else .st := rfl
@[simp] theorem v_addl (a b : List D) : addD (.lst a) (.lst b) = if small (a.length + b.length) then .ok (.lst (a ++ b)) else .st := rfl
@[simp] theorem v_sub (a b : Int) : subD (.int a) (.int b) = .ok (.int (a - b)) := rfl
@[simp] theorem v_mod (a b : Int) : modD (.int a) (.int b) = if 0 < b then .ok (.int (a % b)) else .st := rfl
@[simp] theorem v_fdiv (a b : Int) : fdivD (.int a) (.int b) = if 0 < b ∧ b < big60 then .ok (.int (a / b)) else .st := rfl
@[simp] theorem v_pow (a b : Int) : powD (.int a) (.int b) = if 0 ≤ b ∧ b ≤ 1000000 ∧ -(2 ^ 64) < a ∧ a < 2 ^ 64 then .ok (.int (a ^ b.toNat)) else .st := rfl
@[simp] theorem v_muli (a b : Int) : mulD (.int a) (.int b) = if (-(2 ^ 64) < a ∧ a < 2 ^ 64) ∨ (-(2 ^ 64) < b ∧ b < 2 ^ 64) then .ok (.sh (.int (a * b))) else .st := rfl
@[simp] theorem v_mull (a : List D) (k : Int) : mulD (.lst a) (.int k) = if small (a.length * k.toNat) && decide (-1000000 ≤ k) && decide (k ≤ 1000000) then .ok (.lst (List.replicate k.toNat a).flatten) else .st := rfl
@[simp] theorem v_eqi (a b : Int) : eqB (.int a) (.int b) = .ok (.bl (decide (a = b))) := rfl
@[simp] theorem v_eqs (a b : Str) : eqB (.str a) (.str b) = .ok (.bl (decide (a = b))) := rfl
@[simp] theorem v_eqb (a b : Bool) : eqB (.bl a) (.bl b) = .ok (.bl (decide (a = b))) := rfl
@[simp] theorem v_nei (a b : Int) : neB (.int a) (.int b) = .ok (.bl (!decide (a = b))) := rfl
@[simp] theorem v_nes (a b : Str) : neB (.str a) (.str b) = .ok (.bl (!decide (a = b))) := rfl
@[simp] theorem v_lti (a b : Int) : ltD (.int a) (.int b) = .ok (.bl (decide (a < b))) := rfl
@[simp] theorem v_lei (a b : Int) : leD (.int a) (.int b) = .ok (.bl (decide (a ≤ b))) := rfl
@[simp] theorem v_gti (a b : Int) : gtD (.int a) (.int b) = .ok (.bl (decide (b < a))) := rfl
@[simp] theorem v_gei (a b : Int) : geD (.int a) (.int b) = .ok (.bl (decide (b ≤ a))) := rfl
@[simp] theorem v_lts (a b : Str) : ltD (.str a) (.str b) = .ok (.bl (strLt a b)) := rfl
@[simp] theorem v_les (a b : Str) : leD (.str a) (.str b) = .ok (.bl (!strLt b a)) := rfl
@[simp] theorem v_abs (i : Int) : absD [.int i] = .ok (.sh (.int (if i < 0 then -i else i))) := rfl
@[simp] theorem v_max2 (i j : Int) : max2D [.int i, .int j] = .ok (.sh (.int (if j > i then j else i))) := rfl
@[simp] theorem v_min2 (i j : Int) : min2D [.int i, .int j] = .ok (.sh (.int (if j < i then j else i))) := rfl
@[simp] theorem v_lens (z : Str) : lenD [.str z] = if small z.length then .ok (.sh (.int z.length)) else .st := rfl
@[simp] theorem v_lenl (xs : List D) : lenD [.lst xs] = .ok (.sh (.int xs.length)) := rfl
@[simp] theorem v_lent (xs : List D) : lenD [.tup xs] = .ok (.sh (.int xs.length)) := rfl
@[simp] theorem v_lenr (xs : List Int) : lenD [.scr xs] = .ok (.sh (.int xs.length)) := rfl
@[simp] theorem v_trub (b : Bool) : truD (.bl b) = .ok b := rfl
@[simp] theorem v_iteml (xs : List D) : itemsD (.lst xs) = .ok xs := rfl
@[simp] theorem v_itemt (xs : List D) : itemsD (.tup xs) = .ok xs := rfl
@[simp] theorem v_itemr (xs : List Int) : itemsD (.scr xs) = .ok (xs.map D.int) := rfl
@[simp] theorem v_items (z : Str) : itemsD (.str z) = .ok (z.cps.toList.map sign) := rfl
@[simp] theorem v_enuml (xs : List D) : enumItems [.lst xs] = .ok (enumD 0 xs) := rfl
@[simp] theorem v_enumr (xs : List Int) : enumItems [.scr xs] = .ok (enumD 0 (xs.map D.int)) := rfl
@[simp] theorem v_sll (xs : List D) (lo hi : Option Int) : slD (.lst xs) lo hi = .ok (.lst (cutD xs lo hi)) := rfl
@[simp] theorem v_slr (ns : List Int) (lo hi : Option Int) : slD (.scr ns) lo hi = .ok (.lst ((cutD ns lo hi).map D.int)) := rfl
@[simp] theorem v_sls (z : Str) (lo hi : Option Int) : slD (.str z) lo hi = if small z.length then .ok (.sh (.str (cutS z lo hi))) else .st := rfl
@[simp] theorem v_ixl (xs : List D) (i : Int) : ixD (.lst xs) (.int i) = match atI xs i with
    | some d => .ok (.sh d)
    | none => .st := rfl
@[simp] theorem v_ixt (xs : List D) (i : Int) : ixD (.tup xs) (.int i) = match atI xs i with
    | some d => .ok (.sh d)
    | none => .st := rfl
@[simp] theorem v_ixr (xs : List Int) (i : Int) : ixD (.scr xs) (.int i) = match atI xs i with
    | some n => .ok (.sh (.int n))
    | none => .st := rfl
@[simp] theorem v_ixs (z : Str) (i : Int) : ixD (.str z) (.int i) = if small z.length then match atI z.cps.toList i with
    | some c => .ok (.sh (.str ⟨#[c]⟩))
    | none => .st
    else .st := rfl
@[simp] theorem v_isi (x : D) (n : String) : isiD [x, .ty n] = match tyD x with
    | some a => match isTy a n with
      | some b => .ok (.sh (.bl b))
      | none => .st
    | none => .st := rfl
end
/-! loops by what holds -/
/-- a for that goes through -/
theorem runL_goes {mg : D → En → Res En} {mb : En → Res Fl} (I : Nat → En → Prop) : ∀ (ds : List D) (k : Nat) (env : En), I k env →
    (∀ i d env, ds[i]? = some d → I (k + i) env → ∃ e e', mg d env = .ok e ∧ (mb e = .ok (.nx e') ∨ mb e = .ok (.ct e')) ∧ I (k + i + 1) e') →
    ∃ env', runL mg mb ds env = .ok (.nx env') ∧ I (k + ds.length) env'
  | [], k, env, h, _ => ⟨env, rfl, h⟩
  | d :: ds, k, env, h, step => by
    obtain ⟨e, e', h1, h2, h3⟩ := step 0 d env rfl h
    obtain ⟨env', h4, h5⟩ := runL_goes I ds (k + 1) e' h3 fun i x env hx hi => by
      have q := step (i + 1) x env (by simpa using hx) (by rw [show k + (i + 1) = k + 1 + i by omega]; exact hi)
      rw [show k + (i + 1) + 1 = k + 1 + i + 1 by omega] at q
      exact q
    refine ⟨env', ?_, by rw [List.length_cons, show k + (ds.length + 1) = k + 1 + ds.length by omega]; exact h5⟩
    rw [a_runLc, h1, Res.bind_ok]
    rcases h2 with h2 | h2 <;> rw [h2, Res.bind_ok] <;> exact h4
/-- a comprehension, item by item -/
theorem runC_map {mg : D → En → Res En} {mt : En → Res Bool} {me : En → Res D} {env : En} {α : Type} (g : α → D) (f : α → D) : ∀ (xs : List α), (∀ x ∈ xs, ∃ e, mg (g x) env = .ok e ∧ mt e = .ok true ∧ me e = .ok (f x)) →
    runC mg mt me (xs.map g) env = .ok (xs.map f)
  | [], _ => rfl
  | x :: xs, h => by
    obtain ⟨e, h1, h2, h3⟩ := h x List.mem_cons_self
    rw [List.map_cons, a_runCc, h1, Res.bind_ok, h2, Res.bind_ok, if_pos rfl, h3, Res.bind_ok, runC_map g f xs fun y hy => h y (List.mem_cons_of_mem _ hy)]
    rfl
theorem runC_filter {mg : D → En → Res En} {mt : En → Res Bool} {me : En → Res D} {env : En} {α : Type} (g : α → D) (p : α → Bool) (f : α → D) : ∀ (xs : List α), (∀ x ∈ xs, ∃ e, mg (g x) env = .ok e ∧ mt e = .ok (p x) ∧ (p x = true → me e = .ok (f x))) →
    runC mg mt me (xs.map g) env = .ok ((xs.filter p).map f)
  | [], _ => rfl
  | x :: xs, h => by
    obtain ⟨e, h1, h2, h3⟩ := h x List.mem_cons_self
    rw [List.map_cons, a_runCc, h1, Res.bind_ok, h2, Res.bind_ok, runC_filter g p f xs fun y hy => h y (List.mem_cons_of_mem _ hy)]
    cases hp : p x with
    | true => rw [if_pos rfl, h3 hp, List.filter_cons_of_pos hp]; rfl
    | false => rw [if_neg Bool.false_ne_true, List.filter_cons_of_neg (by rw [hp]; exact Bool.false_ne_true)]
theorem v_join {a : Str} {xs : List D} {ys : List Str} (h : strsD xs = some ys) (hz : (ys.map fun z => z.length).sum + ys.length * a.length ≤ 10000000) : joinD a (.lst xs) = .ok (.sh (.str (Txt.join a ys))) := by
  simp only [joinD]
  rw [h]
  show (if small _ = true then _ else _) = _
  rw [if_pos (a_small hz)]
end Ly

set_option Elab.async false
set_option linter.all false
set_option maxRecDepth 100000
namespace Ly
open PySem L2 PyProof.Rows

/-! ### texts in order -/
def leS (a b : Str) : Bool := !strLt b a
def sortS (xs : List Str) : List Str := xs.mergeSort leS
theorem leS_iff {a b : Str} : leS a b = true ↔ a.cps.toList ≤ b.cps.toList := by
  unfold leS strLt
  simp only [Bool.not_eq_true', decide_eq_false_iff_not]
  exact List.not_lt
theorem leS_trans (a b c : Str) (h : leS a b = true) (h' : leS b c = true) : leS a c = true := leS_iff.mpr (List.le_trans (leS_iff.mp h) (leS_iff.mp h'))
theorem leS_total (a b : Str) : (leS a b || leS b a) = true := by
  rcases List.le_total a.cps.toList b.cps.toList with h | h
  · rw [leS_iff.mpr h]; rfl
  · rw [leS_iff.mpr h, Bool.or_true]
theorem leS_anti {a b : Str} (h : leS a b = true) (h' : leS b a = true) : a = b := by
  have e := List.le_antisymm (leS_iff.mp h) (leS_iff.mp h')
  obtain ⟨⟨a⟩⟩ := a
  obtain ⟨⟨b⟩⟩ := b
  cases e
  rfl
theorem risingS_pw : ∀ (p : Str) (l : List Str), risingS p l = true → (p :: l).Pairwise fun a b => leS a b = true
  | p, [], _ => by simp
  | p, x :: r, h => by
    unfold risingS at h
    rw [Bool.and_eq_true] at h
    have ih := risingS_pw x r h.2
    have h1 : leS p x = true := by
      have := h.1
      rw [ltCps_eq] at this
      exact this
    refine List.pairwise_cons.mpr ⟨fun y hy => ?_, ih⟩
    rcases List.mem_cons.mp hy with rfl | hy
    · exact h1
    · exact leS_trans _ _ _ h1 (List.rel_of_pairwise_cons ih hy)
theorem sortS_pw (xs : List Str) : (sortS xs).Pairwise fun a b => leS a b = true := List.pairwise_mergeSort leS_trans leS_total xs
theorem sortS_of {xs ys : List Str} (hp : ys.Perm xs) (hs : sortedS ys = true) : ys = sortS xs := by
  have h1 : ys.Pairwise fun a b => leS a b = true := by
    cases ys with
    | nil => simp
    | cons x r => exact risingS_pw x r hs
  exact List.Perm.eq_of_pairwise (le := fun a b => leS a b = true) (fun a b _ _ h h' => leS_anti h h') h1 (sortS_pw xs) (hp.trans (List.mergeSort_perm xs leS).symm)

/-! ### keys as data -/
def kD : Key → D
  | .inl i => .int i
  | .inr z => .str z
theorem kD_rep {K : PySem.W.Frag} {S : Hp} (k : Key) : Rep K S (kV k) (kD k) := by
  cases k with
  | inl i => exact .int i
  | inr z => exact .str z
theorem kDs_rep {K : PySem.W.Frag} {S : Hp} : ∀ ks : List Key, Reps K S (ks.map kV) (ks.map kD)
  | [] => .nil
  | k :: ks => .cons (kD_rep k) (kDs_rep ks)
/-! put -/
section
variable {κ : Type} [DecidableEq κ]
def putKs (ks : List κ) (k : κ) : List κ := if k ∈ ks then ks else ks ++ [k]
def putXs {α : Type} (ks : List κ) (xs : List α) (k : κ) (x : α) : List α := if k ∈ ks then List.zipWith (fun k' x' => if k' = k then x else x') ks xs else xs ++ [x]
theorem zip_same : ∀ (ks : List κ) (vs : List V) (k : κ) (v : V), vs.length = ks.length → (ks.zip vs).map (fun kv => if kv.1 = k then (kv.1, v) else kv) = ks.zip (List.zipWith (fun k' x' => if k' = k then v else x') ks vs)
  | [], [], _, _, _ => rfl
  | a :: ks, b :: vs, k, v, h => by
    rw [List.zip_cons_cons, List.map_cons, List.zipWith_cons_cons, List.zip_cons_cons, zip_same ks vs k v (by simpa using h)]
    by_cases e : a = k
    · simp [e]
    · simp [e]
theorem zip_any : ∀ (ks : List κ) (vs : List V) (k : κ), vs.length = ks.length → ((ks.zip vs).any fun kv => decide (kv.1 = k)) = decide (k ∈ ks)
  | [], [], _, _ => by simp
  | a :: ks, b :: vs, k, h => by
    rw [List.zip_cons_cons, List.any_cons, zip_any ks vs k (by simpa using h)]
    by_cases e : a = k
    · simp [e]
    · have e' : k ≠ a := fun z => e z.symm
      simp [e, e']
theorem putK_zip (ks : List κ) (vs : List V) (k : κ) (v : V) (h : vs.length = ks.length) : putK (ks.zip vs) k v = (putKs ks k).zip (putXs ks vs k v) := by
  unfold putK putKs putXs
  rw [zip_any ks vs k h]
  by_cases e : k ∈ ks
  · simp only [e, decide_true, if_true]
    exact zip_same ks vs k v h
  · simp only [e, decide_false, if_false, Bool.false_eq_true]
    rw [List.zip_append h.symm]
    rfl
theorem put_len {α : Type} (ks : List κ) (xs : List α) (k : κ) (x : α) (h : xs.length = ks.length) : (putXs ks xs k x).length = (putKs ks k).length := by
  unfold putKs putXs
  by_cases e : k ∈ ks
  · simp [e, h]
  · simp [e, h]
theorem put_rep {K : PySem.W.Frag} {S : Hp} {v : V} {d : D} (r : Rep K S v d) (ks : List κ) (k : κ) {vs : List V} {xs : List D} (q : Reps K S vs xs) : Reps K S (putXs ks vs k v) (putXs ks xs k d) := by
  unfold putXs
  by_cases e : k ∈ ks
  · simp only [e, if_true]
    clear e
    induction ks generalizing vs xs with
    | nil => exact .nil
    | cons a ks ih =>
      cases q with
      | nil => exact .nil
      | cons q1 q2 =>
        rw [List.zipWith_cons_cons, List.zipWith_cons_cons]
        by_cases z : a = k
        · simp only [z, if_true]; exact .cons r (ih q2)
        · simp only [z, if_false]; exact .cons q1 (ih q2)
  · simp only [e, if_false]
    exact q.app (.cons r .nil)
end
def putDic (k : D) (x : D) : W → Res W
  | .dic ks xs => match toK k with
    | some key => if small ks.length then .ok (.dic (putKs ks key) (putXs ks xs key x)) else .st
    | none => .st
  | .dit ks xs => match k with
    | .tup ds => match toKs ds with
      | some key => if small ks.length then .ok (.dit (putKs ks key) (putXs ks xs key x)) else .st
      | none => .st
    | _ => .st
  | _ => .st
def mDPut (F : List Nat) (i : Nat) (mk mv : En → Res D) : En → Res Fl := fun env => (mv (fz F env)).bind fun x => match (fz F env)[i]? with
  | some (some w) => (mk (fz F env)).bind fun k => (putDic k x w).map fun w' => .nx ((fz F env).set i (some w'))
  | _ => .st
theorem putDic_ex {k x : D} {w : W} {z : Xc} (h : putDic k x w = .ex z) : False := by
  unfold putDic at h
  repeat' split at h
  all_goals cases h
theorem putDic_ok {K : PySem.W.Frag} {f : Fm} {B S0 S H : Hp} {env : En} {σ : L2.St} {i : Nat} {w w' : W} {u y v : V} {k d : D} {nx : L2.St → Hp → Prop} (x : StOk K f B S0 env σ S H) (e : env[i]? = some (some w)) (a : σ[i]? = some (some u)) (rk : Rep K S y k) (rv : Rep K S v d) (h : putDic k d w = .ok w')
    (q : ∀ H', StOk K f B S0 (env.set i (some w')) σ S H' → nx σ H') : ∃ a H4, u = .ref a ∧ DPut H a y v H4 ∧ nx σ H4 := by
  obtain ⟨u', fp', a', b', c'⟩ := x.vw.at_ i _ e
  rw [a] at a'
  cases a'
  unfold putDic at h
  split at h
  · split at h <;> first | cases h | skip
    rename_i key hkey
    split at h <;> first | cases h | skip
    rename_i hs
    cases b' with
    | dic hp hl hr =>
      refine ⟨_, _, rfl, .inl ⟨_, key, hp, toK_rep rk hkey, by rw [List.length_zip, hl, Nat.min_self]; exact small_line hs, rfl⟩, ?_⟩
      rw [putK_zip _ _ _ _ hl]
      refine q _ (x.mut e (fun fq o => ?_) a (.dic upd_same (put_len _ _ _ _ hl) (put_rep rv _ _ hr)))
      cases o; rfl
  · split at h <;> first | cases h | skip
    rename_i ds
    split at h <;> first | cases h | skip
    rename_i key hkey
    split at h <;> first | cases h | skip
    rename_i hs
    cases b' with
    | dit hp hl hr =>
      cases rk with
      | tup e3 q3 =>
        refine ⟨_, _, rfl, .inr ⟨_, key, _, hp, rfl, by rw [x.sub _ _ e3, toKs_rep q3 hkey], by rw [List.length_zip, hl, Nat.min_self]; exact small_line hs, rfl⟩, ?_⟩
        rw [putK_zip _ _ _ _ hl]
        refine q _ (x.mut e (fun fq o => ?_) a (.dit upd_same (put_len _ _ _ _ hl) (put_rep rv _ _ hr)))
        cases o; rfl
  · cases h
section
variable {K : PySem.W.Frag} {Mu : List Nat} {E : XK}
instance semS_dput {i : Nat} {tk tv : TE} {Fk Fv : List Nat} {mk mv : En → Res W} [hv : SemE K E tv Fv mv] [hk : SemE K E tk Fk mk] : SemS K Mu E (sDPut (tVar i) tk tv) (mDPut (Fv ++ Fk) i (mD mk) (mD mv)) where
  run := fun {f B S0 D env σ S H} hm x p => by
    obtain ⟨S1, x1, s1⟩ := x.fz (Fv ++ Fk)
    unfold mDPut at p
    cases ev : mD mv (fz (Fv ++ Fk) env) with
    | ex z => rw [ev] at p; exact hv.ex x1.vw (Res.of_exm ev) (xr_up x1.base p)
    | st => rw [ev] at p; exact p.elim
    | ok d =>
      rw [ev] at p
      simp only [Res.bind_ok] at p
      refine hv.okD x1.vw ev fun v S2 H2 g2 r2 => ?_
      have x2 := x1.gr g2
      split at p
      · rename_i w e
        obtain ⟨u, fp, a, b, c⟩ := x2.vw.at_ i _ e
        refine ⟨u, a, ?_⟩
        cases ek : mD mk (fz (Fv ++ Fk) env) with
        | st => rw [ek] at p; exact p.elim
        | ex z => rw [ek] at p; exact hk.ex x2.vw (Res.of_exm ek) (xr_up x2.base p)
        | ok kd =>
          rw [ek] at p
          simp only [Res.bind_ok] at p
          refine hk.okD x2.vw ek fun y S3 H3 g3 r3 => ?_
          cases ep : putDic kd d w with
          | st => rw [ep] at p; exact p.elim
          | ex z => exact (putDic_ex ep).elim
          | ok w' =>
            rw [ep] at p
            exact putDic_ok (x2.gr g3) e a r3 (r2.up g3.ss) ep fun H' x' => p _ _ _ x' ((s1.trans g2.ss).trans g3.ss)
      · exact p.elim
/-! d.clear() -/
def mDClear (i : Nat) : En → Res Fl := fun env => match env[i]? with
  | some (some (.dic ks xs)) => .ok (.nx (env.set i (some (.dic [] []))))
  | _ => .st
instance semS_dclear {i : Nat} : SemS K Mu E (tDrop (tBM0 K "dict" rDClear (tVar i))) (mDClear i) where
  run := fun {f B S0 D env σ S H} hm x p => by
    unfold mDClear at p
    split at p
    · rename_i ks xs e
      obtain ⟨u, fp, a, b, c⟩ := x.vw.at_ i _ e
      cases b with
      | dic hp hl hr =>
        refine ⟨_, a, .inr (.inr (.inl ⟨rfl, .inl ⟨_, hp⟩⟩)), _, _, rfl, rfl, hp, ?_⟩
        refine p _ _ _ (x.mut e (fun fq o => ?_) a (.dic (ks := []) (vs := []) upd_same rfl .nil)) (Same.refl S)
        cases o; rfl
    · exact p.elim
/-! xs.clear() -/
def mLClear (i : Nat) : En → Res Fl := fun env => match env[i]? with
  | some (some (.lst xs)) => .ok (.nx (env.set i (some (.lst []))))
  | _ => .st
instance semS_lclear {i : Nat} : SemS K Mu E (tDrop (tBM0 K "list" rClear (tVar i))) (mLClear i) where
  run := fun {f B S0 D env σ S H} hm x p => by
    unfold mLClear at p
    split at p
    · rename_i xs e
      obtain ⟨u, fp, a, b, c⟩ := x.vw.at_ i _ e
      cases b with
      | lst hp hr =>
        refine ⟨_, a, .inl ⟨rfl, _, SqL.of hp⟩, _, _, rfl, rfl, hp, ?_⟩
        refine p _ _ _ (x.mut e (fun fq o => ?_) a (.lst upd_same .nil)) (Same.refl S)
        cases o; rfl
    · exact p.elim
/-! what is never reached -/
def mNever : En → Res Fl := fun _ => .st
instance semS_never : SemS K Mu E tNever mNever where
  run := fun _ _ p => p.elim
end

/-! ### built-in calls: sorted, str, int, dict, list -/
section
variable {K : PySem.W.Frag}
def rSortedDc : List V → Hp → VK → Prop := fun xs H Q => ∃ (a : Addr) (kvs : List (Key × V)) (ks : List Str), xs = [.ref a] ∧ Rd H a (.dK kvs) ∧ kvs.map (·.1) = ks.map Sum.inr ∧ ks.length < 64 ∧
    ∀ ys p, ys.Perm ks → sortedS ys = true → H p = none → Q (.ref p) (upd H p (.lst (ys.map V.str)))
def rSortU (K : PySem.W.Frag) : List V → Hp → VK → Prop := fun xs H Q => rSortedI K xs H Q ∨ rSortedS K xs H Q ∨ rSortedDc xs H Q
theorem call_sortU {X : Cx} (hc : X.calm = true) (hK : X.K = K) : CallR X (.builtin "sorted") (rSortU K) := by
  subst hK
  exact CallR.or cr_sortedI (CallR.or cr_sortedS (call_sortedD hc))
def keyTexts : List Key → Option (List Str)
  | [] => some []
  | .inr z :: ks => (keyTexts ks).map fun zs => z :: zs
  | .inl _ :: _ => none
theorem keyTexts_of : ∀ {ks : List Key} {zs : List Str}, keyTexts ks = some zs → ks = zs.map Sum.inr
  | [], _, h => by cases h; rfl
  | .inr z :: ks, _, h => by
    unfold keyTexts at h
    obtain ⟨zs, h1, rfl⟩ := Option.map_eq_some_iff.mp h
    rw [keyTexts_of h1]
    rfl
  | .inl _ :: _, _, h => by cases h
def intsD : List D → Option (List Int)
  | [] => some []
  | .int x :: ds => (intsD ds).map fun xs => x :: xs
  | _ :: _ => none
theorem intsD_rep {S : Hp} : ∀ {vs : List V} {ds : List D} {xs : List Int}, Reps K S vs ds → intsD ds = some xs → vs = xs.map V.int
  | _, _, _, .nil, h => by cases h; rfl
  | _, _, _, .cons r t, h => by
    unfold intsD at h
    split at h
    · rename_i e; cases e
    · rename_i x ds e
      cases e
      obtain ⟨xs, h1, rfl⟩ := Option.map_eq_some_iff.mp h
      cases r
      rw [intsD_rep t h1]
      rfl
    · cases h
def sortI (ns : List Int) : List Int := ns.mergeSort fun a b => decide (a ≤ b)
theorem sortI_of {xs ys : List Int} (hp : ys.Perm xs) (hs : ys.Pairwise (· ≤ ·)) : ys = sortI xs := by
  have h2 : (sortI xs).Pairwise fun a b => decide (a ≤ b) = true := List.pairwise_mergeSort (fun a b c h h' => by simp at h h' ⊢; omega) (fun a b => by simp; omega) xs
  exact List.Perm.eq_of_pairwise (le := fun a b => decide (a ≤ b) = true) (fun a b _ _ h h' => by simp at h h'; omega) (hs.imp fun h => by simpa using h) h2 (hp.trans (List.mergeSort_perm xs _).symm)
theorem strs_reps {S : Hp} : ∀ zs : List Str, Reps K S (zs.map V.str) (zs.map D.str)
  | [] => .nil
  | z :: zs => .cons (.str z) (strs_reps zs)
def sortDL (xs : List D) : Res W := match intsD xs with
  | some ns => .ok (.lst ((sortI ns).map D.int))
  | none => match strsD xs with
    | some zs => if zs.length < 64 then .ok (.lst ((sortS zs).map D.str)) else .st
    | none => .st
def sortD : List D → Res W
  | [.lst xs] => sortDL xs
  | [.dic ks xs] => match keyTexts ks with
    | some zs => if zs.length < 64 then .ok (.lst ((sortS zs).map D.str)) else .st
    | none => .st
  | _ => .st
instance calV_sort : CalV K (rSortU K) sortD where
  ok := fun {S H vs ds Q w} hs r h k => by
    unfold sortD at h
    split at h <;> first | cases h | skip
    · rename_i xs
      obtain ⟨v, rfl, r1⟩ := views1 r
      obtain ⟨p, us, rfl, hp, q⟩ := r1.lst_inv hs
      unfold sortDL at h
      split at h
      · rename_i ns hn
        cases h
        have := intsD_rep q hn
        subst this
        refine .inl ⟨p, ns, rfl, SqL.of hp, fun ys l h1 h2 hl => ?_⟩
        rw [sortI_of h1 h2]
        exact k _ S _ _ (.lst (.refl hs) (hs.free hl) hl (Reps.ints _))
      · split at h <;> first | cases h | skip
        rename_i zs hz
        split at h <;> first | cases h | skip
        rename_i h64
        have := strsD_rep q hz
        subst this
        refine .inr (.inl ⟨p, zs, rfl, SqL.of hp, h64, fun ys l h1 h2 hl => ?_⟩)
        rw [sortS_of h1 h2]
        exact k _ S _ _ (.lst (.refl hs) (hs.free hl) hl (strs_reps _))
    · split at h <;> first | cases h | skip
      rename_i zs hz
      split at h <;> first | cases h | skip
      rename_i h64
      obtain ⟨v, rfl, r1⟩ := views1 r
      obtain ⟨p, us, rfl, hp, hl0, q⟩ := r1.dic_inv hs
      refine .inr (.inr ⟨p, _, zs, rfl, hp, by rw [zip_map_fst hl0.symm]; exact keyTexts_of hz, h64, fun ys l h1 h2 hl => ?_⟩)
      rw [sortS_of h1 h2]
      exact k _ S _ _ (.lst (.refl hs) (hs.free hl) hl (strs_reps _))
  ex := fun h => by
    unfold sortD at h
    split at h <;> first | cases h | skip
    · unfold sortDL at h
      repeat' split at h
      all_goals cases h
    · repeat' split at h
      all_goals cases h
/-! str, int -/
def rStrU : List V → Hp → VK → Prop := fun xs H Q => (∃ i, xs = [.int i] ∧ i.natAbs.log2 < 1920 ∧ Q (.str (toString i)) H) ∨ ∃ a, xs = [.str a] ∧ Q (.str a) H
theorem call_strU {X : Cx} : CallR X (.type "str") rStrU := CallR.or call_str_int SkE.call_str_str
def strD : List D → Res W
  | [.int i] => if i.natAbs.log2 < 1920 then .ok (.sh (.str (toString i))) else .st
  | [.str a] => .ok (.sh (.str a))
  | _ => .st
instance calV_str : CalV K rStrU strD where
  ok := fun {S H vs ds Q w} hs r h k => by
    unfold strD at h
    split at h <;> first | cases h | skip
    · split at h <;> first | cases h | skip
      rename_i hz
      obtain ⟨v, rfl, r1⟩ := views1 r
      cases r1.int_inv
      exact .inl ⟨_, rfl, hz, k _ S H [] (.sh (.refl hs) (.str _))⟩
    · obtain ⟨v, rfl, r1⟩ := views1 r
      cases r1.str_inv
      exact .inr ⟨_, rfl, k _ S H [] (.sh (.refl hs) (.str _))⟩
  ex := fun h => by
    unfold strD at h
    repeat' split at h
    all_goals cases h
def rIntU : List V → Hp → VK → Prop := fun xs H Q => ((∃ i, xs = [.int i] ∧ Q (.int i) H) ∨ ∃ k, xs = [.bl k] ∧ Q (.int (if k then 1 else 0)) H) ∨ ∃ a n, xs = [.str a] ∧ PySem.intText? a = some n ∧ a.length ≤ 640 ∧ Q (.int n) H
theorem call_intU {X : Cx} : CallR X (.type "int") rIntU := CallR.or call_int1 call_int_str
def intD : List D → Res W
  | [.int i] => .ok (.sh (.int i))
  | [.bl k] => .ok (.sh (.int (if k then 1 else 0)))
  | [.str a] => match PySem.intText? a with
    | some n => if a.length ≤ 640 then .ok (.sh (.int n)) else .st
    | none => .st
  | _ => .st
instance calV_int : CalV K rIntU intD where
  ok := fun {S H vs ds Q w} hs r h k => by
    unfold intD at h
    split at h <;> first | cases h | skip
    · obtain ⟨v, rfl, r1⟩ := views1 r
      cases r1.int_inv
      exact .inl (.inl ⟨_, rfl, k _ S H [] (.sh (.refl hs) (.int _))⟩)
    · obtain ⟨v, rfl, r1⟩ := views1 r
      cases r1.bl_inv
      exact .inl (.inr ⟨_, rfl, k _ S H [] (.sh (.refl hs) (.int _))⟩)
    · split at h <;> first | cases h | skip
      rename_i n hn
      split at h <;> first | cases h | skip
      rename_i hz
      obtain ⟨v, rfl, r1⟩ := views1 r
      cases r1.str_inv
      exact .inr ⟨_, n, rfl, hn, hz, k _ S H [] (.sh (.refl hs) (.int _))⟩
  ex := fun h => by
    unfold intD at h
    repeat' split at h
    all_goals cases h
/-! list -/
def rListU (K : PySem.W.Frag) : List V → Hp → VK → Prop := fun xs H Q => (∃ p ys, xs = [.ref p] ∧ (SqL K H p ys ∨ SqT K H p ys) ∧ ∀ l, H l = none → Q (.ref l) (upd H l (.lst ys))) ∨
  ∃ (a : Addr) (kvs : List (Key × V)), xs = [.ref a] ∧ Rd H a (.dK kvs) ∧ ∀ p, H p = none → Q (.ref p) (upd H p (.lst (kvs.map fun kv => kV kv.1)))
theorem call_listU {X : Cx} (hc : X.calm = true) (hK : X.K = K) : CallR X (.type "list") (rListU K) := by
  subst hK
  exact CallR.or call_list_of (call_listD hc)
def listD : List D → Res W
  | [.lst xs] => .ok (.lst xs)
  | [.tup xs] => .ok (.lst xs)
  | [.ktup xs] => .ok (.lst xs)
  | [.scr ns] => .ok (.lst (ns.map D.int))
  | [.dic ks xs] => .ok (.lst (ks.map kD))
  | _ => .st
theorem zip_kVs {ks : List Key} {vs : List V} (h : vs.length = ks.length) : ((ks.zip vs).map fun kv => kV kv.1) = ks.map kV := by
  rw [show (fun kv : Key × V => kV kv.1) = kV ∘ (·.1) from rfl, ← List.map_map, zip_map_fst h.symm]
instance calV_list : CalV K (rListU K) listD where
  ok := fun {S H vs ds Q w} hs r h k => by
    unfold listD at h
    split at h <;> first | cases h | skip
    all_goals obtain ⟨v, rfl, r1⟩ := views1 r
    · obtain ⟨p, us, rfl, hp, q⟩ := r1.lst_inv hs
      exact .inl ⟨p, us, rfl, .inl (SqL.of hp), fun l hl => k _ S _ _ (.lst (.refl hs) (hs.free hl) hl q)⟩
    · obtain ⟨p, us, rfl, hp, q⟩ := r1.tup_inv
      exact .inl ⟨p, us, rfl, .inr (SqT.of (hs _ _ hp)), fun l hl => k _ S _ _ (.lst (.refl hs) (hs.free hl) hl q)⟩
    · obtain ⟨p, us, rfl, hp, q⟩ := r1.ktup_inv
      exact .inl ⟨p, us, rfl, .inr (sqT_up hs hp), fun l hl => k _ S _ _ (.lst (.refl hs) (hs.free hl) hl q)⟩
    · obtain ⟨p, rfl, hp⟩ := r1.scr_inv
      exact .inl ⟨p, _, rfl, .inl (hs.seq hp), fun l hl => k _ S _ _ (.lst (.refl hs) (hs.free hl) hl (Reps.ints _))⟩
    · obtain ⟨p, us, rfl, hp, hl0, q⟩ := r1.dic_inv hs
      refine .inr ⟨p, _, rfl, hp, fun l hl => ?_⟩
      rw [zip_kVs hl0]
      exact k _ S _ _ (.lst (.refl hs) (hs.free hl) hl (kDs_rep _))
  ex := fun h => by
    unfold listD at h
    split at h <;> cases h
end
end Ly

set_option Elab.async false
set_option linter.all false
set_option maxRecDepth 100000
namespace Ly
open PySem L2 PyProof.Rows
section
variable {K : PySem.W.Frag}

/-! ### dict(..) -/
def rDictU (K : PySem.W.Frag) : List V → Hp → VK → Prop := fun xs H Q => (∃ (a : Addr) (ps : List Addr) (kvs : List (Key × V)), xs = [.ref a] ∧ SqL K H a (ps.map V.ref) ∧ Paired (fun p kv => SqT K H p [kV kv.1, kv.2]) ps kvs ∧
    ∀ p, H p = none → Q (.ref p) (upd H p (.dK (mergeK [] kvs)))) ∨ ∃ (a : Addr) (kvs : List (Key × V)), xs = [.ref a] ∧ Rd H a (.dK kvs) ∧ ∀ p, H p = none → Q (.ref p) (upd H p (.dK kvs))
theorem call_dictU {X : Cx} (hc : X.calm = true) (hK : X.K = K) : CallR X (.type "dict") (rDictU K) := by
  subst hK
  exact CallR.or (call_dictP hc) call_dictD
def pairD : D → Option (Key × D)
  | .tup [k, x] => (toK k).map fun key => (key, x)
  | _ => none
def pairsD : List D → Option (List (Key × D))
  | [] => some []
  | d :: ds => (pairD d).bind fun p => (pairsD ds).map fun ps => p :: ps
def mergeD : List Key → List D → List (Key × D) → List Key × List D
  | ks, xs, [] => (ks, xs)
  | ks, xs, (k, x) :: r => mergeD (putKs ks k) (putXs ks xs k x) r
theorem pairsD_rep {S : Hp} : ∀ {us : List V} {xs : List D} {ps : List (Key × D)}, Reps K S us xs → pairsD xs = some ps →
    ∃ (as : List Addr) (kvs : List (Key × V)), us = as.map V.ref ∧ Paired (fun p (kv : Key × V) => S p = some (.tup [kV kv.1, kv.2])) as kvs ∧ kvs.map (·.1) = ps.map (·.1) ∧ Reps K S (kvs.map (·.2)) (ps.map (·.2))
  | _, _, _, .nil, h => by cases h; exact ⟨[], [], rfl, .nil, rfl, .nil⟩
  | _, _, _, .cons r t, h => by
    unfold pairsD at h
    obtain ⟨p, h1, h⟩ := Option.bind_eq_some_iff.mp h
    obtain ⟨ps, h2, rfl⟩ := Option.map_eq_some_iff.mp h
    obtain ⟨as, kvs, rfl, e2, e3, e4⟩ := pairsD_rep t h2
    unfold pairD at h1
    split at h1
    · rename_i k x
      obtain ⟨key, hk, rfl⟩ := Option.map_eq_some_iff.mp h1
      cases r with
      | tup e q =>
        cases q with
        | cons q1 q2 =>
          cases q2 with
          | cons q2 q3 =>
            cases q3
            have := toK_rep q1 hk
            subst this
            refine ⟨_ :: as, (key, _) :: kvs, rfl, .cons e e2, ?_, .cons q2 e4⟩
            rw [List.map_cons, List.map_cons, e3]
    · cases h1
theorem mergeK_zip {S : Hp} : ∀ (ps : List (Key × D)) (kvs : List (Key × V)) (ks : List Key) (vs : List V) (xs : List D), kvs.map (·.1) = ps.map (·.1) → Reps K S (kvs.map (·.2)) (ps.map (·.2)) → vs.length = ks.length → Reps K S vs xs →
    ∃ ws, mergeK (ks.zip vs) kvs = (mergeD ks xs ps).1.zip ws ∧ ws.length = (mergeD ks xs ps).1.length ∧ Reps K S ws (mergeD ks xs ps).2
  | [], [], ks, vs, xs, _, _, hl, hr => ⟨vs, rfl, hl, hr⟩
  | (k, x) :: ps, (k', v) :: kvs, ks, vs, xs, h1, h2, hl, hr => by
    rw [List.map_cons, List.map_cons] at h1
    have h1a : k' = k := (List.cons.inj h1).1
    have h1b := (List.cons.inj h1).2
    subst h1a
    rw [List.map_cons, List.map_cons] at h2
    cases h2 with
    | cons r t =>
      have e : mergeK (ks.zip vs) ((k', v) :: kvs) = mergeK ((putKs ks k').zip (putXs ks vs k' v)) kvs := by
        show mergeK (putK (ks.zip vs) k' v) kvs = _
        rw [putK_zip _ _ _ _ hl]
      rw [e]
      exact mergeK_zip ps kvs _ _ _ h1b t (put_len _ _ _ _ hl) (put_rep r _ _ hr)
def dictD : List D → Res W
  | [.lst xs] => match pairsD xs with
    | some ps => .ok (.dic (mergeD [] [] ps).1 (mergeD [] [] ps).2)
    | none => .st
  | [.dic ks xs] => .ok (.dic ks xs)
  | _ => .st
theorem New.dic {S H : Hp} {p : Addr} {ks : List Key} {vs : List V} {xs : List D} (hs : Same S H) (hn : H p = none) (hl : vs.length = ks.length) (r : Reps K S vs xs) : New K S H S (upd H p (.dK (ks.zip vs))) (.ref p) (.dic ks xs) [p] :=
  ⟨.hp hs fun a o e => by rw [upd_ne (ne_of_none e hn)]; exact e, .dic upd_same hl r, by simp, fun q hq => by rw [List.mem_singleton.mp hq]; exact ⟨hn, hs.free hn⟩⟩
theorem paired_imp {α β : Type} {F G : α → β → Prop} (h : ∀ a b, F a b → G a b) : ∀ {xs : List α} {ys : List β}, Paired F xs ys → Paired G xs ys
  | _, _, .nil => .nil
  | _, _, .cons r t => .cons (h _ _ r) (paired_imp h t)
instance calV_dict : CalV K (rDictU K) dictD where
  ok := fun {S H vs ds Q w} hs r h k => by
    unfold dictD at h
    split at h <;> first | cases h | skip
    · split at h <;> first | cases h | skip
      rename_i xs ps hps
      obtain ⟨v, rfl, r1⟩ := views1 r
      obtain ⟨p, us, rfl, hp, q⟩ := r1.lst_inv hs
      obtain ⟨as, kvs, rfl, e2, e3, e4⟩ := pairsD_rep q hps
      obtain ⟨ws, f1, f2, f3⟩ := mergeK_zip ps kvs [] [] [] e3 e4 rfl .nil
      refine .inl ⟨p, as, kvs, rfl, SqL.of hp, paired_imp (fun a b e => SqT.of (hs _ _ e)) e2, fun l hl => ?_⟩
      rw [show ([] : List (Key × V)) = ([] : List Key).zip ([] : List V) from rfl, f1]
      exact k _ S _ _ (.dic hs hl f2 f3)
    · obtain ⟨v, rfl, r1⟩ := views1 r
      obtain ⟨p, us, rfl, hp, hl0, q⟩ := r1.dic_inv hs
      exact .inr ⟨p, _, rfl, hp, fun l hl => k _ S _ _ (.dic hs hl hl0 q)⟩
  ex := fun h => by
    unfold dictD at h
    repeat' split at h
    all_goals cases h

/-! ### list(d.items()), d an own dict of a slot -/
def itemsP : List Key → List D → List D
  | k :: ks, x :: xs => .tup [kD k, x] :: itemsP ks xs
  | _, _ => []
theorem itemsP_rep {S' : Hp} : ∀ {ks : List Key} {vs : List V} {xs : List D} {ts : List Addr}, vs.length = ks.length → Reps K S' vs xs → Paired (fun (t : Addr) (q : Key × V) => S' t = some (.tup [kV q.1, q.2])) ts (ks.zip vs) → Reps K S' (ts.map V.ref) (itemsP ks xs)
  | [], [], _, _, _, .nil, .nil => .nil
  | k :: ks, v :: vs, _, _, h, .cons r t, p => by
    rw [List.zip_cons_cons] at p
    cases p with
    | cons e p => exact .cons (.tup e (.cons (kD_rep k) (.cons r .nil))) (itemsP_rep (by simpa using h) t p)
def mItemsL (i : Nat) : En → Res W := fun e => match e[i]? with
  | some (some (.dic ks xs)) => .ok (.lst (itemsP ks xs))
  | _ => .st
instance semE_itemsL {E : XK} {i : Nat} : SemE K E (LiI.tListItems (tVar i)) [] (mItemsL i) where
  ok := fun {env σ S H Q w} x e k => by
    unfold mItemsL at e
    split at e
    · rename_i ks xs h
      cases e
      obtain ⟨v, fp, a, b, c⟩ := x.at_ _ _ h
      cases b with
      | dic hp hl hr =>
        refine ⟨_, a, _, _, rfl, hp, fun H' p ts k1 k2 k3 k4 k5 k6 => ?_⟩
        have g0 : Gr S H S H' := .hp x.sub k1
        have nS : ∀ t ∈ ts, S t = none := fun t ht => x.sub.free (k3 t ht)
        refine k (.ref p) (frz S H' ts) H' [p] ⟨g0.frz fun t ht => ⟨k3 t ht, nS t ht⟩, .lst k5 (itemsP_rep hl (hr.up (frz_same nS)) ?_), by simp, fun q hq => ?_⟩
        · have : ∀ (us : List Addr) (kvs : List (Key × V)), (∀ t ∈ us, t ∈ ts) → Paired (fun (t : Addr) (q : Key × V) => H' t = some (.tup [kV q.1, q.2])) us kvs → Paired (fun (t : Addr) (q : Key × V) => frz S H' ts t = some (.tup [kV q.1, q.2])) us kvs := by
            intro us kvs hm hp
            induction hp with
            | nil => exact .nil
            | cons r t ih => exact .cons (by rw [frz_at (hm _ List.mem_cons_self)]; exact r) (ih fun t ht => hm t (List.mem_cons_of_mem _ ht))
          exact this ts _ (fun t ht => ht) k6
        · rw [List.mem_singleton.mp hq]
          exact ⟨k2, by rw [frz_out k4]; exact x.sub.free k2⟩
    · cases e
  ex := fun x e k => by
    unfold mItemsL at e
    split at e <;> cases e

/-! ### xs[::-1] -/
def revD : D → Res W
  | .lst xs => .ok (.lst xs.reverse)
  | .scr ns => .ok (.lst (ns.map D.int).reverse)
  | _ => .st
def mRev (m : En → Res D) : En → Res W := fun e => (m e).bind revD
theorem Reps.rev {S : Hp} : ∀ {vs : List V} {ds : List D}, Reps K S vs ds → Reps K S vs.reverse ds.reverse
  | _, _, .nil => .nil
  | _, _, .cons r t => by
    rw [List.reverse_cons, List.reverse_cons]
    exact (Reps.rev t).app (.cons r .nil)
instance semE_rev {E : XK} {te : TE} {F : List Nat} {m : En → Res D} [h : SemV K E te F m] : SemE K E (tRevL K te) F (mRev m) where
  ok := fun {env σ S H Q w} x e k => by
    obtain ⟨d, e1, e2⟩ := Res.of_ok e
    refine h.ok x e1 fun v S1 H1 g r => ?_
    unfold revD at e2
    split at e2 <;> cases e2
    · obtain ⟨p, vs, rfl, hp, q⟩ := r.lst_inv g.sub
      exact ⟨_, _, rfl, SqL.of hp, fun l hl => k _ S1 _ _ (.lst g (g.sub.free hl) hl q.rev)⟩
    · obtain ⟨p, rfl, hp⟩ := r.scr_inv
      exact ⟨_, _, rfl, g.sub.seq hp, fun l hl => k _ S1 _ _ (.lst g (g.sub.free hl) hl (Reps.ints _).rev)⟩
  ex := fun {env σ S H Q w} x e k => by
    rcases Res.of_ex e with e1 | ⟨d, e1, e2⟩
    · exact h.ex x e1 k
    · unfold revD at e2
      split at e2 <;> cases e2

/-! ### dicts compared -/
def shp (d : D) : Bool := SeqAt.shaped (toP d)
def dicHits : List Key → List D → List Key → List D → Bool
  | k :: ks, x :: xs, ls, ys => match dlook ls ys k with
    | some y => PyData.eqv (toP x) (toP y) && dicHits ks xs ls ys
    | none => false
  | _, _, _, _ => true
def dicEq (ks : List Key) (xs : List D) (ls : List Key) (ys : List D) : Bool := ks.length == ls.length && dicHits ks xs ls ys
def rEqDc (K : PySem.W.Frag) (f : Bool → Bool) : R2 := fun x y H Q => ∃ a b ks vs xs ls us ys, x = .ref a ∧ y = .ref b ∧ Rd H a (.dK (ks.zip vs)) ∧ Rd H b (.dK (ls.zip us)) ∧ vs.length = ks.length ∧ us.length = ls.length ∧ Reps K H vs xs ∧ Reps K H us ys ∧ xs.all shp = true ∧ ys.all shp = true ∧ Q (.bl (f (dicEq ks xs ls ys))) H
theorem dlook_in {κ : Type} [DecidableEq κ] {k : κ} {y : D} : ∀ {ls : List κ} {ys : List D}, dlook ls ys k = some y → y ∈ ys
  | [], _, h => by simp [dlook] at h
  | _ :: _, [], h => by simp [dlook] at h
  | a :: ls, z :: ys, h => by
    unfold dlook at h
    rw [List.zip_cons_cons, List.find?_cons] at h
    split at h
    · simp at h; rw [h]; exact List.mem_cons_self
    · exact List.mem_cons_of_mem _ (dlook_in (k := k) h)
theorem hits_of {X : Cx} {pins : List (Addr × Obj)} {σ : L2.St} {H : Hp} {s : Shared} (I : Inv X pins σ H s) {A : Around} (hu : A.units + 64 < cLine) {ls : List Key} {us : List V} {ys : List D} {kb : List (Key × Value)} (rb : KV (ls.zip us) kb) (ru : Reps X.K H us ys) (hy : ys.all shp = true) :
    ∀ (ks : List Key) (vs : List V) (xs : List D) (ka : List (Key × Value)), vs.length = ks.length → KV (ks.zip vs) ka → Reps X.K H vs xs → xs.all shp = true → PySem.W.KeqHits A s kb ka (dicHits ks xs ls ys)
  | [], [], [], [], _, _, _, _ => .nil
  | [], [], [], _ :: _, _, r, _, _ => by cases r
  | k :: ks, v :: vs, _, ka, hl, ra, .cons rx rt, hx => by
    rename_i x xs
    rw [List.zip_cons_cons] at ra
    cases ra with
    | cons r t =>
      rename_i q qs
      obtain ⟨key, u⟩ := q
      obtain ⟨r1, r2⟩ := r
      simp only at r1 r2
      subst r1
      rw [List.all_cons, Bool.and_eq_true] at hx
      have ih := hits_of I hu rb ru hy ks vs xs qs (by simpa using hl) t rt hx.2
      unfold dicHits
      rcases dlook_rep (k := k) (ks := ls) ru with ⟨h1, h2⟩ | ⟨v', d', h1, h2, h3⟩
      · rw [h2]
        have := rb.val k
        rw [h1] at this
        exact .miss this.none_of
      · rw [h2]
        have := rb.val k
        rw [h1] at this
        obtain ⟨z, e1, e2⟩ := this.some_of
        have sx : SeqAt.shaped (toP x) = true := hx.1
        have sd : SeqAt.shaped (toP d') = true := List.all_eq_true.mp hy d' (dlook_in h2)
        obtain ⟨as, ra'⟩ := Dp.reads I _ _ _ (rx.dpS sx) r2
        obtain ⟨bs, rb'⟩ := Dp.reads I _ _ _ (h3.dpS sd) e2
        exact .hit e1 (SeqAt.eqAt_reads _ _ A s u z as bs ra' rb' (SeqAt.canLay_of_shaped sx) (SeqAt.canLay_of_shaped sd) (SeqAt.room_of_shaped sx hu)) ih
theorem op_eqDc {X : Cx} (hK : X.K = K) (hu : X.A.units + 65 < cLine) : OpR X (compareOp .Eq) (rEqDc K id) := by
  subst hK
  intro pins s σ H x y v u Q I rx ry h
  obtain ⟨a, b, ks, vs, xs, ls, us, ys, rfl, rfl, ha, hb, l1, l2, r1, r2, hx, hy, q⟩ := h
  obtain rfl : v = Value.ref a := rx
  obtain rfl : u = Value.ref b := ry
  obtain ⟨_, y1, va, ra, da⟩ := dk_rd I.hok ha
  obtain ⟨_, y2, vb, rb, db⟩ := dk_rd I.hok hb
  have e : (va.length == vb.length) = (ks.length == ls.length) := by
    rw [← ra.length, ← rb.length, List.length_zip, List.length_zip, l1, l2, Nat.min_self, Nat.min_self]
  refine PySem.W.keq_eq (knd := mixKind X.prog X.w) (r := dicHits ks xs ls ys) y1 y2 da db (by omega) (fun _ => hits_of I (by show X.A.units + 1 + 64 < cLine; omega) rb r2 hy ks vs xs va l1 ra r1 hx) ?_
  rw [e]
  exact ⟨.bl _, H, I, rfl, q⟩
theorem op_neDc {X : Cx} (hK : X.K = K) (hu : X.A.units + 65 < cLine) : OpR X (compareOp .NotEq) (rEqDc K (!·)) := by
  subst hK
  intro pins s σ H x y v u Q I rx ry h
  obtain ⟨a, b, ks, vs, xs, ls, us, ys, rfl, rfl, ha, hb, l1, l2, r1, r2, hx, hy, q⟩ := h
  obtain rfl : v = Value.ref a := rx
  obtain rfl : u = Value.ref b := ry
  obtain ⟨_, y1, va, ra, da⟩ := dk_rd I.hok ha
  obtain ⟨_, y2, vb, rb, db⟩ := dk_rd I.hok hb
  have e : (va.length == vb.length) = (ks.length == ls.length) := by
    rw [← ra.length, ← rb.length, List.length_zip, List.length_zip, l1, l2, Nat.min_self, Nat.min_self]
  refine PySem.W.keq_ne (knd := mixKind X.prog X.w) (r := dicHits ks xs ls ys) y1 y2 da db (by omega) (fun _ => hits_of I (by show X.A.units + 1 + 64 < cLine; omega) rb r2 hy ks vs xs va l1 ra r1 hx) ?_
  rw [e]
  exact ⟨.bl _, H, I, rfl, q⟩
def rEqW (K : PySem.W.Frag) : R2 := fun x y H Q => rEqU K x y H Q ∨ rEqDc K id x y H Q
def rNeW (K : PySem.W.Frag) : R2 := fun x y H Q => rNeU K x y H Q ∨ rEqDc K (!·) x y H Q
theorem kx_eq {X : Cx} (K : PySem.W.Frag) (hK : X.K = K) (hu : X.A.units + 65 < cLine) : OpR X (compareOp .Eq) (rEqW K) := OpR.or (ke_eq K hK (by omega)) (op_eqDc hK hu)
theorem kx_ne {X : Cx} (K : PySem.W.Frag) (hK : X.K = K) (hu : X.A.units + 65 < cLine) : OpR X (compareOp .NotEq) (rNeW K) := OpR.or (ke_ne K hK (by omega)) (op_neDc hK hu)
def eqE (a b : D) : Res D := match a, b with
  | .dic ks xs, .dic ls ys => if xs.all shp && ys.all shp then .ok (.bl (dicEq ks xs ls ys)) else .st
  | a, b => eqB a b
def neE (a b : D) : Res D := match a, b with
  | .dic ks xs, .dic ls ys => if xs.all shp && ys.all shp then .ok (.bl (!dicEq ks xs ls ys)) else .st
  | a, b => neB a b
instance opX_eqE : OpX K (rEqW K) eqE where
  ok := fun {H v u d e Q z} rv ru h k => by
    unfold eqE at h
    split at h
    · split at h <;> first | cases h | skip
      rename_i ks xs ls ys hs
      rw [Bool.and_eq_true] at hs
      cases rv with
      | dic e l q =>
        cases ru with
        | dic e2 l2 q2 => exact .inr ⟨_, _, _, _, _, _, _, _, rfl, rfl, e, e2, l, l2, q, q2, hs.1, hs.2, k _ fun S => .bl _⟩
    · exact .inl (opX_eq.ok rv ru h k)
  ex := fun h => by
    unfold eqE at h
    split at h
    · split at h <;> cases h
    · exact opX_eq.ex (K := K) h
instance opX_neE : OpX K (rNeW K) neE where
  ok := fun {H v u d e Q z} rv ru h k => by
    unfold neE at h
    split at h
    · split at h <;> first | cases h | skip
      rename_i ks xs ls ys hs
      rw [Bool.and_eq_true] at hs
      cases rv with
      | dic e l q =>
        cases ru with
        | dic e2 l2 q2 => exact .inr ⟨_, _, _, _, _, _, _, _, rfl, rfl, e, e2, l, l2, q, q2, hs.1, hs.2, k _ fun S => .bl _⟩
    · exact .inl (opX_ne.ok rv ru h k)
  ex := fun h => by
    unfold neE at h
    split at h
    · split at h <;> cases h
    · exact opX_ne.ex (K := K) h
end
end Ly

set_option Elab.async false
set_option linter.all false
set_option maxRecDepth 100000
namespace Ly
open PySem L2 PyProof.Rows

/-! ### f-strings -/
def tJoin (ts : List TE) : TE := fun σ H Q => tJs ts Str.empty σ H fun out H1 => Q (.str out) H1
theorem pe_joinedU {X : Cx} {v1 v2 : Expr} {rest : List Expr} {ts : List TE} {pos : Pos} (h : PJ X (v1 :: v2 :: rest) ts) : PE X (.JoinedStr (v1 :: v2 :: rest) pos) (tJoin ts) := pe_joined h
theorem str_assoc (a b c : Str) : a ++ b ++ c = a ++ (b ++ c) := by
  obtain ⟨a⟩ := a; obtain ⟨b⟩ := b; obtain ⟨c⟩ := c
  show Str.mk (a ++ b ++ c) = Str.mk (a ++ (b ++ c))
  rw [Array.append_assoc]
theorem str_nil (a : Str) : a ++ Str.empty = a := by
  obtain ⟨a⟩ := a
  show Str.mk (a ++ #[]) = Str.mk a
  rw [Array.append_empty]
theorem nil_str (a : Str) : Str.empty ++ a = a := by
  obtain ⟨a⟩ := a
  show Str.mk (#[] ++ a) = Str.mk a
  rw [Array.empty_append]
theorem str_len (a b : Str) : (a ++ b).length = a.length + b.length := by
  obtain ⟨a⟩ := a; obtain ⟨b⟩ := b
  show (a ++ b).size = a.size + b.size
  exact Array.size_append
class SemJ (K : PySem.W.Frag) (E : XK) (ts : List TE) (F : outParam (List Nat)) (m : outParam (En → Res Str)) : Prop where
  ok : ∀ {env σ S H Q acc z}, Vw K env σ S H → m env = .ok z → acc.length + z.length ≤ sizeLine → (∀ S' H', Gr S H S' H' → Q (acc ++ z) H') → tJs ts acc σ H Q
  ex : ∀ {env x}, m env = .ex x → False
def mJNil : En → Res Str := fun _ => .ok Str.empty
def mJCons (m : En → Res D) (mr : En → Res Str) : En → Res Str := fun e => match m e with
  | .ok (.str y) => noEx ((mr e).map fun z => y ++ z)
  | _ => .st
section
variable {K : PySem.W.Frag} {E : XK}
instance semJ_nil : SemJ K E [] [] mJNil where
  ok := fun {env σ S H Q acc z} x e hz k => by
    cases e
    have := k S H (.refl x.sub)
    rw [str_nil] at this
    exact this
  ex := fun e => by cases e
theorem noEx_ok {α : Type} {r : Res α} {a : α} (h : noEx r = .ok a) : r = .ok a := by
  unfold noEx at h
  split at h
  · exact h
  · cases h
theorem noEx_ex {α : Type} {r : Res α} {x : Xc} (h : noEx r = .ex x) : False := by
  unfold noEx at h
  split at h <;> cases h
instance semJ_cons {te : TE} {ts : List TE} {Fa Fr : List Nat} {ma : En → Res D} {mr : En → Res Str} [ha : SemX K E te Fa ma] [hr : SemJ K E ts Fr mr] : SemJ K E (te :: ts) (Fa ++ Fr) (mJCons ma mr) where
  ok := fun {env σ S H Q acc z} x e hz k => by
    unfold mJCons at e
    split at e
    · rename_i y e1
      obtain ⟨z', e2, rfl⟩ := Res.of_okm (noEx_ok e)
      refine ha.ok x e1 fun v H1 g r => ?_
      cases r
      rw [str_len] at hz
      refine ⟨y, rfl, by rw [str_len]; omega, ?_⟩
      have y1 := Gr.hp x.sub g
      refine hr.ok (x.gr y1) e2 (by rw [str_len]; omega) fun S' H' g' => ?_
      rw [str_assoc]
      exact k S' H' (y1.trans g')
    · cases e
  ex := fun {env x} e => by
    unfold mJCons at e
    split at e
    · exact noEx_ex e
    · cases e
def mJoin (m : En → Res Str) : En → Res W := fun e => (noEx (m e)).bind fun z => if small z.length then .ok (.sh (.str z)) else .st
instance semE_join {ts : List TE} {F : List Nat} {m : En → Res Str} [h : SemJ K E ts F m] : SemE K E (tJoin ts) F (mJoin m) where
  ok := fun {env σ S H Q w} x e k => by
    obtain ⟨z, e1, e2⟩ := Res.of_ok e
    split at e2
    · rename_i hz
      cases e2
      refine h.ok x (noEx_ok e1) (by show 0 + z.length ≤ sizeLine; have := small_line hz; omega) fun S' H' g => ?_
      rw [nil_str]
      exact k _ S' H' [] (.sh g (.str z))
    · cases e2
  ex := fun {env σ S H Q w} x e k => by
    rcases Res.of_ex e with e1 | ⟨z, e1, e2⟩
    · exact (noEx_ex e1).elim
    · split at e2 <;> cases e2
def fmtD : D → Res D
  | .str y => if small y.length then .ok (.str y) else .st
  | .int i => if i.natAbs.log2 < 1920 then .ok (.str (toString i)) else .st
  | _ => .st
def mFmt (m : En → Res D) : En → Res W := fun e => (m e).bind fun d => (fmtD d).map .sh
instance semE_fmt {te : TE} {F : List Nat} {m : En → Res D} [h : SemX K E te F m] : SemE K E (tFmt te) F (mFmt m) where
  ok := fun {env σ S H Q w} x e k => by
    obtain ⟨d, e1, e2⟩ := Res.of_ok e
    obtain ⟨z, e3, rfl⟩ := Res.of_okm e2
    refine h.ok x e1 fun v H' g r => ?_
    have y := Gr.hp x.sub g
    unfold fmtD at e3
    split at e3 <;> first | cases e3 | skip
    · split at e3 <;> cases e3
      rename_i hz
      cases r
      exact .inl ⟨_, rfl, small_le hz, k _ S H' [] (.sh y (.str _))⟩
    · split at e3 <;> cases e3
      rename_i hz
      cases r
      exact .inr ⟨_, rfl, hz, k _ S H' [] (.sh y (.str _))⟩
  ex := fun {env σ S H Q w} x e k => by
    rcases Res.of_ex e with e1 | ⟨d, e1, e2⟩
    · exact h.ex x e1 k
    · have e3 := Res.of_exm e2
      unfold fmtD at e3
      repeat' split at e3
      all_goals cases e3

/-! ### a.split(b) -/
def rSplit : V → List V → Hp → VK → Prop := fun x xs H Q => ∃ a b, x = .str a ∧ xs = [.str b] ∧ (b.length == 0) = false ∧ a.length + 2 ≤ sizeLine ∧ rNewStrs (Txt.split a b) H Q
theorem kp_split {X : Cx} {o e : Expr} {to te : TE} {apos pos : Pos} (ho : PE X o to) (he : PE X e te) (hs : starEach [e] X.env = [(false, eval e X.env)] := by rfl) (hbase : attributeBase o "split" X.env (eval o X.env) = eval o X.env := by rfl) (hline : (apos.endLine == pos.line) = true := by rfl) :
    PE X (.Call (.Attribute o "split" apos) [e] [] pos) (tM1 rSplit to te) := pe_split ho he hs hbase hline
def splitD (a : Str) : D → Res W
  | .str b => if (b.length == 0) = false ∧ small a.length = true then .ok (.lst ((Txt.split a b).map D.str)) else .st
  | _ => .st
instance m1_split : M1V K rSplit splitD where
  ok := fun {S H a u e Q w} hs r h k => by
    unfold splitD at h
    split at h <;> first | cases h | skip
    split at h <;> first | cases h | skip
    rename_i b hb
    cases r.str_inv
    exact ⟨a, b, rfl, rfl, hb.1, by have := of_decide_eq_true hb.2; rw [sizeLine_eq]; omega, fun l hl => k _ S _ _ (.lst (.refl hs) (hs.free hl) hl (strs_reps _))⟩
  ex := fun h => by
    unfold splitD at h
    repeat' split at h
    all_goals cases h

/-! ### a loop over a dict of a slot: locked meanwhile, an own thing again behind it -/
theorem for_run {ts : List Nat} {Mu : List Nat} {g : TG} {tb : TS} {mg : D → En → Res En} {mb : En → Res Fl} [hg : SemG K g ts mg] [hb : SemS K Mu E tb mb] {f : Fm} {B S0 P0 : Hp} {D : Ends} {env : En} {σ : L2.St} {S2 H2 : Hp} {J : It} {ds : List Ly.D} (hm : f.mu = Mu) (hts : ts.all (free0 f.mu) = true)
    (x2 : StOk K f B S0 env σ S2 H2) (jok : JOk K S2 P0 J ds) (hP : ∀ S H, Same S2 S → Same S H → Same B H → Same P0 H) (p2 : Post K f B S0 D E S2 (runL mg mb ds env)) : ∃ W : Nat → Nat → L2.St → Hp → Prop, (∃ m, W 0 m σ H2) ∧ ∀ i m σ H, W i m σ H →
      (J.stop i H ∧ D.nx σ H) ∨ (J.go i H ∧ ∃ N : L2.St → Hp → Prop, (∀ σ' H', N σ' H' → ∃ m', m' < m ∧ W (i + 1) m' σ' H') ∧ ∀ x H', J.yld i H x H' → g x σ H' fun σ2 H2 => tb { D with nx := N, ct := N, bk := D.nx } σ2 H2) := by
  refine ⟨fun i m σ H => m = ds.length - i ∧ ∃ env S, StOk K f B S0 env σ S H ∧ Same S2 S ∧ Post K f B S0 D E S (runL mg mb (ds.drop i) env), ⟨_, rfl, _, S2, x2, Same.refl S2, by rw [List.drop_zero]; exact p2⟩, ?_⟩
  rintro i m σ H ⟨rfl, env, S, x, s, q⟩
  obtain ⟨j1, j2⟩ := jok S H s x.sub (hP S H s x.sub x.base) i
  cases hd : ds[i]? with
  | none =>
    have hl : ds.length ≤ i := List.getElem?_eq_none_iff.mp hd
    rw [List.drop_eq_nil_of_le hl] at q
    exact .inl ⟨j2 hd, q σ S H x (Same.refl S)⟩
  | some d =>
    obtain ⟨hlt, hdd⟩ := List.getElem?_eq_some_iff.mp hd
    have hdrop : ds.drop i = d :: ds.drop (i + 1) := by rw [List.drop_eq_getElem_cons hlt, hdd]
    rw [hdrop] at q
    unfold runL at q
    obtain ⟨go, yld⟩ := j1 d hd
    refine .inr ⟨go, fun σ' H' => ∃ env S, StOk K f B S0 env σ' S H' ∧ Same S2 S ∧ Post K f B S0 D E S (runL mg mb (ds.drop (i + 1)) env), fun σ' H' z => ⟨_, by omega, rfl, z⟩, fun y H' hy => ?_⟩
    obtain ⟨S3, g3, r3⟩ := yld y H' hy
    cases eg : mg d env with
    | ex z => exact (hg.ex eg).elim
    | st => rw [eg] at q; exact q.elim
    | ok env' =>
      rw [eg] at q
      refine hg.run hts (x.gr g3) r3 eg fun σ' x4 => ?_
      refine hb.run hm x4 ?_
      have q' := q.up g3.ss
      simp only [Res.bind_ok] at q'
      cases er : mb env' with
      | ex z => rw [er] at q'; exact q'
      | st => rw [er] at q'; exact q'
      | ok r =>
        rw [er] at q'
        cases r with
        | nx e5 => exact fun σ5 S5 H5 x5 s5 => ⟨e5, S5, x5, (s.trans g3.ss).trans s5, Post.up q' s5⟩
        | ct e5 => exact fun σ5 S5 H5 x5 s5 => ⟨e5, S5, x5, (s.trans g3.ss).trans s5, Post.up q' s5⟩
        | bk e5 => exact q'
        | rt w => exact q'
def mForO (Mu ts : List Nat) (i : Nat) (sel : List Key → List D → List D) (mg : D → En → Res En) (mb : En → Res Fl) : En → Res Fl := fun env => if ts.all (free0 ((1000 + i) :: Mu)) then match env[i]? with
  | some (some (.dic ks xs)) => (noEx (runL mg mb (sel ks xs) (env.set i none))).bind fun r => match r with
    | .nx e => .ok (.nx (e.set i (some (.dic ks xs))))
    | .rt w => .ok (.rt w)
    | _ => .st
  | _ => .st
  else .st
theorem lock_run {i : Nat} {ts : List Nat} {Mu : List Nat} {wi : TI} {g : TG} {tb : TS} {mg : D → En → Res En} {mb : En → Res Fl} {sel : List Key → List Ly.D → List Ly.D} [hg : SemG K g ts mg] [hb : SemS K ((1000 + i) :: Mu) E tb mb]
    (hw : ∀ {σ : L2.St} {H : Hp} {R : It → Hp → Prop} {p : Addr} {od : Obj} {ks : List Key} {vs : List V} {xs : List Ly.D} {S : Hp}, σ[i]? = some (some (.ref p)) → H p = some (.frz od (.dK (ks.zip vs))) → vs.length = ks.length → Reps K S vs xs →
      (∀ J, (∀ P : Hp, P p = some (.frz od (.dK (ks.zip vs))) → JOk K S P J (sel ks xs)) → R J H) → wi σ H R) : SemS K Mu E (tLock (tFor wi g tb)) (mForO Mu ts i sel mg mb) where
  run := fun {f B S0 D env σ S H} hm x q => by
    unfold mForO at q
    split at q
    case isFalse => exact q.elim
    rename_i hts
    split at q
    case h_2 => exact q.elim
    rename_i ks xs e
    obtain ⟨fps, h1, h2, h3⟩ := x.own
    obtain ⟨v, a, b, c⟩ := h1 i _ e
    obtain ⟨fp0, ep⟩ : ∃ fp, fps i = fp := ⟨_, rfl⟩
    rw [ep] at b
    cases b with
    | dic hp hl hr =>
      rename_i p vs
      obtain ⟨q1, q2, q3⟩ := h2 i p (by rw [ep]; simp)
      have far : ∀ j, j ≠ i → ∀ r ∈ fps j, r ≠ p := fun j hj r hr z => by
        subst z
        exact hj (h3 j i r hr (by rw [ep]; simp))
      refine ⟨p, .dK (ks.zip vs), hp, trivial, fun od => ?_⟩
      refine hw a upd_same hl hr fun J jok => ?_
      let f' : Fm := ⟨(1000 + i) :: f.mu, (i, .ref p) :: f.pins, fun r hr => by
        rcases List.mem_cons.mp hr with rfl | hr
        · simp
        · have := f.ok r hr
          rw [List.contains_cons, this, Bool.or_true]⟩
      let B' : Hp := upd B p (.frz od (.dK (ks.zip vs)))
      have x' : StOk K f' B' S (env.set i none) σ S (upd H p (.frz od (.dK (ks.zip vs)))) := by
        refine ⟨by rw [List.length_set]; exact x.len, fun r hr => ?_, fun a' o z => ?_, fun a' o z => ?_, Same.refl S, fun a' o z => .inl z, fun j => if j = i then [] else fps j, fun j w e' => ?_, fun j r hr => ?_, fun j k r hj hk => ?_⟩
        · rcases List.mem_cons.mp hr with rfl | hr
          · exact a
          · exact x.pin r hr
        · rw [upd_ne (ne_of_none z q1)]; exact x.sub a' o z
        · by_cases hz : a' = p
          · subst hz
            rw [show B' a' = _ from upd_same] at z
            rw [upd_same]; exact z
          · rw [show B' a' = B a' from upd_ne hz] at z
            rw [upd_ne hz]; exact x.base a' o z
        · rcases get_set e' with ⟨_, e1, _⟩ | ⟨ne, e1⟩
          · cases e1
          · obtain ⟨z, a', b', c'⟩ := h1 j w e1
            refine ⟨z, a', ?_⟩
            simp only [if_neg (Ne.symm ne)]
            exact ⟨b'.carry (Same.refl S) w fun r hr => upd_ne (far j (Ne.symm ne) r hr), c'⟩
        · by_cases hj : j = i
          · simp only [if_pos hj] at hr; cases hr
          · simp only [if_neg hj] at hr
            obtain ⟨a', b', c'⟩ := h2 j r hr
            have hne := far j hj r hr
            exact ⟨a', by rw [show B' r = B r from upd_ne hne]; exact b', by rw [upd_ne hne]; exact c'⟩
        · by_cases hj' : j = i
          · simp only [if_pos hj'] at hj; cases hj
          · by_cases hk' : k = i
            · simp only [if_pos hk'] at hk; cases hk
            · simp only [if_neg hj', if_neg hk'] at hj hk
              exact h3 j k r hj hk
      have Bp : B' p = some (.frz od (.dK (ks.zip vs))) := upd_same
      have Bn : ∀ r, B' r = none → r ≠ p ∧ B r = none := fun r z => by
        by_cases hz : r = p
        · rw [hz, Bp] at z; cases z
        · exact ⟨hz, by rw [show B' r = B r from upd_ne hz] at z; exact z⟩
      have Snp : ∀ {S' : Hp}, (∀ a o, S' a = some o → S a = some o ∨ B' a = none) → S' p = none := fun {S'} hn => by
        cases z : S' p with
        | none => rfl
        | some o =>
          rcases hn p o z with z' | z'
          · rw [q1] at z'; cases z'
          · exact absurd rfl (Bn p z').1
      have nwB : ∀ {S' : Hp}, (∀ a o, S' a = some o → S a = some o ∨ B' a = none) → ∀ a o, S' a = some o → S0 a = some o ∨ B a = none := fun {S'} hn a' o z => by
        rcases hn a' o z with z' | z'
        · exact x.nw a' o z'
        · exact .inr (Bn a' z').2
      have bk : ∀ {S' H' : Hp}, Same S' H' → S' p = none → Same S' (upd H' p (.dK (ks.zip vs))) := fun {S' H'} h hn a' o z => by rw [upd_ne (ne_of_none z hn)]; exact h a' o z
      have bb : ∀ {H' : Hp}, Same B' H' → Same B (upd H' p (.dK (ks.zip vs))) := fun {H'} h a' o z => by
        have hz : a' ≠ p := ne_of_none z q2
        rw [upd_ne hz]
        exact h a' o (by rw [show B' a' = B a' from upd_ne hz]; exact z)
      refine for_run (hg := hg) (hb := hb) (f := f') (P0 := B') (by show (1000 + i) :: f.mu = _; rw [hm]) (by show ts.all (free0 ((1000 + i) :: f.mu)) = true; rw [hm]; exact hts) x' (jok B' Bp) (fun S' H' _ _ hB => hB) ?_
      cases er : runL mg mb (sel ks xs) (env.set i none) with
      | st => rw [er] at q; exact q.elim
      | ex z => rw [er] at q; exact q.elim
      | ok r =>
        rw [er] at q
        simp only [a_noEx_ok, Res.bind_ok] at q
        cases r with
        | bk e5 => exact q.elim
        | ct e5 => exact q.elim
        | nx e5 =>
          intro σ' S' H' x5 s5
          have hS := Snp x5.nw
          refine ⟨x5.base p _ Bp, q σ' S' _ ?_ s5⟩
          obtain ⟨gps, g1, g2, g3⟩ := x5.own
          have farg : ∀ j, ∀ r ∈ gps j, r ≠ p := fun j r hr => (Bn r (g2 j r hr).2.1).1
          refine ⟨by rw [List.length_set]; exact x5.len, fun r hr => x5.pin r (List.mem_cons_of_mem _ hr), bk x5.sub hS, bb x5.base, x.ex0.trans s5, nwB x5.nw, fun j => if j = i then [p] else gps j, fun j w e' => ?_, fun j r hr => ?_, fun j k r hj hk => ?_⟩
          · rcases get_set e' with ⟨rfl, e1, _⟩ | ⟨ne, e1⟩
            · cases e1
              refine ⟨.ref p, x5.pin _ List.mem_cons_self, ?_⟩
              simp only [if_pos]
              exact ⟨.dic upd_same hl (hr.up s5), by simp⟩
            · obtain ⟨z, a', b', c'⟩ := g1 j w e1
              refine ⟨z, a', ?_⟩
              simp only [if_neg (Ne.symm ne)]
              exact ⟨b'.carry (Same.refl S') w fun r hr => upd_ne (farg j r hr), c'⟩
          · by_cases hj : j = i
            · simp only [if_pos hj] at hr
              rw [List.mem_singleton.mp hr]
              exact ⟨hS, q2, by rw [upd_same]; rfl⟩
            · simp only [if_neg hj] at hr
              obtain ⟨a', b', c'⟩ := g2 j r hr
              exact ⟨a', (Bn r b').2, by rw [upd_ne (farg j r hr)]; exact c'⟩
          · by_cases hj' : j = i
            · by_cases hk' : k = i
              · exact hj'.trans hk'.symm
              · simp only [if_pos hj', if_neg hk'] at hj hk
                exact absurd (List.mem_singleton.mp hj) (farg k r hk)
            · by_cases hk' : k = i
              · simp only [if_neg hj', if_pos hk'] at hj hk
                exact absurd (List.mem_singleton.mp hk) (farg j r hj)
              · simp only [if_neg hj', if_neg hk'] at hj hk
                exact g3 j k r hj hk
        | rt w =>
          intro u S' H' fp y
          have hS := Snp y.nw
          refine ⟨y.base p _ Bp, q u S' _ fp ⟨bk y.sub hS, bb y.base, x.ex0.trans y.ex0, nwB y.nw, y.own.carry (Same.refl S') w fun r hr => upd_ne (Bn r (y.new r hr).1).1, y.nd, fun r hr => ⟨(Bn r (y.new r hr).1).2, (y.new r hr).2⟩⟩⟩
theorem zip_get {ks : List Key} {vs : List V} {i : Nat} {k : Key} {v : V} (h : (ks.zip vs)[i]? = some (k, v)) : ks[i]? = some k ∧ vs[i]? = some v := by
  rw [List.getElem?_zip_eq_some] at h
  exact h
theorem zip_long {ks : List Key} {vs : List V} {ds : List D} (hl : vs.length = ks.length) (r : vs.length = ds.length) : (ks.zip vs).length = ds.length := by rw [List.length_zip, hl, Nat.min_self, ← hl, r]
instance semS_forVals {i : Nat} {ts Mu : List Nat} {g : TG} {tb : TS} {mg : D → En → Res En} {mb : En → Res Fl} [hg : SemG K g ts mg] [hb : SemS K ((1000 + i) :: Mu) E tb mb] : SemS K Mu E (tLock (tFor (iVals (tVar i)) g tb)) (mForO Mu ts i (fun _ xs => xs) mg mb) :=
  lock_run fun {σ H R p od ks vs xs S} ha hp hl hr k => ⟨_, ha, p, od, _, rfl, hp, k _ fun P hP S' H' s1 s2 s3 j => by
    have hH := s3 p _ hP
    refine ⟨fun d hd => ⟨⟨hH, ?_⟩, fun y H2 hy => ?_⟩, fun hd => ⟨hH, ?_⟩⟩
    · rw [zip_long hl hr.len]; exact (List.getElem?_eq_some_iff.mp hd).1
    · obtain ⟨rfl, k', hk'⟩ := hy
      obtain ⟨v', hv', rv⟩ := hr.get hd
      rw [(zip_get hk').2] at hv'
      cases hv'
      exact ⟨S', .refl s2, rv.up s1⟩
    · rw [zip_long hl hr.len]; exact List.getElem?_eq_none_iff.mp hd⟩
end
end Ly

set_option Elab.async false
set_option linter.all false
set_option maxRecDepth 100000
namespace Ly
open PySem L2 PyProof.Rows
section
variable {X : Cx} (K : PySem.W.Frag) (hK : X.K = K)
include hK
theorem kp_rev {e : Expr} {te : TE} {k : Nat} {p1 p2 p3 pos : Pos} (he : PE X e te) : PE X (.Subscript e (.Slice none none (some (.UnaryOp .USub (.Constant (.int 1) k p1) p2)) p3) pos) (tRevL K te) := by subst hK; exact pe_revL he
theorem kp_dclear {o : Expr} {to : TE} {apos cpos : Pos} (ho : PE X o to) (hbase : attributeBase o "clear" X.env (eval o X.env) = eval o X.env := by rfl) (hline : (apos.endLine == cpos.line) = true := by rfl) : PE X (.Call (.Attribute o "clear" apos) [] [] cpos) (tBM0 K "dict" rDClear to) := by subst hK; exact pe_dclear ho hbase hline
end
section
variable {e : En} {F : List Nat} {i : Nat}
@[simp] theorem a_mDPut (mk mv : En → Res D) : mDPut F i mk mv e = (mv (fz F e)).bind fun x => match (fz F e)[i]? with
  | some (some w) => (mk (fz F e)).bind fun k => (putDic k x w).map fun w' => .nx ((fz F e).set i (some w'))
  | _ => .st := rfl
@[simp] theorem a_mDClear : mDClear i e = match e[i]? with
  | some (some (.dic ks xs)) => .ok (.nx (e.set i (some (.dic [] []))))
  | _ => .st := rfl
@[simp] theorem a_mLClear : mLClear i e = match e[i]? with
  | some (some (.lst xs)) => .ok (.nx (e.set i (some (.lst []))))
  | _ => .st := rfl
@[simp] theorem a_mItemsL : mItemsL i e = match e[i]? with
  | some (some (.dic ks xs)) => .ok (.lst (itemsP ks xs))
  | _ => .st := rfl
@[simp] theorem a_mRev (m : En → Res D) : mRev m e = (m e).bind revD := rfl
@[simp] theorem a_mJNil : mJNil e = .ok Str.empty := rfl
@[simp] theorem a_mJCons (m : En → Res D) (mr : En → Res Str) : mJCons m mr e = match m e with
  | .ok (.str y) => noEx ((mr e).map fun z => y ++ z)
  | _ => .st := rfl
@[simp] theorem a_mJoin (m : En → Res Str) : mJoin m e = (noEx (m e)).bind fun z => if small z.length then .ok (.sh (.str z)) else .st := rfl
@[simp] theorem a_mFmt (m : En → Res D) : mFmt m e = (m e).bind fun d => (fmtD d).map .sh := rfl
@[simp] theorem a_mForO (Mu ts : List Nat) (sel : List Key → List D → List D) (mg : D → En → Res En) (mb : En → Res Fl) : mForO Mu ts i sel mg mb e = if ts.all (free0 ((1000 + i) :: Mu)) then match e[i]? with
  | some (some (.dic ks xs)) => (noEx (runL mg mb (sel ks xs) (e.set i none))).bind fun r => match r with
    | .nx e => .ok (.nx (e.set i (some (.dic ks xs))))
    | .rt w => .ok (.rt w)
    | _ => .st
  | _ => .st
  else .st := rfl
@[simp] theorem v_fmts (y : Str) : fmtD (.str y) = if small y.length then .ok (.str y) else .st := rfl
@[simp] theorem v_fmti (i : Int) : fmtD (.int i) = if i.natAbs.log2 < 1920 then .ok (.str (toString i)) else .st := rfl
@[simp] theorem v_revl (xs : List D) : revD (.lst xs) = .ok (.lst xs.reverse) := rfl
@[simp] theorem v_listl (xs : List D) : listD [.lst xs] = .ok (.lst xs) := rfl
@[simp] theorem v_strs (a : Str) : strD [.str a] = .ok (.sh (.str a)) := rfl
@[simp] theorem v_stri (i : Int) : strD [.int i] = if i.natAbs.log2 < 1920 then .ok (.sh (.str (toString i))) else .st := rfl
@[simp] theorem v_inti (i : Int) : intD [.int i] = .ok (.sh (.int i)) := rfl
@[simp] theorem v_intb (k : Bool) : intD [.bl k] = .ok (.sh (.int (if k then 1 else 0))) := rfl
@[simp] theorem v_ints (a : Str) : intD [.str a] = match PySem.intText? a with
    | some n => if a.length ≤ 640 then .ok (.sh (.int n)) else .st
    | none => .st := rfl
@[simp] theorem v_eqEi (a b : Int) : eqE (.int a) (.int b) = .ok (.bl (decide (a = b))) := rfl
@[simp] theorem v_eqEs (a b : Str) : eqE (.str a) (.str b) = .ok (.bl (decide (a = b))) := rfl
@[simp] theorem v_eqEb (a b : Bool) : eqE (.bl a) (.bl b) = .ok (.bl (decide (a = b))) := rfl
@[simp] theorem v_neEi (a b : Int) : neE (.int a) (.int b) = .ok (.bl (!decide (a = b))) := rfl
@[simp] theorem v_neEs (a b : Str) : neE (.str a) (.str b) = .ok (.bl (!decide (a = b))) := rfl
@[simp] theorem v_eqEd (ks ls : List Key) (xs ys : List D) : eqE (.dic ks xs) (.dic ls ys) = if xs.all shp && ys.all shp then .ok (.bl (dicEq ks xs ls ys)) else .st := rfl
@[simp] theorem v_neEd (ks ls : List Key) (xs ys : List D) : neE (.dic ks xs) (.dic ls ys) = if xs.all shp && ys.all shp then .ok (.bl (!dicEq ks xs ls ys)) else .st := rfl
theorem eqE_lst (a b : List D) : eqE (.lst a) (.lst b) = eqB (.lst a) (.lst b) := rfl
theorem neE_lst (a b : List D) : neE (.lst a) (.lst b) = neB (.lst a) (.lst b) := rfl
end
end Ly

set_option Elab.async false
set_option linter.all false
set_option maxRecDepth 100000
set_option maxHeartbeats 4000000
set_option synthInstance.maxHeartbeats 2000000
set_option synthInstance.maxSize 100000
namespace My
open PySem L2 Ly PyProof.Rows
/-- is_name: 0 thing, 1 sign -/
def m_is_name_b1 : En → Res Fl :=
    (mIfS [] (mTest (mD (mOpX notInB (mVarX 1) (mD (mK (.str "abcdefghijklmnopqrstuvwxyz")))))) (mRet [] (mK (.bl false))) mNext)
def m_is_name : En → Res Fl :=
    (mSeq (mIfS [] (mOr (mNot (mTru (mD (mCal isiD (mCons (mVarV 0) (mCons (mD (mK (.ty "str"))) mNil)))))) (mNot (mTest (mD (mChain leD leD (mD (mK (.int 1))) (mD (mCal lenD (mCons (mVarV 0) mNil))) (mD (mK (.int 8)))))))) (mRet [] (mK (.bl false))) mNext)
    (mSeq (mFor [] [1] [0] (mItems (mD (mVar 0))) (mName 1) m_is_name_b1)
    (mRet [] (mK (.bl true)))))
def r_is_name : List D → Res W := runD 2 m_is_name
/-- shown_plan: 0 plan, 1 name -/
def m_shown_plan : En → Res Fl :=
    (mRet [] (mM1 joinD (mD (mK (.str "; "))) (mD (mLc [1] [1] (mItems (mD (mCal sortD (mCons (mVarV 0) mNil)))) (mName 1) mTrue (mD (mJoin (mJCons (mD (mFmt (mVarX 1))) (mJCons (mD (mK (.str " "))) (mJCons (mD (mFmt (mD (mOp ixD (mD (mOp ixD (mVarV 0) (mVarV 1))) (mD (mK (.int 0))))))) (mJCons (mD (mK (.str " "))) (mJCons (mD (mFmt (mD (mOp ixD (mD (mOp ixD (mVarV 0) (mVarV 1))) (mD (mK (.int 1))))))) mJNil)))))))))))
def r_shown_plan : List D → Res W := runD 2 m_shown_plan
/-- number_of: 0 word, 1 sign -/
def m_number_of_b1 : En → Res Fl :=
    (mIfS [] (mTest (mD (mOpX notInB (mVarX 1) (mD (mK (.str "0123456789")))))) mNever mNext)
def m_number_of : En → Res Fl :=
    (mSeq (mIfS [] (mOr (mTest (mD (mOpX eqE (mVarX 0) (mD (mK (.str "")))))) (mAnd (mTest (mD (mOpX gtD (mD (mCal lenD (mCons (mVarV 0) mNil))) (mD (mK (.int 1)))))) (mTest (mD (mOpX eqE (mD (mOp ixD (mVarV 0) (mD (mK (.int 0))))) (mD (mK (.str "0")))))))) mNever mNext)
    (mSeq (mFor [] [1] [0] (mItems (mD (mVar 0))) (mName 1) m_number_of_b1)
    (mRet [] (mCal intD (mCons (mVarV 0) mNil)))))
def r_number_of : List D → Res W := runD 2 m_number_of
/-- read_plan: 0 text, 1 plan, 2 ahead, 3 row, 4 words -/
def m_read_plan_b1 : En → Res Fl :=
    (mSeq (mAsg [1] [] 4 (mM1 splitD (mVarX 3) (mD (mK (.str " ")))))
    (mSeq (mIfS [] (mOr (mTest (mD (mOpX neE (mD (mCal lenD (mCons (mVarV 4) mNil))) (mD (mK (.int 3)))))) (mOr (mNot (mTru (mD (mCall 1 r_is_name (mCons (mD (mOp ixD (mVarV 4) (mD (mK (.int 0))))) mNil) (mCons (mD (mOp ixD (mVarV 4) (mD (mK (.int 0))))) mNil))))) (mOr (mNot (mTru (mD (mCall 1 r_is_name (mCons (mD (mOp ixD (mVarV 4) (mD (mK (.int 1))))) mNil) (mCons (mD (mOp ixD (mVarV 4) (mD (mK (.int 1))))) mNil))))) (mTest (mD (mOpX leD (mD (mOp ixD (mVarV 4) (mD (mK (.int 0))))) (mVarX 2))))))) mNever mNext)
    (mSeq (mDPut [] 1 (mD (mOp ixD (mVarV 4) (mD (mK (.int 0))))) (mD (mTup (mCons (mD (mOp ixD (mVarV 4) (mD (mK (.int 1))))) (mCons (mD (mCall 1 r_number_of (mCons (mD (mOp ixD (mVarV 4) (mD (mK (.int 2))))) mNil) (mCons (mD (mOp ixD (mVarV 4) (mD (mK (.int 2))))) mNil))) mNil)))))
    (mAsg [1] [] 2 (mOp ixD (mVarV 4) (mD (mK (.int 0))))))))
def m_read_plan : En → Res Fl :=
    (mSeq (mIfS [] (mNot (mTru (mD (mCal isiD (mCons (mVarV 0) (mCons (mD (mK (.ty "str"))) mNil)))))) mNever mNext)
    (mSeq (mAsg [1] [] 1 mDicK)
    (mSeq (mIfS [] (mTest (mD (mOpX eqE (mVarX 0) (mD (mK (.str "")))))) (mRetVar 1) mNext)
    (mSeq (mAsg [1] [] 2 (mK (.str "")))
    (mSeq (mFor [1] [3] [] (mItems (mD (mM1 splitD (mVarX 0) (mD (mK (.str "; ")))))) (mName 3) m_read_plan_b1)
    (mRetVar 1))))))
def r_read_plan : List D → Res W := runD 5 m_read_plan
/-- _law_cell: 0 _law_script, 1 _law_k -/
def m__law_cell : En → Res Fl :=
    (mSeq (mIfS [] (mTest (mD (mOpX ltD (mVarX 1) (mD (mCal lenD (mCons (mVarV 0) mNil)))))) (mRet [] (mOp ixD (mVarV 0) (mVarV 1))) mNext)
    (mRet [] (mK (.int 0))))
def r__law_cell : List D → Res W := runD 2 m__law_cell
/-- _law_digits: 0 _law_cell_here, 1 _law_k, 2 _law_sizes, 3 _law_number, 4 _law_found, 5 _law_turn, 6 _law_size -/
def m__law_digits_b1 : En → Res Fl :=
    (mIfS [] (mOr (mTest (mD (mOpX eqE (mD (mOpX modD (mVarX 0) (mD (mK (.int 2))))) (mD (mK (.int 1)))))) (mTest (mD (mOpX eqE (mVarX 3) (mD (mK (.int 0))))))) (mSeq (mAsg [4] [] 3 (mOp addD (mD (mOpX modD (mD (mOp addD (mVarV 3) (mVarV 0))) (mD (mK (.int 2147483629))))) (mD (mK (.int 48271)))))
    (mSeq (mAsg [4] [] 3 (mOp addD (mVarV 3) (mD (mOp mulD (mD (mOp mulD (mD (mK (.int 7919))) (mD (mOp addD (mVarV 1) (mVarV 5))))) (mD (mOp addD (mVarV 1) (mVarV 5)))))))
    (mSeq (mAsg [4] [] 3 (mOpX modD (mD (mOp mulD (mVarV 3) (mVarV 3))) (mD (mK (.int 2147483587)))))
    (mAppend [] 4 (mCons (mD (mOpX modD (mD (mOpX fdivD (mVarX 3) (mD (mK (.int 16))))) (mVarX 6))) mNil))))) (mSeq (mAppend [] 4 (mCons (mD (mOpX modD (mVarX 3) (mVarX 6))) mNil))
    (mAsg [4] [] 3 (mOpX fdivD (mVarX 3) (mVarX 6)))))
def m__law_digits : En → Res Fl :=
    (mSeq (mAsg [4] [] 3 (mOpX fdivD (mD (mCal absD (mCons (mVarV 0) mNil))) (mD (mK (.int 2)))))
    (mSeq (mAsg [4] [] 4 (mLst mNil))
    (mSeq (mFor [4] [5, 6] [2] (mEnum (mCons (mD (mVar 2)) mNil)) (mGTup 2 (mGCons (mName 5) (mGCons (mName 6) mGNil))) m__law_digits_b1)
    (mRetVar 4))))
def r__law_digits : List D → Res W := runD 7 m__law_digits
/-- _law_word: 0 _law_row, 1 _law_number -/
def m__law_word : En → Res Fl :=
    (mRet [] (mM1 joinD (mD (mK (.str ""))) (mD (mLc [1] [1] (mItems (mD (mSl (mVarV 0) (mPart (mD (mK (.int 1)))) (mPart (mD (mOp addD (mD (mK (.int 2))) (mD (mOp ixD (mVarV 0) (mD (mK (.int 0))))))))))) (mName 1) mTrue (mD (mOp ixD (mD (mK (.str "abcdefghijklmnopqrstuvwxyz"))) (mVarV 1)))))))
def r__law_word : List D → Res W := runD 2 m__law_word
/-- _law_plan: 0 _law_cell_here, 1 _law_plan_here, 2 _law_many, 3 _law_k, 4 _law_row, 5 _law_name, 6 _law_bench, 7 _law_number -/
def m__law_plan_b1 : En → Res Fl :=
    (mSeq (mAsg [1] [] 4 (mCall 3 r__law_digits (mCons (mD (mOpX fdivD (mVarX 0) (mD (mK (.int 21))))) (mCons (mD (mOp mulD (mD (mK (.int 20))) (mVarV 3))) (mCons (mD (mOp addD (mD (mOp addD (mD (mOp addD (mD (mOp addD (mD (mLst (mCons (mD (mK (.int 8))) mNil))) (mD (mOp mulD (mD (mLst (mCons (mD (mK (.int 26))) mNil))) (mD (mK (.int 8))))))) (mD (mLst (mCons (mD (mK (.int 8))) mNil))))) (mD (mOp mulD (mD (mLst (mCons (mD (mK (.int 26))) mNil))) (mD (mK (.int 8))))))) (mD (mLst (mCons (mD (mK (.int 10))) (mCons (mD (mOpX powD (mD (mK (.int 10))) (mD (mK (.int 30))))) (mCons (mD (mK (.int 2))) mNil))))))) mNil))) (mCons (mD (mOpX fdivD (mVarX 0) (mD (mK (.int 21))))) (mCons (mD (mOp mulD (mD (mK (.int 20))) (mVarV 3))) (mCons (mD (mOp addD (mD (mOp addD (mD (mOp addD (mD (mOp addD (mD (mLst (mCons (mD (mK (.int 8))) mNil))) (mD (mOp mulD (mD (mLst (mCons (mD (mK (.int 26))) mNil))) (mD (mK (.int 8))))))) (mD (mLst (mCons (mD (mK (.int 8))) mNil))))) (mD (mOp mulD (mD (mLst (mCons (mD (mK (.int 26))) mNil))) (mD (mK (.int 8))))))) (mD (mLst (mCons (mD (mK (.int 10))) (mCons (mD (mOpX powD (mD (mK (.int 10))) (mD (mK (.int 30))))) (mCons (mD (mK (.int 2))) mNil))))))) mNil)))))
    (mSeq (mIfS [] (mTest (mD (mOpX eqE (mD (mOpX modD (mVarX 0) (mD (mK (.int 2))))) (mD (mK (.int 0)))))) (mAsg [1] [] 4 (mOp addD (mD (mSl (mVarV 4) (mPart (mD (mOpX modD (mVarX 3) (mD (mK (.int 8)))))) mNoPart)) (mD (mSl (mVarV 4) mNoPart (mPart (mD (mOpX modD (mVarX 3) (mD (mK (.int 8)))))))))) mNext)
    (mSeq (mAsg [1] [] 5 (mCall 1 r__law_word (mCons (mD (mOp addD (mD (mLst (mCons (mD (mOpX modD (mD (mOp ixD (mVarV 4) (mD (mK (.int 0))))) (mD (mK (.int 8))))) mNil))) (mD (mLc [7] [7] (mItems (mD (mSl (mVarV 4) (mPart (mD (mK (.int 1)))) (mPart (mD (mK (.int 9))))))) (mName 7) mTrue (mD (mOpX modD (mVarX 7) (mD (mK (.int 26))))))))) mNil) (mCons (mD (mOp addD (mD (mLst (mCons (mD (mOpX modD (mD (mOp ixD (mVarV 4) (mD (mK (.int 0))))) (mD (mK (.int 8))))) mNil))) (mD (mLc [7] [7] (mItems (mD (mSl (mVarV 4) (mPart (mD (mK (.int 1)))) (mPart (mD (mK (.int 9))))))) (mName 7) mTrue (mD (mOpX modD (mVarX 7) (mD (mK (.int 26))))))))) mNil)))
    (mSeq (mAsg [1] [] 6 (mCall 1 r__law_word (mCons (mD (mOp addD (mD (mLst (mCons (mD (mOpX modD (mD (mOp ixD (mVarV 4) (mD (mK (.int 9))))) (mD (mK (.int 8))))) mNil))) (mD (mLc [7] [7] (mItems (mD (mSl (mVarV 4) (mPart (mD (mK (.int 10)))) (mPart (mD (mK (.int 18))))))) (mName 7) mTrue (mD (mOpX modD (mVarX 7) (mD (mK (.int 26))))))))) mNil) (mCons (mD (mOp addD (mD (mLst (mCons (mD (mOpX modD (mD (mOp ixD (mVarV 4) (mD (mK (.int 9))))) (mD (mK (.int 8))))) mNil))) (mD (mLc [7] [7] (mItems (mD (mSl (mVarV 4) (mPart (mD (mK (.int 10)))) (mPart (mD (mK (.int 18))))))) (mName 7) mTrue (mD (mOpX modD (mVarX 7) (mD (mK (.int 26))))))))) mNil)))
    (mDPut [6, 5] 1 (mD (mVar 5)) (mD (mTup (mCons (mD (mVar 6)) (mCons (mD (mOp ixD (mD (mLst (mCons (mD (mOpX modD (mD (mOp ixD (mVarV 4) (mD (mK (.int 18))))) (mD (mK (.int 10))))) (mCons (mD (mOp ixD (mVarV 4) (mD (mK (.int 19))))) mNil)))) (mD (mOpX modD (mD (mOp ixD (mVarV 4) (mD (mK (.int 20))))) (mD (mK (.int 2))))))) mNil)))))))))
def m__law_plan : En → Res Fl :=
    (mSeq (mAsg [1] [] 1 mDicK)
    (mSeq (mAsg [1] [] 2 (mOpX modD (mVarX 0) (mD (mK (.int 21)))))
    (mSeq (mFor [1] [3] [2] (mRng1 (mCons (mD (mVar 2)) mNil)) (mName 3) m__law_plan_b1)
    (mRetVar 1))))
def r__law_plan : List D → Res W := runD 8 m__law_plan
/-- law: 0 _law_script, 1 _law_cell_here, 2 _law_plan_here, 3 _law_due, 4 _law_handed, 5 _law_found, 6 _law_told, 7 _law_bench, 8 _law_start, 9 _law_name -/
def m_law_b1 : En → Res Fl :=
    (mIfS [] (mOr (mTru (mD (mCal isiD (mCons (mVarV 8) (mCons (mD (mK (.ty "bool"))) mNil))))) (mOr (mNot (mTru (mD (mCal isiD (mCons (mVarV 8) (mCons (mD (mK (.ty "int"))) mNil)))))) (mNot (mTru (mD (mCal isiD (mCons (mVarV 7) (mCons (mD (mK (.ty "str"))) mNil)))))))) (mRet [] (mK (.bl false))) mNext)
def m_law_b2 : En → Res Fl :=
    (mSeq (mAsg [2, 4, 6] [] 2 (mCall 1 r__law_plan (mCons (mD (mVar 1)) mNil) (mCons (mVarX 1) mNil)))
    (mSeq (mAsg [2, 4, 6] [9] 3 (mM1 joinD (mD (mK (.str "; "))) (mD (mLc [9] [9] (mItems (mD (mCal sortD (mCons (mVarV 2) mNil)))) (mName 9) mTrue (mD (mM1 joinD (mD (mK (.str " "))) (mD (mLst (mCons (mD (mVar 9)) (mCons (mD (mOp ixD (mD (mOp ixD (mVarV 2) (mVarV 9))) (mD (mK (.int 0))))) (mCons (mD (mCal strD (mCons (mD (mOp ixD (mD (mOp ixD (mVarV 2) (mVarV 9))) (mD (mK (.int 1))))) mNil))) mNil)))))))))))
    (mSeq (mAsg [2, 4, 6] [] 4 (mCal dictD (mCons (mD (mRev (mD (mItemsL 2)))) mNil)))
    (mSeq (mAsg [2, 4, 6] [] 5 (mCall 1 r_shown_plan (mCons (mD (mVar 4)) mNil) (mCons (mVarX 4) mNil)))
    (mSeq (mIfS [] (mOr (mNot (mTru (mD (mCal isiD (mCons (mVarV 5) (mCons (mD (mK (.ty "str"))) mNil)))))) (mOr (mTest (mD (mOpX neE (mVarX 5) (mVarX 3)))) (mTest (mD (mOpX neE (mVarX 4) (mVarX 2)))))) (mRet [] (mK (.bl false))) mNext)
    (mSeq (mAsg [2, 4, 6] [] 6 (mCall 1 r_read_plan (mCons (mD (mVar 3)) mNil) (mCons (mVarX 3) mNil)))
    (mSeq (mIfS [] (mOr (mNot (mTru (mD (mCal isiD (mCons (mVarV 6) (mCons (mD (mK (.ty "dict"))) mNil)))))) (mTest (mD (mOpX neE (mVarX 6) (mVarX 2))))) (mRet [] (mK (.bl false))) mNext)
    (mSeq (mForO [2, 4, 6] [7, 8] 6 (fun _ xs => xs) (mGTup 2 (mGCons (mName 7) (mGCons (mName 8) mGNil))) m_law_b1)
    (mSeq (mDClear 6)
    (mIfS [] (mTest (mD (mOpX neE (mD (mCall 1 r_read_plan (mCons (mD (mVar 3)) mNil) (mCons (mVarX 3) mNil))) (mVarX 2)))) (mRet [] (mK (.bl false))) mNext))))))))))
def m_law : En → Res Fl :=
    (mSeq (mFor [2, 4, 6] [1] [] (mItems (mD (mOp addD (mD (mLst (mCons (mD (mK (.int 0))) mNil))) (mD (mSl (mVarV 0) mNoPart (mPart (mD (mK (.int 60))))))))) (mName 1) m_law_b2)
    (mRet [] (mK (.bl true))))
def r_law : List D → Res W := runD 10 m_law
def top (i : Nat) : Stmt := PySem.Challenge.pw_shopbound_k23_plans_written.main.body.getD i (.Pass ⟨0, 0, 0, 0⟩)
abbrev s_is_name : Stmt := top 5
abbrev s_shown_plan : Stmt := top 8
abbrev s_number_of : Stmt := top 9
abbrev s_read_plan : Stmt := top 10
abbrev s__law_cell : Stmt := top 12
abbrev s__law_digits : Stmt := top 13
abbrev s__law_word : Stmt := top 14
abbrev s__law_plan : Stmt := top 15
abbrev s_law : Stmt := top 16
/-- what the module knows -/
structure Txt (mg : Str → Option Value) : Prop where
  b_abs : mg "abs" = none
  b_bool : mg "bool" = none
  b_dict : mg "dict" = none
  b_enumerate : mg "enumerate" = none
  b_int : mg "int" = none
  b_isinstance : mg "isinstance" = none
  b_len : mg "len" = none
  b_list : mg "list" = none
  b_range : mg "range" = none
  b_sorted : mg "sorted" = none
  b_str : mg "str" = none
  g_FIGURES : ∃ t, mg "FIGURES" = some (Value.str (PySem.Str.ofString "0123456789") t)
  g_LETTERS : ∃ t, mg "LETTERS" = some (Value.str (PySem.Str.ofString "abcdefghijklmnopqrstuvwxyz") t)
abbrev Known (K : PySem.W.Frag) (mg : Str → Option Value) (x : Str) (f : Addr) (fd : FuncData) (ps : List Str) : Prop := mg x = some (.ref f) ∧ PySem.W.keepIn K (.ref f) = true ∧ Binds K fd ps []
section
variable {P : Program} {w : World} {K : PySem.W.Frag} {mg : Str → Option Value} {base : Heap}
abbrev nm_is_name : List Str := ["thing", "sign"]
theorem sc_is_name : FnScope nm_is_name ["thing"] (defScope s_is_name) := ⟨rfl, rfl, rfl, by decide +kernel, rfl, by decide +kernel, by decide +kernel⟩
theorem ok_is_name {f : Addr} {fd : FuncData} (F : Fun K "is_name" "is_name" s_is_name f fd) (T : Txt mg) :
    FnOk P w K mg base (L2.CX P w) 1 f fd ["thing"] (spM K 1 r_is_name) := by
  obtain ⟨t_LETTERS, h_LETTERS⟩ := T.g_LETTERS
  refine fn_sem (k := 0) F sc_is_name r_is_name [] m_is_name (fun cdv A outer s H E hr => ⟨_, (pss_cons (ps_if ((pw_or (pt_not (kt_tru K rfl (pe_callB (ke_isi K rfl) (by rfl) T.b_isinstance (by decide +kernel) (pa_cons (pv 0) (pa_cons ((pe_bltn (v := .ty "str") (by rfl) T.b_str (by decide +kernel) rfl)) pa_nil))))) (pw_or1 (pt_not (pt_chain op_leU op_leU (pe_int) (pe_callB (ke_len K rfl) (by rfl) T.b_len (by decide +kernel) (pa_cons (pv 0) pa_nil)) (pe_int))))).pt) (pss_one (ps_ret (pe_bl))) pss_nil)
      (pss_cons (ps_for (passes_of rfl) rfl (ki_U K rfl (pv 0)) (pg_name (i := 1) sc_is_name.nd rfl (Or.inl rfl)) (pss_one (ps_if (pt_cmpR (ke_notIn K rfl (room65 hr)) (pv 1) ((pe_glob (v := (.str "abcdefghijklmnopqrstuvwxyz")) (by rfl) h_LETTERS ⟨_, rfl⟩)) rfl) (pss_one (ps_ret (pe_bl))) pss_nil)))
      (pss_one (ps_ret (pe_bl))))), ?_⟩) (fun _ _ => rfl)
  unfold m_is_name m_is_name_b1
  try dsimp only [cxOf]
  infer_instance
abbrev nm_shown_plan : List Str := ["plan", "name"]
theorem sc_shown_plan : FnScope nm_shown_plan ["plan"] (defScope s_shown_plan) := ⟨rfl, rfl, rfl, by decide +kernel, rfl, by decide +kernel, by decide +kernel⟩
theorem ok_shown_plan {f : Addr} {fd : FuncData} (F : Fun K "shown_plan" "shown_plan" s_shown_plan f fd) (T : Txt mg) :
    FnOk P w K mg base (L2.CX P w) 1 f fd ["plan"] (spM K 1 r_shown_plan) := by
  refine fn_sem (k := 0) F sc_shown_plan r_shown_plan [] m_shown_plan (fun cdv A outer s H E hr => ⟨_, (pss_one (ps_ret (kp_join K rfl (pe_str) (pe_lc (own := [("name", 1)]) rfl sc_shown_plan.nd (ki_U K rfl (pe_callB (call_sortU (K := K) rfl rfl) (by rfl) T.b_sorted (by decide +kernel) (pa_cons (pv 0) pa_nil))) (blkOk_by (own := [("name", 1)]) (N := nm_shown_plan) (sc := defScope s_shown_plan) (by decide +kernel)) (fun _ _ _ _ _ => pg_name (i := 1) sc_shown_plan.nd rfl (Or.inl rfl)) (fun _ _ _ _ _ => pts_nil) (fun _ _ _ _ _ => pe_joinedU (.cons (pe_fmt (pv 1)) (.cons pe_str (.cons (pe_fmt (pe_ix (ke_ix K rfl (hu_of hr)) (pe_ix (ke_ix K rfl (hu_of hr)) (pv 0) (pv 1) (fun _ _ => rfl)) (pe_int) (fun _ _ => rfl))) (.cons pe_str (.cons (pe_fmt (pe_ix (ke_ix K rfl (hu_of hr)) (pe_ix (ke_ix K rfl (hu_of hr)) (pv 0) (pv 1) (fun _ _ => rfl)) (pe_int) (fun _ _ => rfl))) .nil)))))))))), ?_⟩) (fun _ _ => rfl)
  unfold m_shown_plan
  try dsimp only [cxOf]
  infer_instance
abbrev nm_number_of : List Str := ["word", "sign"]
theorem sc_number_of : FnScope nm_number_of ["word"] (defScope s_number_of) := ⟨rfl, rfl, rfl, by decide +kernel, rfl, by decide +kernel, by decide +kernel⟩
theorem ok_number_of {f : Addr} {fd : FuncData} (F : Fun K "number_of" "number_of" s_number_of f fd) (T : Txt mg) :
    FnOk P w K mg base (L2.CX P w) 1 f fd ["word"] (spM K 1 r_number_of) := by
  obtain ⟨t_FIGURES, h_FIGURES⟩ := T.g_FIGURES
  refine fn_sem (k := 0) F sc_number_of r_number_of [] m_number_of (fun cdv A outer s H E hr => ⟨_, (pss_cons (ps_if ((pw_or (pt_cmpR (kx_eq K rfl (room65 hr)) (pv 0) (pe_str) (nomark _)) (pw_or1 ((pw_and (pt_cmpR op_gtU (pe_callB (ke_len K rfl) (by rfl) T.b_len (by decide +kernel) (pa_cons (pv 0) pa_nil)) (pe_int) (nomark _)) (pw_and1 (pt_cmpR (kx_eq K rfl (room65 hr)) (pe_ix (ke_ix K rfl (hu_of hr)) (pv 0) (pe_int) (fun _ _ => rfl)) (pe_str) (nomark _)))).pt))).pt) (pss_one (ps_never)) pss_nil)
      (pss_cons (ps_for (passes_of rfl) rfl (ki_U K rfl (pv 0)) (pg_name (i := 1) sc_number_of.nd rfl (Or.inl rfl)) (pss_one (ps_if (pt_cmpR (ke_notIn K rfl (room65 hr)) (pv 1) ((pe_glob (v := (.str "0123456789")) (by rfl) h_FIGURES ⟨_, rfl⟩)) rfl) (pss_one (ps_never)) pss_nil)))
      (pss_one (ps_ret (pe_callTy call_intU (by rfl) T.b_int (by decide +kernel) (pa_cons (pv 0) pa_nil)))))), ?_⟩) (fun _ _ => rfl)
  unfold m_number_of m_number_of_b1
  try dsimp only [cxOf]
  infer_instance
abbrev nm_read_plan : List Str := ["text", "plan", "ahead", "row", "words"]
theorem sc_read_plan : FnScope nm_read_plan ["text"] (defScope s_read_plan) := ⟨rfl, rfl, rfl, by decide +kernel, rfl, by decide +kernel, by decide +kernel⟩
theorem ok_read_plan {f : Addr} {fd : FuncData} (F : Fun K "read_plan" "read_plan" s_read_plan f fd) (T : Txt mg)
    {f_number_of : Addr} {fd_number_of : FuncData} (G_number_of : FnOk P w K mg base (L2.CX P w) 1 f_number_of fd_number_of ["word"] (spM K 1 r_number_of)) (M_number_of : Known K mg "number_of" f_number_of fd_number_of ["word"])
    {f_is_name : Addr} {fd_is_name : FuncData} (G_is_name : FnOk P w K mg base (L2.CX P w) 1 f_is_name fd_is_name ["thing"] (spM K 1 r_is_name)) (M_is_name : Known K mg "is_name" f_is_name fd_is_name ["thing"]) :
    FnOk P w K mg base (L2.CX P w) 2 f fd ["text"] (spM K 1 r_read_plan) := by
  refine fn_sem (k := 1) F sc_read_plan r_read_plan [1] m_read_plan (fun cdv A outer s H E hr => ⟨_, (pss_cons (ps_if (pt_not (kt_tru K rfl (pe_callB (ke_isi K rfl) (by rfl) T.b_isinstance (by decide +kernel) (pa_cons (pv 0) (pa_cons ((pe_bltn (v := .ty "str") (by rfl) T.b_str (by decide +kernel) rfl)) pa_nil))))) (pss_one (ps_never)) pss_nil)
      (pss_cons (ps_set (i := 1) sc_read_plan.nd rfl (Or.inl rfl) (pe_dnewK))
      (pss_cons (ps_if (pt_cmpR (kx_eq K rfl (room65 hr)) (pv 0) (pe_str) (nomark _)) (pss_one (ps_ret (pv 1))) pss_nil)
      (pss_cons (ps_set (i := 2) sc_read_plan.nd rfl (Or.inl rfl) (pe_str))
      (pss_cons (ps_for (passes_of rfl) rfl (ki_U K rfl (kp_split (pv 0) (pe_str))) (pg_name (i := 3) sc_read_plan.nd rfl (Or.inl rfl)) (pss_cons (ps_set (i := 4) sc_read_plan.nd rfl (Or.inl rfl) (kp_split (pv 3) (pe_str)))
      (pss_cons (ps_if ((pw_or (pt_cmpR (kx_ne K rfl (room65 hr)) (pe_callB (ke_len K rfl) (by rfl) T.b_len (by decide +kernel) (pa_cons (pv 4) pa_nil)) (pe_int) (nomark _)) (pw_or (pt_not (kt_tru K rfl (pe_call G_is_name (hr.mono (by decide)) (by rfl) M_is_name.1 M_is_name.2.1 M_is_name.2.2 .nil passD (pa_cons (pe_ix (ke_ix K rfl (hu_of hr)) (pv 4) (pe_int) (fun _ _ => rfl)) pa_nil)))) (pw_or (pt_not (kt_tru K rfl (pe_call G_is_name (hr.mono (by decide)) (by rfl) M_is_name.1 M_is_name.2.1 M_is_name.2.2 .nil passD (pa_cons (pe_ix (ke_ix K rfl (hu_of hr)) (pv 4) (pe_int) (fun _ _ => rfl)) pa_nil)))) (pw_or1 (pt_cmpR op_leU (pe_ix (ke_ix K rfl (hu_of hr)) (pv 4) (pe_int) (fun _ _ => rfl)) (pv 2) (nomark _)))))).pt) (pss_one (ps_never)) pss_nil)
      (pss_cons (ps_dput (hu_of hr) (pv 1) (pe_ix (ke_ix K rfl (hu_of hr)) (pv 4) (pe_int) (fun _ _ => rfl)) (pe_tup (pa_cons (pe_ix (ke_ix K rfl (hu_of hr)) (pv 4) (pe_int) (fun _ _ => rfl)) (pa_cons (pe_call G_number_of (hr.mono (by decide)) (by rfl) M_number_of.1 M_number_of.2.1 M_number_of.2.2 .nil passD (pa_cons (pe_ix (ke_ix K rfl (hu_of hr)) (pv 4) (pe_int) (fun _ _ => rfl)) pa_nil)) pa_nil))) (by rfl))
      (pss_one (ps_set (i := 2) sc_read_plan.nd rfl (Or.inl rfl) (pe_ix (ke_ix K rfl (hu_of hr)) (pv 4) (pe_int) (fun _ _ => rfl))))))))
      (pss_one (ps_ret (pv 1)))))))), ?_⟩) (fun _ _ => rfl)
  unfold m_read_plan m_read_plan_b1
  try dsimp only [cxOf]
  infer_instance
abbrev nm__law_cell : List Str := ["_law_script", "_law_k"]
theorem sc__law_cell : FnScope nm__law_cell ["_law_script", "_law_k"] (defScope s__law_cell) := ⟨rfl, rfl, rfl, by decide +kernel, rfl, by decide +kernel, by decide +kernel⟩
theorem ok__law_cell {f : Addr} {fd : FuncData} (F : Fun K "_law_cell" "_law_cell" s__law_cell f fd) (T : Txt mg) :
    FnOk P w K mg base (L2.CX P w) 1 f fd ["_law_script", "_law_k"] (spM K 2 r__law_cell) := by
  refine fn_sem (k := 0) F sc__law_cell r__law_cell [] m__law_cell (fun cdv A outer s H E hr => ⟨_, (pss_cons (ps_if (pt_cmpR op_ltU (pv 1) (pe_callB (ke_len K rfl) (by rfl) T.b_len (by decide +kernel) (pa_cons (pv 0) pa_nil)) (nomark _)) (pss_one (ps_ret (pe_ix (ke_ix K rfl (hu_of hr)) (pv 0) (pv 1) (fun _ _ => rfl)))) pss_nil)
      (pss_one (ps_ret (pe_int)))), ?_⟩) (fun _ _ => rfl)
  unfold m__law_cell
  try dsimp only [cxOf]
  infer_instance
abbrev nm__law_digits : List Str := ["_law_cell_here", "_law_k", "_law_sizes", "_law_number", "_law_found", "_law_turn", "_law_size"]
theorem sc__law_digits : FnScope nm__law_digits ["_law_cell_here", "_law_k", "_law_sizes"] (defScope s__law_digits) := ⟨rfl, rfl, rfl, by decide +kernel, rfl, by decide +kernel, by decide +kernel⟩
theorem ok__law_digits {f : Addr} {fd : FuncData} (F : Fun K "_law_digits" "_law_digits" s__law_digits f fd) (T : Txt mg) :
    FnOk P w K mg base (L2.CX P w) 1 f fd ["_law_cell_here", "_law_k", "_law_sizes"] (spM K 3 r__law_digits) := by
  refine fn_sem (k := 0) F sc__law_digits r__law_digits [4] m__law_digits (fun cdv A outer s H E hr => ⟨_, (pss_cons (ps_set (i := 3) sc__law_digits.nd rfl (Or.inl rfl) (pe_op op_fdivI (pe_callB call_absU (by rfl) T.b_abs (by decide +kernel) (pa_cons (pv 0) pa_nil)) (pe_int)))
      (pss_cons (ps_set (i := 4) sc__law_digits.nd rfl (Or.inl rfl) (pe_lst pa_nil))
      (pss_cons (ps_for (passes_of rfl) rfl (ki_enum K rfl (by rfl) T.b_enumerate (pa_cons (pv 2) pa_nil)) (kg_tup K rfl (n := 2) rfl (pgs_cons (pg_name (i := 5) sc__law_digits.nd rfl (Or.inl rfl)) (pgs_cons (pg_name (i := 6) sc__law_digits.nd rfl (Or.inl rfl)) pgs_nil))) (pss_one (ps_if ((pw_or (pt_cmpR (kx_eq K rfl (room65 hr)) (pe_op op_modI (pv 0) (pe_int)) (pe_int) (nomark _)) (pw_or1 (pt_cmpR (kx_eq K rfl (room65 hr)) (pv 3) (pe_int) (nomark _)))).pt) (pss_cons (ps_set (i := 3) sc__law_digits.nd rfl (Or.inl rfl) (pe_op (ke_add K rfl) (pe_op op_modI (pe_op (ke_add K rfl) (pv 3) (pv 0)) (pe_int)) (pe_int)))
      (pss_cons (ps_set (i := 3) sc__law_digits.nd rfl (Or.inl rfl) (pe_op (ke_add K rfl) (pv 3) (pe_op (ke_mul K rfl) (pe_op (ke_mul K rfl) (pe_int) (pe_op (ke_add K rfl) (pv 1) (pv 5))) (pe_op (ke_add K rfl) (pv 1) (pv 5)))))
      (pss_cons (ps_set (i := 3) sc__law_digits.nd rfl (Or.inl rfl) (pe_op op_modI (pe_op (ke_mul K rfl) (pv 3) (pv 3)) (pe_int)))
      (pss_one (ps_expr (pe_bm PySem.F.plainAttrs_list PySem.F.slot_list_append PySem.F.type_list_append mt_append (pv 4) (pa_cons (pe_op op_modI (pe_op op_fdivI (pv 3) (pe_int)) (pv 6)) pa_nil))))))) (pss_cons (ps_expr (pe_bm PySem.F.plainAttrs_list PySem.F.slot_list_append PySem.F.type_list_append mt_append (pv 4) (pa_cons (pe_op op_modI (pv 3) (pv 6)) pa_nil)))
      (pss_one (ps_set (i := 3) sc__law_digits.nd rfl (Or.inl rfl) (pe_op op_fdivI (pv 3) (pv 6))))))))
      (pss_one (ps_ret (pv 4)))))), ?_⟩) (fun _ _ => rfl)
  unfold m__law_digits m__law_digits_b1
  try dsimp only [cxOf]
  infer_instance
abbrev nm__law_word : List Str := ["_law_row", "_law_number"]
theorem sc__law_word : FnScope nm__law_word ["_law_row"] (defScope s__law_word) := ⟨rfl, rfl, rfl, by decide +kernel, rfl, by decide +kernel, by decide +kernel⟩
theorem ok__law_word {f : Addr} {fd : FuncData} (F : Fun K "_law_word" "_law_word" s__law_word f fd) (T : Txt mg) :
    FnOk P w K mg base (L2.CX P w) 1 f fd ["_law_row"] (spM K 1 r__law_word) := by
  refine fn_sem (k := 0) F sc__law_word r__law_word [] m__law_word (fun cdv A outer s H E hr => ⟨_, (pss_one (ps_ret (kp_join K rfl (pe_str) (pe_lc (own := [("_law_number", 1)]) rfl sc__law_word.nd (ki_U K rfl (pe_slice (ke_sl K rfl) (pv 0) (po_some (pe_int)) (po_some (pe_op (ke_add K rfl) (pe_int) (pe_ix (ke_ix K rfl (hu_of hr)) (pv 0) (pe_int) (fun _ _ => rfl)))))) (blkOk_by (own := [("_law_number", 1)]) (N := nm__law_word) (sc := defScope s__law_word) (by decide +kernel)) (fun _ _ _ _ _ => pg_name (i := 1) sc__law_word.nd rfl (Or.inl rfl)) (fun _ _ _ _ _ => pts_nil) (fun _ _ _ _ _ => pe_ix (ke_ix K rfl (hu_of hr)) (pe_str) (pv 1) (fun _ _ => rfl)))))), ?_⟩) (fun _ _ => rfl)
  unfold m__law_word
  try dsimp only [cxOf]
  infer_instance
abbrev nm__law_plan : List Str := ["_law_cell_here", "_law_plan_here", "_law_many", "_law_k", "_law_row", "_law_name", "_law_bench", "_law_number"]
theorem sc__law_plan : FnScope nm__law_plan ["_law_cell_here"] (defScope s__law_plan) := ⟨rfl, rfl, rfl, by decide +kernel, rfl, by decide +kernel, by decide +kernel⟩
theorem ok__law_plan {f : Addr} {fd : FuncData} (F : Fun K "_law_plan" "_law_plan" s__law_plan f fd) (T : Txt mg)
    {f__law_digits : Addr} {fd__law_digits : FuncData} (G__law_digits : FnOk P w K mg base (L2.CX P w) 1 f__law_digits fd__law_digits ["_law_cell_here", "_law_k", "_law_sizes"] (spM K 3 r__law_digits)) (M__law_digits : Known K mg "_law_digits" f__law_digits fd__law_digits ["_law_cell_here", "_law_k", "_law_sizes"])
    {f__law_word : Addr} {fd__law_word : FuncData} (G__law_word : FnOk P w K mg base (L2.CX P w) 1 f__law_word fd__law_word ["_law_row"] (spM K 1 r__law_word)) (M__law_word : Known K mg "_law_word" f__law_word fd__law_word ["_law_row"]) :
    FnOk P w K mg base (L2.CX P w) 2 f fd ["_law_cell_here"] (spM K 1 r__law_plan) := by
  refine fn_sem (k := 1) F sc__law_plan r__law_plan [1] m__law_plan (fun cdv A outer s H E hr => ⟨_, (pss_cons (ps_set (i := 1) sc__law_plan.nd rfl (Or.inl rfl) (pe_dnewK))
      (pss_cons (ps_set (i := 2) sc__law_plan.nd rfl (Or.inl rfl) (pe_op op_modI (pv 0) (pe_int)))
      (pss_cons (ps_for (passes_of rfl) rfl (pi_range1 (by rfl) T.b_range (pa_cons (pv 2) pa_nil)) (pg_name (i := 3) sc__law_plan.nd rfl (Or.inl rfl)) (pss_cons (ps_set (i := 4) sc__law_plan.nd rfl (Or.inl rfl) (pe_call G__law_digits (hr.mono (by decide)) (by rfl) M__law_digits.1 M__law_digits.2.1 M__law_digits.2.2 .nil passD (pa_cons (pe_op op_fdivI (pv 0) (pe_int)) (pa_cons (pe_op (ke_mul K rfl) (pe_int) (pv 3)) (pa_cons (pe_op (ke_add K rfl) (pe_op (ke_add K rfl) (pe_op (ke_add K rfl) (pe_op (ke_add K rfl) (pe_lst (pa_cons (pe_int) pa_nil)) (pe_op (ke_mul K rfl) (pe_lst (pa_cons (pe_int) pa_nil)) (pe_int))) (pe_lst (pa_cons (pe_int) pa_nil))) (pe_op (ke_mul K rfl) (pe_lst (pa_cons (pe_int) pa_nil)) (pe_int))) (pe_lst (pa_cons (pe_int) (pa_cons (pe_op op_powI (pe_int) (pe_int)) (pa_cons (pe_int) pa_nil))))) pa_nil)))))
      (pss_cons (ps_if (pt_cmpR (kx_eq K rfl (room65 hr)) (pe_op op_modI (pv 0) (pe_int)) (pe_int) (nomark _)) (pss_one (ps_set (i := 4) sc__law_plan.nd rfl (Or.inl rfl) (pe_op (ke_add K rfl) (pe_slice (ke_sl K rfl) (pv 4) (po_some (pe_op op_modI (pv 3) (pe_int))) po_none) (pe_slice (ke_sl K rfl) (pv 4) po_none (po_some (pe_op op_modI (pv 3) (pe_int))))))) pss_nil)
      (pss_cons (ps_set (i := 5) sc__law_plan.nd rfl (Or.inl rfl) (pe_call G__law_word (hr.mono (by decide)) (by rfl) M__law_word.1 M__law_word.2.1 M__law_word.2.2 .nil passD (pa_cons (pe_op (ke_add K rfl) (pe_lst (pa_cons (pe_op op_modI (pe_ix (ke_ix K rfl (hu_of hr)) (pv 4) (pe_int) (fun _ _ => rfl)) (pe_int)) pa_nil)) (pe_lc (own := [("_law_number", 7)]) rfl sc__law_plan.nd (ki_U K rfl (pe_slice (ke_sl K rfl) (pv 4) (po_some (pe_int)) (po_some (pe_int)))) (blkOk_by (own := [("_law_number", 7)]) (N := nm__law_plan) (sc := defScope s__law_plan) (by decide +kernel)) (fun _ _ _ _ _ => pg_name (i := 7) sc__law_plan.nd rfl (Or.inl rfl)) (fun _ _ _ _ _ => pts_nil) (fun _ _ _ _ _ => pe_op op_modI (pv 7) (pe_int)))) pa_nil)))
      (pss_cons (ps_set (i := 6) sc__law_plan.nd rfl (Or.inl rfl) (pe_call G__law_word (hr.mono (by decide)) (by rfl) M__law_word.1 M__law_word.2.1 M__law_word.2.2 .nil passD (pa_cons (pe_op (ke_add K rfl) (pe_lst (pa_cons (pe_op op_modI (pe_ix (ke_ix K rfl (hu_of hr)) (pv 4) (pe_int) (fun _ _ => rfl)) (pe_int)) pa_nil)) (pe_lc (own := [("_law_number", 7)]) rfl sc__law_plan.nd (ki_U K rfl (pe_slice (ke_sl K rfl) (pv 4) (po_some (pe_int)) (po_some (pe_int)))) (blkOk_by (own := [("_law_number", 7)]) (N := nm__law_plan) (sc := defScope s__law_plan) (by decide +kernel)) (fun _ _ _ _ _ => pg_name (i := 7) sc__law_plan.nd rfl (Or.inl rfl)) (fun _ _ _ _ _ => pts_nil) (fun _ _ _ _ _ => pe_op op_modI (pv 7) (pe_int)))) pa_nil)))
      (pss_one (ps_dput (hu_of hr) (pv 1) (pv 5) (pe_tup (pa_cons (pv 6) (pa_cons (pe_ix (ke_ix K rfl (hu_of hr)) (pe_lst (pa_cons (pe_op op_modI (pe_ix (ke_ix K rfl (hu_of hr)) (pv 4) (pe_int) (fun _ _ => rfl)) (pe_int)) (pa_cons (pe_ix (ke_ix K rfl (hu_of hr)) (pv 4) (pe_int) (fun _ _ => rfl)) pa_nil))) (pe_op op_modI (pe_ix (ke_ix K rfl (hu_of hr)) (pv 4) (pe_int) (fun _ _ => rfl)) (pe_int)) (fun _ _ => rfl)) pa_nil))) (by rfl))))))))
      (pss_one (ps_ret (pv 1)))))), ?_⟩) (fun _ _ => rfl)
  unfold m__law_plan m__law_plan_b1
  try dsimp only [cxOf]
  infer_instance
abbrev nm_law : List Str := ["_law_script", "_law_cell_here", "_law_plan_here", "_law_due", "_law_handed", "_law_found", "_law_told", "_law_bench", "_law_start", "_law_name"]
theorem sc_law : FnScope nm_law ["_law_script"] (defScope s_law) := ⟨rfl, rfl, rfl, by decide +kernel, rfl, by decide +kernel, by decide +kernel⟩
theorem ok_law {f : Addr} {fd : FuncData} (F : Fun K "law" "law" s_law f fd) (T : Txt mg)
    {f__law_plan : Addr} {fd__law_plan : FuncData} (G__law_plan : FnOk P w K mg base (L2.CX P w) 2 f__law_plan fd__law_plan ["_law_cell_here"] (spM K 1 r__law_plan)) (M__law_plan : Known K mg "_law_plan" f__law_plan fd__law_plan ["_law_cell_here"])
    {f_shown_plan : Addr} {fd_shown_plan : FuncData} (G_shown_plan : FnOk P w K mg base (L2.CX P w) 1 f_shown_plan fd_shown_plan ["plan"] (spM K 1 r_shown_plan)) (M_shown_plan : Known K mg "shown_plan" f_shown_plan fd_shown_plan ["plan"])
    {f_read_plan : Addr} {fd_read_plan : FuncData} (G_read_plan : FnOk P w K mg base (L2.CX P w) 2 f_read_plan fd_read_plan ["text"] (spM K 1 r_read_plan)) (M_read_plan : Known K mg "read_plan" f_read_plan fd_read_plan ["text"]) :
    FnOk P w K mg base (L2.CX P w) 3 f fd ["_law_script"] (spM K 1 r_law) := by
  refine fn_sem (k := 2) F sc_law r_law [2, 4, 6] m_law (fun cdv A outer s H E hr => ⟨_, (pss_cons (ps_for (passes_of rfl) rfl (ki_U K rfl (pe_op (ke_add K rfl) (pe_lst (pa_cons (pe_int) pa_nil)) (pe_slice (ke_sl K rfl) (pv 0) po_none (po_some (pe_int))))) (pg_name (i := 1) sc_law.nd rfl (Or.inl rfl)) (pss_cons (ps_set (i := 2) sc_law.nd rfl (by first | exact Or.inl rfl | exact Or.inr rfl) (pe_call G__law_plan (hr.mono (by decide)) (by rfl) M__law_plan.1 M__law_plan.2.1 M__law_plan.2.2 .nil passD (pa_cons (pv 1) pa_nil)))
      (pss_cons (ps_set (i := 3) sc_law.nd rfl (Or.inl rfl) (kp_join K rfl (pe_str) (pe_lc (own := [("_law_name", 9)]) rfl sc_law.nd (ki_U K rfl (pe_callB (call_sortU (K := K) rfl rfl) (by rfl) T.b_sorted (by decide +kernel) (pa_cons (pv 2) pa_nil))) (blkOk_by (own := [("_law_name", 9)]) (N := nm_law) (sc := defScope s_law) (by decide +kernel)) (fun _ _ _ _ _ => pg_name (i := 9) sc_law.nd rfl (Or.inl rfl)) (fun _ _ _ _ _ => pts_nil) (fun _ _ _ _ _ => kp_join K rfl (pe_str) (pe_lst (pa_cons (pv 9) (pa_cons (pe_ix (ke_ix K rfl (hu_of hr)) (pe_ix (ke_ix K rfl (hu_of hr)) (pv 2) (pv 9) (fun _ _ => rfl)) (pe_int) (fun _ _ => rfl)) (pa_cons (pe_callTy call_strU (by rfl) T.b_str (by decide +kernel) (pa_cons (pe_ix (ke_ix K rfl (hu_of hr)) (pe_ix (ke_ix K rfl (hu_of hr)) (pv 2) (pv 9) (fun _ _ => rfl)) (pe_int) (fun _ _ => rfl)) pa_nil)) pa_nil))))))))
      (pss_cons (ps_set (i := 4) sc_law.nd rfl (Or.inl rfl) (pe_callTy (call_dictU (K := K) rfl rfl) (by rfl) T.b_dict (by decide +kernel) (pa_cons (kp_rev K rfl (LiI.pe_listItems rfl (pv 2) (by rfl) T.b_list (by decide +kernel))) pa_nil)))
      (pss_cons (ps_set (i := 5) sc_law.nd rfl (Or.inl rfl) (pe_call G_shown_plan (hr.mono (by decide)) (by rfl) M_shown_plan.1 M_shown_plan.2.1 M_shown_plan.2.2 .nil passD (pa_cons (pv 4) pa_nil)))
      (pss_cons (ps_if ((pw_or (pt_not (kt_tru K rfl (pe_callB (ke_isi K rfl) (by rfl) T.b_isinstance (by decide +kernel) (pa_cons (pv 5) (pa_cons ((pe_bltn (v := .ty "str") (by rfl) T.b_str (by decide +kernel) rfl)) pa_nil))))) (pw_or (pt_cmpR (kx_ne K rfl (room65 hr)) (pv 5) (pv 3) (nomark _)) (pw_or1 (pt_cmpR (kx_ne K rfl (room65 hr)) (pv 4) (pv 2) (nomark _))))).pt) (pss_one (ps_ret (pe_bl))) pss_nil)
      (pss_cons (ps_set (i := 6) sc_law.nd rfl (Or.inl rfl) (pe_call G_read_plan (hr.mono (by decide)) (by rfl) M_read_plan.1 M_read_plan.2.1 M_read_plan.2.2 .nil passD (pa_cons (pv 3) pa_nil)))
      (pss_cons (ps_if ((pw_or (pt_not (kt_tru K rfl (pe_callB (ke_isi K rfl) (by rfl) T.b_isinstance (by decide +kernel) (pa_cons (pv 6) (pa_cons ((pe_bltn (v := .ty "dict") (by rfl) T.b_dict (by decide +kernel) rfl)) pa_nil))))) (pw_or1 (pt_cmpR (kx_ne K rfl (room65 hr)) (pv 6) (pv 2) (nomark _)))).pt) (pss_one (ps_ret (pe_bl))) pss_nil)
      (pss_cons (ps_lock (ps_for (passes_of rfl) rfl (pi_values (pv 6)) (kg_tup K rfl (n := 2) rfl (pgs_cons (pg_name (i := 7) sc_law.nd rfl (Or.inl rfl)) (pgs_cons (pg_name (i := 8) sc_law.nd rfl (Or.inl rfl)) pgs_nil))) (pss_one (ps_if ((pw_or (kt_tru K rfl (pe_callB (ke_isi K rfl) (by rfl) T.b_isinstance (by decide +kernel) (pa_cons (pv 8) (pa_cons ((pe_bltn (v := .ty "bool") (by rfl) T.b_bool (by decide +kernel) rfl)) pa_nil)))) (pw_or (pt_not (kt_tru K rfl (pe_callB (ke_isi K rfl) (by rfl) T.b_isinstance (by decide +kernel) (pa_cons (pv 8) (pa_cons ((pe_bltn (v := .ty "int") (by rfl) T.b_int (by decide +kernel) rfl)) pa_nil))))) (pw_or1 (pt_not (kt_tru K rfl (pe_callB (ke_isi K rfl) (by rfl) T.b_isinstance (by decide +kernel) (pa_cons (pv 7) (pa_cons ((pe_bltn (v := .ty "str") (by rfl) T.b_str (by decide +kernel) rfl)) pa_nil)))))))).pt) (pss_one (ps_ret (pe_bl))) pss_nil))))
      (pss_cons (ps_expr (kp_dclear K rfl (pv 6)))
      (pss_one (ps_if (pt_cmpR (kx_ne K rfl (room65 hr)) (pe_call G_read_plan (hr.mono (by decide)) (by rfl) M_read_plan.1 M_read_plan.2.1 M_read_plan.2.2 .nil passD (pa_cons (pv 3) pa_nil)) (pv 2) (nomark _)) (pss_one (ps_ret (pe_bl))) pss_nil))))))))))))
      (pss_one (ps_ret (pe_bl)))), ?_⟩) (fun _ _ => rfl)
  unfold m_law m_law_b2 m_law_b1
  try dsimp only [cxOf]
  infer_instance
end
end My

set_option Elab.async false
set_option linter.all false
set_option maxRecDepth 100000
set_option maxHeartbeats 4000000
namespace My
open PySem L2 Ly
def dg1 (c k num : Int) (i : Nat) : Int := ((num + c) % 2147483629 + 48271 + 7919 * (k + i) * (k + i)) * ((num + c) % 2147483629 + 48271 + 7919 * (k + i) * (k + i)) % 2147483587
theorem mul_box {a b x y : Int} (h0 : 0 ≤ a) (h1 : a ≤ x) (h2 : 0 ≤ b) (h3 : b ≤ y) : 0 ≤ a * b ∧ a * b ≤ x * y :=
  ⟨Int.mul_nonneg h0 h2, Int.mul_le_mul h1 h3 h2 (Int.le_trans h0 h1)⟩
theorem digits_ok (c k : Int) (sizes : List Int) (hs : ∀ s ∈ sizes, 0 < s ∧ s < big60) (hk : 0 ≤ k ∧ k ≤ 1000) (hl : sizes.length ≤ 100) :
    ∃ ds : List Int, r__law_digits [.int c, .int k, .lst (sizes.map .int)] = .ok (.lst (ds.map .int)) ∧ ds.length = sizes.length ∧ ∀ (i : Nat) (d s : Int), ds[i]? = some d → sizes[i]? = some s → 0 ≤ d ∧ d < s := by
  unfold r__law_digits m__law_digits
  simp [big60]
  generalize hr : runL _ _ _ _ = r
  have key : ∃ env', r = .ok (.nx env') ∧ ∃ (ds : List Int) (num : Int) (x5 x6 : Option W), env' = [some (W.sh (D.int c)), some (W.sh (D.int k)), some (W.sh (D.lst (List.map D.int sizes))), some (W.sh (D.int num)), some (W.lst (ds.map D.int)), x5, x6] ∧
      ds.length = 0 + (enumD 0 (List.map D.int sizes)).length ∧ ∀ (j : Nat) (d s : Int), ds[j]? = some d → sizes[j]? = some s → 0 ≤ d ∧ d < s := by
    rw [← hr]
    refine runL_goes (mb := m__law_digits_b1) (fun i env => ∃ (ds : List Int) (num : Int) (x5 x6 : Option W), env = [some (W.sh (D.int c)), some (W.sh (D.int k)), some (W.sh (D.lst (List.map D.int sizes))), some (W.sh (D.int num)), some (W.lst (ds.map D.int)), x5, x6] ∧
      ds.length = i ∧ ∀ (j : Nat) (d s : Int), ds[j]? = some d → sizes[j]? = some s → 0 ≤ d ∧ d < s) _ 0 _ ⟨[], _, _, _, rfl, rfl, by simp⟩ ?_
    rintro i d env hd ⟨ds, num, x5, x6, rfl, hlen, hb⟩
    obtain ⟨x, hx, rfl⟩ := enumD_get hd
    rw [List.getElem?_map] at hx
    obtain ⟨s, hs', rfl⟩ := Option.map_eq_some_iff.mp hx
    have hmem := List.mem_of_getElem? hs'
    obtain ⟨s0, s1⟩ := hs s hmem
    have hi := (List.getElem?_eq_some_iff.mp hs').1
    have ext : ∀ q : Int, 0 ≤ q → q < s → ∀ (j : Nat) (d s : Int), (ds ++ [q])[j]? = some d → sizes[j]? = some s → 0 ≤ d ∧ d < s := by
      intro q q0 q1 j d s' h1 h2
      by_cases hj : j < ds.length
      · rw [List.getElem?_append_left hj] at h1
        exact hb j d s' h1 h2
      · rw [List.getElem?_append_right (by omega)] at h1
        have e : j - ds.length = 0 := by
          rcases Nat.eq_zero_or_pos (j - ds.length) with e | e
          · exact e
          · rw [List.getElem?_eq_none (by simp; omega)] at h1; cases h1
        rw [e] at h1
        cases h1
        have : j = i := by omega
        subst this
        rw [hs'] at h2
        cases h2
        exact ⟨q0, q1⟩
    have hsmall : ds.length ≤ 10000000 := by omega
    have b60 : s < 10 ^ 60 := s1
    by_cases hc : c % 2 = 1 ∨ num = 0
    · have k0 : 0 ≤ k + (i : Int) ∧ k + (i : Int) ≤ 1100 := by omega
      have m1 : 0 ≤ 7919 * (k + (i : Int)) ∧ 7919 * (k + (i : Int)) ≤ 8710900 := by omega
      have m2 := mul_box m1.1 m1.2 k0.1 k0.2
      have m3 : 0 ≤ (num + c) % 2147483629 ∧ (num + c) % 2147483629 < 2147483629 := ⟨Int.emod_nonneg _ (by decide), Int.emod_lt_of_pos _ (by decide)⟩
      refine ⟨_, [some (W.sh (D.int c)), some (W.sh (D.int k)), some (W.sh (D.lst (List.map D.int sizes))), some (W.sh (D.int (dg1 c k num i))), some (W.lst ((ds ++ [dg1 c k num i / 16 % s]).map D.int)), some (W.sh (D.int i)), some (W.sh (D.int s))], rfl, .inl ?_, _, _, _, _, rfl, by simp; omega, ext _ (Int.emod_nonneg _ (by omega)) (Int.emod_lt_of_pos _ s0)⟩
      have c1 : (if c % 2 = 1 then Res.ok true else Res.ok (decide (num = 0))) = Res.ok true := by
        rcases hc with hc | hc <;> simp [hc]
      have c2 : -18446744073709551616 < k + (i : Int) ∧ k + (i : Int) < 18446744073709551616 := by omega
      have c3 : -18446744073709551616 < (num + c) % 2147483629 + 48271 + 7919 * (k + (i : Int)) * (k + i) ∧ (num + c) % 2147483629 + 48271 + 7919 * (k + (i : Int)) * (k + i) < 18446744073709551616 := by omega
      unfold m__law_digits_b1
      simp [c1, c2, c3, show (16 : Int) < big60 by decide, s0, s1, hsmall, dg1]
    · have c1 : (if c % 2 = 1 then Res.ok true else Res.ok (decide (num = 0))) = Res.ok false := by
        have h1 : ¬ c % 2 = 1 := fun h => hc (.inl h)
        have h2 : ¬ num = 0 := fun h => hc (.inr h)
        simp [h1, h2]
      refine ⟨_, [some (W.sh (D.int c)), some (W.sh (D.int k)), some (W.sh (D.lst (List.map D.int sizes))), some (W.sh (D.int (num / s))), some (W.lst ((ds ++ [num % s]).map D.int)), some (W.sh (D.int i)), some (W.sh (D.int s))], rfl, .inl ?_, _, _, _, _, rfl, by simp; omega, ext _ (Int.emod_nonneg _ (by omega)) (Int.emod_lt_of_pos _ s0)⟩
      unfold m__law_digits_b1
      simp [c1, s0, s1, hsmall]
  obtain ⟨env', rfl, ds, num, x5, x6, rfl, h1, h2⟩ := key
  exact ⟨ds, by simp, by rw [h1, enumD_len]; simp, h2⟩
end My

set_option Elab.async false
set_option linter.all false
set_option maxRecDepth 100000
set_option maxHeartbeats 4000000
namespace My
open PySem L2 Ly
theorem letters_cps : (PySem.Str.ofString "abcdefghijklmnopqrstuvwxyz").cps.toList = (List.range 26).map (· + 97) := by decide +kernel
theorem mem_letters (c : Nat) : c ∈ (PySem.Str.ofString "abcdefghijklmnopqrstuvwxyz").cps ↔ 97 ≤ c ∧ c ≤ 122 := by
  rw [← Array.mem_toList_iff, letters_cps, List.mem_map]
  constructor
  · rintro ⟨a, h, rfl⟩
    rw [List.mem_range] at h
    omega
  · intro h
    exact ⟨c - 97, by rw [List.mem_range]; omega, by omega⟩
def okc (c : Nat) : Bool := decide (97 ≤ c ∧ c ≤ 122)
def isName (z : Str) : Bool := decide (1 ≤ z.length ∧ z.length ≤ 8) && z.cps.toList.all okc
theorem v_notIn_sign (c : Nat) (z : Str) : notInB (sign c) (.str z) = .ok (.bl (!decide (c ∈ z.cps.toList))) := rfl
theorem is_name_loop (z : Str) : ∀ (cs : List Nat) (x1 : Option W), ∃ x1', runL (mName 1) m_is_name_b1 (cs.map sign) [some (.sh (.str z)), x1] =
    if cs.all okc = true then .ok (.nx [some (.sh (.str z)), x1']) else .ok (.rt (.sh (.bl false)))
  | [], x1 => ⟨x1, rfl⟩
  | c :: cs, x1 => by
    obtain ⟨x', ih⟩ := is_name_loop z cs (some (.sh (sign c)))
    refine ⟨x', ?_⟩
    rw [List.map_cons, a_runLc]
    simp only [a_mName, Res.bind_ok]
    rw [show m_is_name_b1 = mIfS [] (mTest (mD (mOpX notInB (mVarX 1) (mD (mK (.str "abcdefghijklmnopqrstuvwxyz")))))) (mRet [] (mK (.bl false))) mNext from rfl, a_mIfS] at *
    by_cases h : 97 ≤ c ∧ c ≤ 122
    · have h1 : okc c = true := decide_eq_true h
      rw [List.all_cons, h1, Bool.true_and, ← ih]
      simp [h, v_notIn_sign, mem_letters]
    · have h1 : okc c = false := decide_eq_false h
      rw [List.all_cons, h1, Bool.false_and]
      simp [h, v_notIn_sign, mem_letters]
theorem is_name_str (z : Str) (hz : z.length ≤ 10000000) : r_is_name [.str z] = .ok (.sh (.bl (isName z))) := by
  unfold r_is_name m_is_name
  simp [tyD, isTy, hz]
  by_cases h1 : (1 : Int) ≤ z.length
  · by_cases h2 : (z.length : Int) ≤ 8
    · obtain ⟨x, hx⟩ := is_name_loop z z.cps.toList none
      have e : isName z = z.cps.toList.all okc := by
        unfold isName
        rw [decide_eq_true (by omega), Bool.true_and]
      rw [e]
      cases hall : z.cps.toList.all okc <;> rw [hall] at hx <;> simp [h1, h2, hx]
    · have e : isName z = false := by
        unfold isName
        rw [decide_eq_false (by omega), Bool.false_and]
      simp [h1, h2, e]
  · have e : isName z = false := by
      unfold isName
      rw [decide_eq_false (by omega), Bool.false_and]
    simp [h1, e]
end My

set_option Elab.async false
set_option linter.all false
set_option maxRecDepth 100000
set_option maxHeartbeats 4000000
namespace My
open PySem L2 Ly TL
theorem atI_at {α : Type} (xs : List α) (i : Int) (h0 : 0 ≤ i) : atI xs i = xs[i.toNat]? := by
  unfold atI ixN
  rw [if_pos h0]
  by_cases h : i < xs.length
  · rw [if_pos h]; rfl
  · rw [if_neg h]
    exact (List.getElem?_eq_none (by omega)).symm
def ltr (n : Int) : Nat := 97 + n.toNat
def wordOf (ls : List Int) : Str := ⟨(ls.map ltr).toArray⟩
theorem letters_atI (n : Int) (h0 : 0 ≤ n) (h1 : n < 26) : atI (PySem.Str.ofString "abcdefghijklmnopqrstuvwxyz").cps.toList n = some (ltr n) := by
  have key : ∀ k : Fin 26, atI ((List.range 26).map (· + 97)) (k.val : Int) = some (97 + k.val) := by decide
  have := key ⟨n.toNat, by omega⟩
  rw [letters_cps]
  simp only at this
  rw [show ((n.toNat : Nat) : Int) = n by omega] at this
  exact this
theorem letters_len : (PySem.Str.ofString "abcdefghijklmnopqrstuvwxyz").length = 26 := by decide +kernel
theorem joinL_nil : ∀ (ls : List Int), joinL [] (ls.map fun n => [ltr n]) = ls.map ltr
  | [] => rfl
  | [n] => rfl
  | n :: m :: r => by
    show [ltr n] ++ ([] ++ joinL [] ((m :: r).map fun n => [ltr n])) = _
    rw [joinL_nil (m :: r)]
    rfl
theorem join_word (ls : List Int) : Txt.join (PySem.Str.ofString "") (ls.map fun n => (⟨#[ltr n]⟩ : Str)) = wordOf ls := by
  refine ext_tl ?_
  rw [join_eq, tl_join, List.map_map]
  exact joinL_nil ls
theorem strsD_map {α : Type} (f : α → Str) : ∀ ls : List α, strsD (ls.map fun n => D.str (f n)) = some (ls.map f)
  | [] => rfl
  | n :: r => by
    show (strsD (r.map fun n => D.str (f n))).map _ = _
    rw [strsD_map f r]
    rfl
theorem isName_word {ls : List Int} (h1 : 1 ≤ ls.length) (h8 : ls.length ≤ 8) (h : ∀ x ∈ ls, 0 ≤ x ∧ x < 26) : isName (wordOf ls) = true := by
  unfold isName
  have e : (wordOf ls).length = ls.length := by simp [wordOf, Str.length]
  rw [e, decide_eq_true ⟨h1, h8⟩, Bool.true_and]
  simp only [wordOf, List.all_map, List.all_eq_true]
  intro x hx
  obtain ⟨a, b⟩ := h x hx
  show okc (ltr x) = true
  unfold okc ltr
  exact decide_eq_true (by omega)
theorem sum_one {α : Type} : ∀ ls : List α, (ls.map fun _ => 1).sum = ls.length
  | [] => rfl
  | _ :: r => by rw [List.map_cons, List.sum_cons, sum_one r, List.length_cons]; omega
theorem word_ok (r0 : Int) (ls : List Int) (h0 : 0 ≤ r0) (h7 : r0 ≤ 7) (hl : ls.length = 8) (h : ∀ x ∈ ls, 0 ≤ x ∧ x < 26) :
    ∃ z, r__law_word [.lst ((r0 :: ls).map D.int)] = .ok (.sh (.str z)) ∧ isName z = true := by
  have hcs : ∃ cs : List Int, cutD (List.map D.int (r0 :: ls)) (some 1) (some (2 + r0)) = cs.map D.int ∧ cs.length = 1 + r0.toNat ∧ ∀ x ∈ cs, 0 ≤ x ∧ x < 26 := by
    refine ⟨cutD (r0 :: ls) (some 1) (some (2 + r0)), cut_map _ _ _ _, ?_, ?_⟩
    · unfold cutD
      have e1 := HT.sIx_nat (r0 :: ls).length 0 1
      have e2 := HT.sIx_nat (r0 :: ls).length (r0 :: ls).length (2 + r0.toNat)
      rw [show ((2 + r0.toNat : Nat) : Int) = 2 + r0 by omega] at e2
      rw [show ((1 : Nat) : Int) = 1 from rfl] at e1
      rw [e1, e2, List.length_take, List.length_drop, List.length_cons, hl]
      omega
    · intro x hx
      unfold cutD at hx
      have e1 := HT.sIx_nat (r0 :: ls).length 0 1
      rw [show ((1 : Nat) : Int) = 1 from rfl] at e1
      rw [e1] at hx
      have := List.mem_of_mem_take hx
      rw [List.length_cons, hl] at this
      exact h x this
  obtain ⟨cs, hc1, hc2, hc3⟩ := hcs
  refine ⟨wordOf cs, ?_, isName_word (by omega) (by omega) hc3⟩
  have hr : runC (mName 1) mTrue (mD (mOp ixD (mD (mK (.str (PySem.Str.ofString "abcdefghijklmnopqrstuvwxyz")))) (mVarV 1))) (cs.map D.int) [some (.sh (.lst (List.map D.int (r0 :: ls)))), none] = .ok (cs.map fun n => D.str ⟨#[ltr n]⟩) := by
    refine runC_map _ _ cs fun x hx => ⟨_, rfl, rfl, ?_⟩
    obtain ⟨a, b⟩ := hc3 x hx
    simp [letters_len, letters_atI x a b]
  have hj := v_join (a := PySem.Str.ofString "") (strsD_map (fun n => (⟨#[ltr n]⟩ : Str)) cs) (by
    rw [List.map_map]
    have : ((fun z : Str => z.length) ∘ fun n => (⟨#[ltr n]⟩ : Str)) = fun _ : Int => 1 := rfl
    rw [this, sum_one, List.length_map, hc2, show (PySem.Str.ofString "").length = 0 by decide]
    omega)
  rw [join_word] at hj
  unfold r__law_word m__law_word
  have hat : atI (List.map D.int (r0 :: ls)) 0 = some (.int r0) := by rw [atI_at _ _ (by decide)]; rfl
  have hsm : cs.length ≤ 10000000 := by omega
  simp only [List.map_cons] at hc1 hr hat
  simp [hat, hc1, hr, hj, hsm]
end My

set_option Elab.async false
set_option linter.all false
set_option maxRecDepth 100000
set_option maxHeartbeats 4000000
namespace My
open PySem L2 Ly TL
def rowD (p : Str × Int) : D := .tup [.str p.1, .int p.2]
def planW (zs : List Str) (L : Str → Str × Int) : W := .dic (zs.map Sum.inr) (zs.map fun z => rowD (L z))
structure GoodP (zs : List Str) (L : Str → Str × Int) : Prop where
  nd : zs.Nodup
  nm : ∀ z ∈ zs, isName z = true
  vl : ∀ z ∈ zs, isName (L z).1 = true ∧ 0 ≤ (L z).2 ∧ (L z).2 < 10 ^ 30
def addL (L : Str → Str × Int) (z : Str) (p : Str × Int) : Str → Str × Int := fun y => if y = z then p else L y
theorem putKs_map {α β : Type} [DecidableEq α] [DecidableEq β] (f : α → β) (hf : ∀ a b, f a = f b → a = b) (zs : List α) (z : α) : putKs (zs.map f) (f z) = (putKs zs z).map f := by
  have e : f z ∈ zs.map f ↔ z ∈ zs := ⟨fun h => by
    obtain ⟨y, hy, e⟩ := List.mem_map.mp h
    rw [← hf _ _ e]; exact hy, fun h => List.mem_map.mpr ⟨z, h, rfl⟩⟩
  unfold putKs
  by_cases h : z ∈ zs
  · rw [if_pos h, if_pos (e.mpr h)]
  · rw [if_neg h, if_neg fun q => h (e.mp q), List.map_append]
    rfl
theorem zipWith_map2 {α β γ : Type} (f : α → β) (g : α → γ) (h : β → γ → γ) : ∀ zs : List α, List.zipWith h (zs.map f) (zs.map g) = zs.map fun z => h (f z) (g z)
  | [] => rfl
  | z :: zs => by rw [List.map_cons, List.map_cons, List.zipWith_cons_cons, zipWith_map2 f g h zs, List.map_cons]
theorem put_planW (zs : List Str) (L : Str → Str × Int) (z : Str) (p : Str × Int) (hl : zs.length ≤ 10000000) : putDic (.str z) (rowD p) (planW zs L) = .ok (planW (putKs zs z) (addL L z p)) := by
  have inj : ∀ a b : Str, (Sum.inr a : Key) = Sum.inr b → a = b := fun a b h => by cases h; rfl
  show (if small (zs.map Sum.inr : List Key).length = true then Res.ok (W.dic (putKs (zs.map Sum.inr) (Sum.inr z : Key)) (putXs (zs.map Sum.inr) (zs.map fun z => rowD (L z)) (Sum.inr z : Key) (rowD p))) else Res.st) = _
  rw [if_pos (a_small (by rw [List.length_map]; exact hl)), putKs_map Sum.inr inj]
  unfold planW
  congr 2
  have e : (Sum.inr z : Key) ∈ (zs.map Sum.inr : List Key) ↔ z ∈ zs := ⟨fun h => by
    obtain ⟨y, hy, e⟩ := List.mem_map.mp h
    cases e; exact hy, fun h => List.mem_map.mpr ⟨z, h, rfl⟩⟩
  unfold putXs putKs
  by_cases h : z ∈ zs
  · rw [if_pos h, if_pos (e.mpr h), zipWith_map2]
    refine List.map_congr_left fun y _ => ?_
    by_cases hy : y = z
    · subst hy; simp [addL]
    · have : ¬ (Sum.inr y : Key) = Sum.inr z := fun q => hy (inj _ _ q)
      simp [addL, hy, this]
  · rw [if_neg h, if_neg fun q => h (e.mp q), List.map_append]
    congr 1
    · refine List.map_congr_left fun y hy => ?_
      have : y ≠ z := fun q => h (q ▸ hy)
      simp [addL, this]
    · simp [addL]
theorem GoodP.put {zs : List Str} {L : Str → Str × Int} {z : Str} {p : Str × Int} (g : GoodP zs L) (hz : isName z = true) (hp : isName p.1 = true ∧ 0 ≤ p.2 ∧ p.2 < 10 ^ 30) : GoodP (putKs zs z) (addL L z p) ∧ (putKs zs z).length ≤ zs.length + 1 := by
  have mem : ∀ y ∈ putKs zs z, y = z ∨ y ∈ zs := fun y hy => by
    unfold putKs at hy
    split at hy
    · exact .inr hy
    · rcases List.mem_append.mp hy with h | h
      · exact .inr h
      · exact .inl (List.mem_singleton.mp h)
  refine ⟨⟨?_, fun y hy => ?_, fun y hy => ?_⟩, ?_⟩
  · unfold putKs
    split
    · exact g.nd
    · rename_i h
      rw [List.nodup_append]
      exact ⟨g.nd, by simp, fun a ha b hb e => h (by rw [List.mem_singleton.mp hb] at e; rw [← e]; exact ha)⟩
  · rcases mem y hy with rfl | h
    · exact hz
    · exact g.nm y h
  · unfold addL
    by_cases e : y = z
    · rw [if_pos e]; exact hp
    · rw [if_neg e]
      rcases mem y hy with h | h
      · exact absurd h e
      · exact g.vl y h
  · unfold putKs
    split
    · omega
    · simp
def sizes23 : List Int := [8, 26, 26, 26, 26, 26, 26, 26, 26, 8, 26, 26, 26, 26, 26, 26, 26, 26, 10, 10 ^ 30, 2]
theorem sizes_eq (e : En) : (mD (mOp addD (mD (mOp addD (mD (mOp addD (mD (mOp addD (mD (mLst (mCons (mD (mK (.int 8))) mNil))) (mD (mOp mulD (mD (mLst (mCons (mD (mK (.int 26))) mNil))) (mD (mK (.int 8))))))) (mD (mLst (mCons (mD (mK (.int 8))) mNil))))) (mD (mOp mulD (mD (mLst (mCons (mD (mK (.int 26))) mNil))) (mD (mK (.int 8))))))) (mD (mLst (mCons (mD (mK (.int 10))) (mCons (mD (mOpX powD (mD (mK (.int 10))) (mD (mK (.int 30))))) (mCons (mD (mK (.int 2))) mNil))))))) e = .ok (.lst (sizes23.map D.int)) := rfl
end My

set_option Elab.async false
set_option linter.all false
set_option maxRecDepth 100000
set_option maxHeartbeats 4000000
namespace My
open PySem L2 Ly TL
theorem seq_nx {a b : En → Res Fl} {env e : En} (h : a env = .ok (.nx e)) : mSeq a b env = b e := by
  unfold mSeq
  rw [h]
  rfl
theorem seq_rt {a b : En → Res Fl} {env : En} {w : W} (h : a env = .ok (.rt w)) : mSeq a b env = .ok (.rt w) := by
  unfold mSeq
  rw [h]
  rfl
def tail23 : En → Res Fl :=
    (mSeq (mAsg [1] [] 5 (mCall 1 r__law_word (mCons (mD (mOp addD (mD (mLst (mCons (mD (mOpX modD (mD (mOp ixD (mVarV 4) (mD (mK (.int 0))))) (mD (mK (.int 8))))) mNil))) (mD (mLc [7] [7] (mItems (mD (mSl (mVarV 4) (mPart (mD (mK (.int 1)))) (mPart (mD (mK (.int 9))))))) (mName 7) mTrue (mD (mOpX modD (mVarX 7) (mD (mK (.int 26))))))))) mNil) (mCons (mD (mOp addD (mD (mLst (mCons (mD (mOpX modD (mD (mOp ixD (mVarV 4) (mD (mK (.int 0))))) (mD (mK (.int 8))))) mNil))) (mD (mLc [7] [7] (mItems (mD (mSl (mVarV 4) (mPart (mD (mK (.int 1)))) (mPart (mD (mK (.int 9))))))) (mName 7) mTrue (mD (mOpX modD (mVarX 7) (mD (mK (.int 26))))))))) mNil)))
    (mSeq (mAsg [1] [] 6 (mCall 1 r__law_word (mCons (mD (mOp addD (mD (mLst (mCons (mD (mOpX modD (mD (mOp ixD (mVarV 4) (mD (mK (.int 9))))) (mD (mK (.int 8))))) mNil))) (mD (mLc [7] [7] (mItems (mD (mSl (mVarV 4) (mPart (mD (mK (.int 10)))) (mPart (mD (mK (.int 18))))))) (mName 7) mTrue (mD (mOpX modD (mVarX 7) (mD (mK (.int 26))))))))) mNil) (mCons (mD (mOp addD (mD (mLst (mCons (mD (mOpX modD (mD (mOp ixD (mVarV 4) (mD (mK (.int 9))))) (mD (mK (.int 8))))) mNil))) (mD (mLc [7] [7] (mItems (mD (mSl (mVarV 4) (mPart (mD (mK (.int 10)))) (mPart (mD (mK (.int 18))))))) (mName 7) mTrue (mD (mOpX modD (mVarX 7) (mD (mK (.int 26))))))))) mNil)))
    (mDPut [6, 5] 1 (mD (mVar 5)) (mD (mTup (mCons (mD (mVar 6)) (mCons (mD (mOp ixD (mD (mLst (mCons (mD (mOpX modD (mD (mOp ixD (mVarV 4) (mD (mK (.int 18))))) (mD (mK (.int 10))))) (mCons (mD (mOp ixD (mVarV 4) (mD (mK (.int 19))))) mNil)))) (mD (mOpX modD (mD (mOp ixD (mVarV 4) (mD (mK (.int 20))))) (mD (mK (.int 2))))))) mNil)))))))
theorem word_arg (a0 a1 a2 a3 a4 a5 a6 a7 a8 : Int) : ∃ z, r__law_word [.lst [.int (a0 % 8), .int (a1 % 26), .int (a2 % 26), .int (a3 % 26), .int (a4 % 26), .int (a5 % 26), .int (a6 % 26), .int (a7 % 26), .int (a8 % 26)]] = .ok (.sh (.str z)) ∧ isName z = true := by
  refine word_ok (a0 % 8) [a1 % 26, a2 % 26, a3 % 26, a4 % 26, a5 % 26, a6 % 26, a7 % 26, a8 % 26] (by omega) (by omega) rfl ?_
  intro x hx
  simp only [List.mem_cons, List.not_mem_nil, or_false] at hx
  omega
theorem tail_ok (c k : Int) (zs : List Str) (L : Str → Str × Int) (g : GoodP zs L) (hl : zs.length ≤ 10000000) (row : List Int) (hr : row.length = 21) (hb : ∀ x ∈ row, 0 ≤ x ∧ x < 10 ^ 30) (x2 x5 x6 x7 : Option W) :
    ∃ zs' L' env', tail23 [some (.sh (.int c)), some (planW zs L), x2, some (.sh (.int k)), some (.sh (.lst (row.map D.int))), x5, x6, x7] = .ok (.nx env') ∧
      (∃ y4 y5 y6 y7, env' = [some (.sh (.int c)), some (planW zs' L'), x2, some (.sh (.int k)), y4, y5, y6, y7]) ∧ GoodP zs' L' ∧ zs'.length ≤ zs.length + 1 := by
  match row, hr with
  | [a0, a1, a2, a3, a4, a5, a6, a7, a8, a9, a10, a11, a12, a13, a14, a15, a16, a17, a18, a19, a20], _ =>
    obtain ⟨z1, hz1, n1⟩ := word_arg a0 a1 a2 a3 a4 a5 a6 a7 a8
    obtain ⟨z2, hz2, n2⟩ := word_arg a9 a10 a11 a12 a13 a14 a15 a16 a17
    have hst : ∃ s : Int, ixD (.lst [.int (a18 % 10), .int a19]) (.int (a20 % 2)) = .ok (.sh (.int s)) ∧ 0 ≤ s ∧ s < 10 ^ 30 := by
      have h19 := hb a19 (by simp)
      rcases Int.emod_two_eq a20 with e | e
      · rw [e]; exact ⟨a18 % 10, rfl, by omega, by omega⟩
      · rw [e]; exact ⟨a19, rfl, h19.1, h19.2⟩
    obtain ⟨s, hs1, hs2⟩ := hst
    have hput := put_planW zs L z1 (z2, s) hl
    obtain ⟨g1, g2⟩ := g.put (p := (z2, s)) n1 ⟨n2, hs2⟩
    refine ⟨putKs zs z1, addL L z1 (z2, s), [some (.sh (.int c)), some (planW (putKs zs z1) (addL L z1 (z2, s))), x2, some (.sh (.int k)), some (.sh (.lst (List.map D.int [a0, a1, a2, a3, a4, a5, a6, a7, a8, a9, a10, a11, a12, a13, a14, a15, a16, a17, a18, a19, a20]))), some (.sh (.str z1)), some (.sh (.str z2)), x7], ?_, ⟨_, _, _, _, rfl⟩, g1, g2⟩
    have c1 : ∀ e5 e6 e7 : Option W, (mD (mOp addD (mD (mLst (mCons (mD (mOpX modD (mD (mOp ixD (mVarV 4) (mD (mK (.int 0))))) (mD (mK (.int 8))))) mNil))) (mD (mLc [7] [7] (mItems (mD (mSl (mVarV 4) (mPart (mD (mK (.int 1)))) (mPart (mD (mK (.int 9))))))) (mName 7) mTrue (mD (mOpX modD (mVarX 7) (mD (mK (.int 26))))))))) [some (.sh (.int c)), some (planW zs L), x2, some (.sh (.int k)), some (.sh (.lst ([a0, a1, a2, a3, a4, a5, a6, a7, a8, a9, a10, a11, a12, a13, a14, a15, a16, a17, a18, a19, a20].map D.int))), e5, e6, e7] =
      .ok (.lst [.int (a0 % 8), .int (a1 % 26), .int (a2 % 26), .int (a3 % 26), .int (a4 % 26), .int (a5 % 26), .int (a6 % 26), .int (a7 % 26), .int (a8 % 26)]) := fun e5 e6 e7 => rfl
    have c2 : ∀ e5 e6 e7 : Option W, (mD (mOp addD (mD (mLst (mCons (mD (mOpX modD (mD (mOp ixD (mVarV 4) (mD (mK (.int 9))))) (mD (mK (.int 8))))) mNil))) (mD (mLc [7] [7] (mItems (mD (mSl (mVarV 4) (mPart (mD (mK (.int 10)))) (mPart (mD (mK (.int 18))))))) (mName 7) mTrue (mD (mOpX modD (mVarX 7) (mD (mK (.int 26))))))))) [some (.sh (.int c)), some (planW zs L), x2, some (.sh (.int k)), some (.sh (.lst ([a0, a1, a2, a3, a4, a5, a6, a7, a8, a9, a10, a11, a12, a13, a14, a15, a16, a17, a18, a19, a20].map D.int))), e5, e6, e7] =
      .ok (.lst [.int (a9 % 8), .int (a10 % 26), .int (a11 % 26), .int (a12 % 26), .int (a13 % 26), .int (a14 % 26), .int (a15 % 26), .int (a16 % 26), .int (a17 % 26)]) := fun e5 e6 e7 => rfl
    have c3 : ∀ e5 e6 e7 : Option W, (mD (mLst (mCons (mD (mOpX modD (mD (mOp ixD (mVarV 4) (mD (mK (.int 18))))) (mD (mK (.int 10))))) (mCons (mD (mOp ixD (mVarV 4) (mD (mK (.int 19))))) mNil)))) [some (.sh (.int c)), some (planW zs L), x2, some (.sh (.int k)), some (.sh (.lst ([a0, a1, a2, a3, a4, a5, a6, a7, a8, a9, a10, a11, a12, a13, a14, a15, a16, a17, a18, a19, a20].map D.int))), e5, e6, e7] =
      .ok (.lst [.int (a18 % 10), .int a19]) := fun e5 e6 e7 => rfl
    have c4 : ∀ e5 e6 e7 : Option W, (mD (mOpX modD (mD (mOp ixD (mVarV 4) (mD (mK (.int 20))))) (mD (mK (.int 2))))) [some (.sh (.int c)), some (planW zs L), x2, some (.sh (.int k)), some (.sh (.lst ([a0, a1, a2, a3, a4, a5, a6, a7, a8, a9, a10, a11, a12, a13, a14, a15, a16, a17, a18, a19, a20].map D.int))), e5, e6, e7] =
      .ok (.int (a20 % 2)) := fun e5 e6 e7 => rfl
    generalize List.map D.int [a0, a1, a2, a3, a4, a5, a6, a7, a8, a9, a10, a11, a12, a13, a14, a15, a16, a17, a18, a19, a20] = rr at c1 c2 c3 c4 ⊢
    have hp2 : putDic (.str z1) (.tup [.str z2, .int s]) (planW zs L) = .ok (planW (putKs zs z1) (addL L z1 (z2, s))) := hput
    unfold tail23
    rw [seq_nx (e := [some (.sh (.int c)), some (planW zs L), x2, some (.sh (.int k)), some (.sh (.lst rr)), some (.sh (.str z1)), x6, x7]) (by simp [↓c1, hz1])]
    rw [seq_nx (e := [some (.sh (.int c)), some (planW zs L), x2, some (.sh (.int k)), some (.sh (.lst rr)), some (.sh (.str z1)), some (.sh (.str z2)), x7]) (by simp [↓c2, hz2])]
    simp [↓c3, ↓c4, hs1, hp2]
end My

set_option Elab.async false
set_option linter.all false
set_option maxRecDepth 100000
set_option maxHeartbeats 4000000
namespace My
open PySem L2 Ly TL
theorem sizes23_get : ∀ i : Nat, i < 21 → ∃ s, sizes23[i]? = some s ∧ s ≤ 10 ^ 30 := by
  intro i hi
  have : ∀ k : Fin 21, ∃ s, sizes23[k.val]? = some s ∧ s ≤ 10 ^ 30 := by decide +kernel
  exact this ⟨i, hi⟩
theorem rot_ok (ds : List Int) (h : ds.length = 21) (hb : ∀ x ∈ ds, 0 ≤ x ∧ x < 10 ^ 30) (j : Int) (h0 : 0 ≤ j) (h8 : j < 8) :
    ∃ row : List Int, row.length = 21 ∧ (∀ x ∈ row, 0 ≤ x ∧ x < 10 ^ 30) ∧ cutD (ds.map D.int) (some j) none ++ cutD (ds.map D.int) none (some j) = row.map D.int := by
  refine ⟨cutD ds (some j) none ++ cutD ds none (some j), ?_, ?_, by rw [cut_map, cut_map, List.map_append]⟩
  · have e := HT.sIx_nat ds.length 0 j.toNat
    have e2 := HT.sIx_nat ds.length ds.length j.toNat
    rw [show ((j.toNat : Nat) : Int) = j by omega] at e e2
    unfold cutD
    rw [e, e2, HT.sIx_none, HT.sIx_none, List.length_append, List.length_take, List.length_drop, List.length_take, List.length_drop, h]
    omega
  · intro x hx
    rcases List.mem_append.mp hx with h | h
    · exact hb x (List.mem_of_mem_drop (List.mem_of_mem_take h))
    · exact hb x (List.mem_of_mem_drop (List.mem_of_mem_take h))
theorem body_ok (c : Int) (k : Nat) (hk : k ≤ 20) (zs : List Str) (L : Str → Str × Int) (g : GoodP zs L) (hl : zs.length ≤ 10000000) (x2 x4 x5 x6 x7 : Option W) :
    ∃ zs' L' env', m__law_plan_b1 [some (.sh (.int c)), some (planW zs L), x2, some (.sh (.int k)), x4, x5, x6, x7] = .ok (.nx env') ∧
      (∃ y4 y5 y6 y7, env' = [some (.sh (.int c)), some (planW zs' L'), x2, some (.sh (.int k)), y4, y5, y6, y7]) ∧ GoodP zs' L' ∧ zs'.length ≤ zs.length + 1 := by
  obtain ⟨ds, hds, hlen, hb⟩ := digits_ok (c / 21) (20 * k) sizes23 (by decide +kernel) (by omega) (by decide)
  have hlen' : ds.length = 21 := hlen
  have hb' : ∀ x ∈ ds, 0 ≤ x ∧ x < 10 ^ 30 := fun x hx => by
    obtain ⟨i, hi, e⟩ := List.getElem_of_mem hx
    obtain ⟨s, h1, h2⟩ := sizes23_get i (by omega)
    have := hb i x s (by rw [List.getElem?_eq_getElem hi, e]) h1
    omega
  unfold m__law_plan_b1
  have p1 : ((0 : Int) < 21 ∧ (21 : Int) < big60) := by decide
  rw [seq_nx (e := [some (.sh (.int c)), some (planW zs L), x2, some (.sh (.int k)), some (.sh (.lst (ds.map D.int))), x5, x6, x7]) (by simp [↓sizes_eq, hds, p1.2])]
  by_cases hc : c % 2 = 0
  · obtain ⟨row, r1, r2, r3⟩ := rot_ok ds hlen' hb' ((k : Int) % 8) (by omega) (by omega)
    have hsz : (cutD (ds.map D.int) (some ((k : Int) % 8)) none).length + (cutD (ds.map D.int) none (some ((k : Int) % 8))).length ≤ 10000000 := by
      rw [← List.length_append, r3, List.length_map]; omega
    rw [seq_nx (e := [some (.sh (.int c)), some (planW zs L), x2, some (.sh (.int k)), some (.sh (.lst (row.map D.int))), x5, x6, x7]) (by simp [hc, hsz, r3])]
    exact tail_ok c k zs L g hl row r1 r2 x2 x5 x6 x7
  · rw [seq_nx (e := [some (.sh (.int c)), some (planW zs L), x2, some (.sh (.int k)), some (.sh (.lst (ds.map D.int))), x5, x6, x7]) (by simp [hc])]
    exact tail_ok c k zs L g hl ds hlen' hb' x2 x5 x6 x7
theorem plan_ok (c : Int) : ∃ zs L, r__law_plan [.int c] = .ok (planW zs L) ∧ GoodP zs L ∧ zs.length ≤ 20 := by
  unfold r__law_plan m__law_plan
  have hbig : big62 (c % 21) = true := by
    unfold big62
    rw [decide_eq_true (by omega), decide_eq_true (by omega)]
    rfl
  simp only [a_runD]
  have hs : slots 8 [D.int c] = [some (.sh (.int c)), none, none, none, none, none, none, none] := rfl
  rw [hs]
  rw [seq_nx (e := [some (.sh (.int c)), some (planW [] fun _ => (Str.empty, 0)), none, none, none, none, none, none]) rfl]
  rw [seq_nx (e := [some (.sh (.int c)), some (planW [] fun _ => (Str.empty, 0)), some (.sh (.int (c % 21))), none, none, none, none, none]) rfl]
  have key : ∃ env', runL (mName 3) m__law_plan_b1 (rangeD 0 (c % 21).toNat) [some (.sh (.int c)), some (planW [] fun _ => (Str.empty, 0)), some (.sh (.int (c % 21))), none, none, none, none, none] = .ok (.nx env') ∧
      ∃ zs L y3 y4 y5 y6 y7, env' = [some (.sh (.int c)), some (planW zs L), some (.sh (.int (c % 21))), y3, y4, y5, y6, y7] ∧ GoodP zs L ∧ zs.length ≤ 0 + (rangeD 0 (c % 21).toNat).length := by
    refine runL_goes (fun i env => ∃ zs L y3 y4 y5 y6 y7, env = [some (.sh (.int c)), some (planW zs L), some (.sh (.int (c % 21))), y3, y4, y5, y6, y7] ∧ GoodP zs L ∧ zs.length ≤ i) _ 0 _ ⟨[], _, _, _, _, _, _, rfl, ⟨List.nodup_nil, by simp, by simp⟩, by simp⟩ ?_
    rintro i d env hd ⟨zs, L, y3, y4, y5, y6, y7, rfl, g, hl⟩
    unfold rangeD at hd
    rw [List.getElem?_map] at hd
    obtain ⟨j, hj, rfl⟩ := Option.map_eq_some_iff.mp hd
    obtain ⟨h1, h2⟩ := List.getElem?_eq_some_iff.mp hj
    rw [List.length_range] at h1
    rw [List.getElem_range] at h2
    subst h2
    obtain ⟨zs', L', env', e1, ⟨z4, z5, z6, z7, rfl⟩, g', l'⟩ := body_ok c i (by omega) zs L g (by omega) (some (.sh (.int (c % 21)))) y4 y5 y6 y7
    refine ⟨_, [some (.sh (.int c)), some (planW zs' L'), some (.sh (.int (c % 21))), some (.sh (.int i)), z4, z5, z6, z7], rfl, .inl ?_, zs', L', _, _, _, _, _, rfl, g', by omega⟩
    rw [Int.zero_add]
    exact e1
  obtain ⟨env', hrun, zs, L, y3, y4, y5, y6, y7, rfl, g, hl⟩ := key
  refine ⟨zs, L, ?_, g, by unfold rangeD at hl; rw [List.length_map, List.length_range] at hl; omega⟩
  rw [seq_nx (e := [some (.sh (.int c)), some (planW zs L), some (.sh (.int (c % 21))), y3, y4, y5, y6, y7]) (by simp [rng1D, hbig, hrun])]
  rfl
end My

set_option Elab.async false
set_option linter.all false
set_option maxRecDepth 100000
set_option maxHeartbeats 4000000
namespace My
open PySem L2 Ly TL
def num (i : Int) : Str := PySem.Str.ofString (toString i)
theorem tl_numI {i : Int} (h : 0 ≤ i) : tl (num i) = numL i.toNat := by
  have := tl_num i.toNat
  rw [show ((i.toNat : Nat) : Int) = i by omega] at this
  exact this
theorem numL_head : ∀ n : Nat, 1 ≤ n → ∃ c r, numL n = c :: r ∧ c ≠ 48 := by
  intro n
  induction n using Nat.strongRecOn with
  | _ n ih =>
    intro h
    by_cases h10 : n < 10
    · exact ⟨48 + n, [], numL_lt h10, by omega⟩
    · obtain ⟨c, r, e, hc⟩ := ih (n / 10) (by omega) (by omega)
      exact ⟨c, r ++ [48 + n % 10], by rw [numL_step (by omega), e]; rfl, hc⟩
theorem figs_cps : (PySem.Str.ofString "0123456789").cps.toList = (List.range 10).map (· + 48) := by decide +kernel
theorem mem_figs (c : Nat) (h : 48 ≤ c ∧ c ≤ 57) : c ∈ (PySem.Str.ofString "0123456789").cps.toList := by
  rw [figs_cps, List.mem_map]
  exact ⟨c - 48, by rw [List.mem_range]; omega, by omega⟩
theorem zero_eq : PySem.Str.ofString "0" = ⟨#[48]⟩ := by decide +kernel
theorem number_loop (w : Str) : ∀ (cs : List Nat) (x1 : Option W), (∀ c ∈ cs, 48 ≤ c ∧ c ≤ 57) → ∃ x1', runL (mName 1) m_number_of_b1 (cs.map sign) [some (.sh (.str w)), x1] = .ok (.nx [some (.sh (.str w)), x1'])
  | [], x1, _ => ⟨x1, rfl⟩
  | c :: cs, x1, h => by
    obtain ⟨x', ih⟩ := number_loop w cs (some (.sh (sign c))) fun c hc => h c (List.mem_cons_of_mem _ hc)
    refine ⟨x', ?_⟩
    have hm := mem_figs c (h c List.mem_cons_self)
    rw [List.map_cons, a_runLc, ← ih]
    have e : m_number_of_b1 [some (.sh (.str w)), some (.sh (sign c))] = .ok (.nx [some (.sh (.str w)), some (.sh (sign c))]) := by
      unfold m_number_of_b1
      simp [v_notIn_sign] at hm ⊢
      simp [hm]
    show (Res.bind (m_number_of_b1 [some (.sh (.str w)), some (.sh (sign c))]) _) = _
    rw [e]
    rfl
theorem number_ok (i : Int) (h0 : 0 ≤ i) (h1 : i < 10 ^ 30) : r_number_of [.str (num i)] = .ok (.sh (.int i)) := by
  have et := tl_numI h0
  have hlen : (numL i.toNat).length ≤ 30 := numL_len (by decide) (by omega)
  have hne := numL_ne i.toNat
  have hl : (num i).length ≤ 30 := by rw [len_tl, et]; exact hlen
  have hd := numL_digits i.toNat
  have hint : PySem.intText? (num i) = some i := by
    have := int_num (n := i.toNat) (by omega)
    rw [show ((i.toNat : Nat) : Int) = i by omega] at this
    exact this
  unfold r_number_of m_number_of
  simp only [a_runD]
  have hs : slots 2 [D.str (num i)] = [some (.sh (.str (num i))), none] := rfl
  rw [hs]
  have n1 : ¬ num i = PySem.Str.ofString "" := fun e => by
    rw [e] at et
    exact hne et.symm
  have n2 : (mAnd (mTest (mD (mOpX gtD (mD (mCal lenD (mCons (mVarV 0) mNil))) (mD (mK (.int 1)))))) (mTest (mD (mOpX eqE (mD (mOp ixD (mVarV 0) (mD (mK (.int 0))))) (mD (mK (.str "0"))))))) [some (.sh (.str (num i))), none] = .ok false := by
    have hl7 : (num i).length ≤ 10000000 := by omega
    by_cases hz : 1 ≤ i.toNat
    · obtain ⟨c, r, e, hc⟩ := numL_head i.toNat hz
      have hat : atI (num i).cps.toList 0 = some c := by
        rw [atI_at _ _ (by decide), show (num i).cps.toList = c :: r from et.trans e]
        rfl
      have hc' : ¬ (⟨#[c]⟩ : Str) = ⟨#[48]⟩ := fun q => hc (by cases q; rfl)
      simp [hl7, hat, zero_eq, hc']
    · have e1 : (num i).length = 1 := by
        rw [len_tl, et, show i.toNat = 0 by omega]
        decide
      simp [hl7, e1]
  rw [seq_nx (e := [some (.sh (.str (num i))), none]) (by simp [↓n2, n1])]
  obtain ⟨x', hx⟩ := number_loop (num i) (num i).cps.toList none (by
    intro c hc
    rw [show (num i).cps.toList = numL i.toNat from et] at hc
    exact hd c hc)
  rw [seq_nx (e := [some (.sh (.str (num i))), x']) (by simp [hx])]
  have hl2 : (num i).length ≤ 640 := by omega
  simp [hint, hl2]
end My

set_option Elab.async false
set_option linter.all false
set_option maxRecDepth 100000
set_option maxHeartbeats 4000000
namespace My
open PySem L2 Ly TL
def sp : Str := PySem.Str.ofString " "
def semi : Str := PySem.Str.ofString "; "
theorem tl_sp : tl sp = [32] := by decide +kernel
theorem tl_semi : tl semi = [59, 32] := by decide +kernel
def rowT (z : Str) (p : Str × Int) : Str := Txt.join sp [z, p.1, num p.2]
def dueT (ws : List Str) (L : Str → Str × Int) : Str := Txt.join semi (ws.map fun z => rowT z (L z))
theorem rowT_eq (z : Str) (p : Str × Int) : rowT z p = z ++ (sp ++ (p.1 ++ (sp ++ (num p.2 ++ Str.empty)))) := by
  unfold rowT
  rw [join_eq, str_nil]
  show z ++ sp ++ (p.1 ++ sp ++ num p.2) = _
  rw [str_assoc, str_assoc]
theorem tl_row (z : Str) (p : Str × Int) : tl (rowT z p) = tl z ++ ([32] ++ (tl p.1 ++ ([32] ++ tl (num p.2)))) := by
  rw [rowT_eq, str_nil, tl_append, tl_append, tl_append, tl_append, tl_sp]
theorem name_cps {z : Str} (h : isName z = true) : 1 ≤ z.length ∧ z.length ≤ 8 ∧ ∀ c ∈ tl z, 97 ≤ c ∧ c ≤ 122 := by
  unfold isName at h
  rw [Bool.and_eq_true] at h
  have h1 := of_decide_eq_true h.1
  refine ⟨h1.1, h1.2, fun c hc => ?_⟩
  have := List.all_eq_true.mp h.2 c hc
  exact of_decide_eq_true this
def GoodV (p : Str × Int) : Prop := isName p.1 = true ∧ 0 ≤ p.2 ∧ p.2 < 10 ^ 30
theorem num_len {i : Int} (h0 : 0 ≤ i) (h1 : i < 10 ^ 30) : (num i).length ≤ 30 := by
  rw [len_tl, tl_numI h0]
  exact numL_len (by decide) (by omega)
theorem row_len {z : Str} {p : Str × Int} (hz : isName z = true) (hp : GoodV p) : 1 ≤ (rowT z p).length ∧ (rowT z p).length ≤ 48 := by
  have a := name_cps hz
  have b := name_cps hp.1
  have c := num_len hp.2.1 hp.2.2
  rw [rowT_eq, str_nil, str_len, str_len, str_len, str_len, show sp.length = 1 by decide]
  omega
theorem row_free {z : Str} {p : Str × Int} (hz : isName z = true) (hp : GoodV p) : 59 ∉ tl (rowT z p) := by
  rw [tl_row]
  intro h
  simp only [List.mem_append] at h
  rcases h with h | h | h | h | h
  · have := (name_cps hz).2.2 _ h; omega
  · simp at h
  · have := (name_cps hp.1).2.2 _ h; omega
  · simp at h
  · rw [tl_numI hp.2.1] at h
    exact numL_free (by omega) h
theorem sp_all : sp.cps.all (· < 256) = true := by decide +kernel
theorem semi_all : semi.cps.all (· < 256) = true := by decide +kernel
theorem split_row {z : Str} {p : Str × Int} (hz : isName z = true) (hp : GoodV p) : Txt.split (rowT z p) sp = [z, p.1, num p.2] := by
  refine split_join (s := 32) (S := []) tl_sp sp_all (by simp) fun x hx h => ?_
  simp only [List.mem_cons, List.not_mem_nil, or_false] at hx
  rcases hx with rfl | rfl | rfl
  · have := (name_cps hz).2.2 _ h; omega
  · have := (name_cps hp.1).2.2 _ h; omega
  · rw [tl_numI hp.2.1] at h
    exact numL_free (by omega) h
theorem split_due {ws : List Str} {L : Str → Str × Int} (hne : ws ≠ []) (hz : ∀ z ∈ ws, isName z = true ∧ GoodV (L z)) : Txt.split (dueT ws L) semi = ws.map fun z => rowT z (L z) := by
  refine split_join (s := 59) (S := [32]) tl_semi semi_all (by simpa using hne) fun x hx h => ?_
  obtain ⟨z, hz', rfl⟩ := List.mem_map.mp hx
  exact row_free (hz z hz').1 (hz z hz').2 h
theorem sum_le : ∀ (ws : List Str) (f : Str → Nat) (k : Nat), (∀ z ∈ ws, f z ≤ k) → (ws.map f).sum ≤ ws.length * k
  | [], _, _, _ => by simp
  | z :: r, f, k, h => by
    have h1 := h z List.mem_cons_self
    have h2 := sum_le r f k fun y hy => h y (List.mem_cons_of_mem _ hy)
    rw [List.map_cons, List.sum_cons, List.length_cons, Nat.succ_mul]
    omega
theorem due_sum {ws : List Str} {L : Str → Str × Int} (hl : ws.length ≤ 20) (hz : ∀ z ∈ ws, isName z = true ∧ GoodV (L z)) : (((ws.map fun z => rowT z (L z)).map fun z => z.length).sum + (ws.map fun z => rowT z (L z)).length * semi.length) ≤ 1000 := by
  have h := sum_le ws (fun z => (rowT z (L z)).length) 48 fun z hz' => (row_len (hz z hz').1 (hz z hz').2).2
  rw [List.map_map, List.length_map, show semi.length = 2 by decide]
  have e : ((fun z : Str => z.length) ∘ fun z => rowT z (L z)) = fun z => (rowT z (L z)).length := rfl
  rw [e]
  have : ws.length * 48 ≤ 20 * 48 := Nat.mul_le_mul_right _ hl
  omega
theorem due_len {ws : List Str} {L : Str → Str × Int} (hl : ws.length ≤ 20) (hz : ∀ z ∈ ws, isName z = true ∧ GoodV (L z)) : (dueT ws L).length ≤ 1000 := by
  unfold dueT
  rw [join_eq]
  exact Nat.le_trans (StrLaws.join_length_le _ _) (due_sum hl hz)
theorem due_ne {ws : List Str} {L : Str → Str × Int} (hne : ws ≠ []) (hz : ∀ z ∈ ws, isName z = true ∧ GoodV (L z)) : dueT ws L ≠ PySem.Str.ofString "" := by
  intro e
  match ws, hne with
  | z :: r, _ =>
    have h := (row_len (hz z List.mem_cons_self).1 (hz z List.mem_cons_self).2).1
    have : tl (dueT (z :: r) L) = [] := by rw [e]; rfl
    unfold dueT at this
    rw [join_eq, tl_join] at this
    have h2 : tl (rowT z (L z)) = [] := by
      cases r with
      | nil => exact this
      | cons y r => exact (List.append_eq_nil_iff.mp this).1
    rw [len_tl, h2] at h
    simp at h
/-! the join in the mirror -/
theorem join_row (z : Str) (p : Str × Int) (hz : isName z = true) (hp : GoodV p) : joinD sp (.lst [.str z, .str p.1, .str (num p.2)]) = .ok (.sh (.str (rowT z p))) := by
  have a := name_cps hz
  have b := name_cps hp.1
  have c := num_len hp.2.1 hp.2.2
  refine v_join (ys := [z, p.1, num p.2]) rfl ?_
  simp only [List.map_cons, List.map_nil, List.sum_cons, List.sum_nil, List.length_cons, List.length_nil, show sp.length = 1 by decide]
  omega
theorem join_due {ws : List Str} {L : Str → Str × Int} (hl : ws.length ≤ 20) (hz : ∀ z ∈ ws, isName z = true ∧ GoodV (L z)) : joinD semi (.lst (ws.map fun z => D.str (rowT z (L z)))) = .ok (.sh (.str (dueT ws L))) := by
  refine v_join (strsD_map (fun z => rowT z (L z)) ws) ?_
  have := due_sum hl hz
  omega
/-! lookups -/
theorem dlook_map (g : Str → D) (z : Str) : ∀ zs : List Str, z ∈ zs → dlook (zs.map Sum.inr : List Key) (zs.map g) (Sum.inr z) = some (g z)
  | y :: r, h => by
    unfold dlook
    rw [List.map_cons, List.map_cons, List.zip_cons_cons, List.find?_cons]
    by_cases e : y = z
    · subst e; simp
    · have e' : ¬ (Sum.inr y : Key) = Sum.inr z := fun q => e (by cases q; rfl)
      simp only [e', decide_false]
      rcases List.mem_cons.mp h with q | q
      · exact absurd q.symm e
      · exact dlook_map g z r q
theorem keyTexts_map : ∀ zs : List Str, keyTexts (zs.map Sum.inr) = some zs
  | [] => rfl
  | z :: r => by
    show (keyTexts (r.map Sum.inr)).map _ = _
    rw [keyTexts_map r]
    rfl
theorem ix_plan (zs : List Str) (L : Str → Str × Int) (z : Str) (h : z ∈ zs) : ixD (planW zs L).toD (.str z) = .ok (.sh (rowD (L z))) := by
  show (match dlook (zs.map Sum.inr : List Key) (zs.map fun z => rowD (L z)) (Sum.inr z) with
    | some d => Res.ok (W.sh d)
    | none => Res.st) = _
  rw [dlook_map (fun z => rowD (L z)) z zs h]
theorem sort_plan (zs : List Str) (L : Str → Str × Int) (h : zs.length ≤ 20) : sortD [(planW zs L).toD] = .ok (.lst ((sortS zs).map D.str)) := by
  show (match keyTexts (zs.map Sum.inr) with
    | some zs => if zs.length < 64 then Res.ok (W.lst ((sortS zs).map D.str)) else Res.st
    | none => Res.st) = _
  rw [keyTexts_map]
  show (if zs.length < 64 then _ else _) = _
  rw [if_pos (by omega)]
theorem sort_mem {zs : List Str} {z : Str} : z ∈ sortS zs ↔ z ∈ zs := (List.mergeSort_perm zs leS).mem_iff
theorem sort_len (zs : List Str) : (sortS zs).length = zs.length := (List.mergeSort_perm zs leS).length_eq
theorem sort_nd {zs : List Str} (h : zs.Nodup) : (sortS zs).Nodup := (List.mergeSort_perm zs leS).nodup_iff.mpr h
theorem sort_rev (zs : List Str) : sortS zs.reverse = sortS zs :=
  List.Perm.eq_of_pairwise (le := fun a b => leS a b = true) (fun a b _ _ h h' => leS_anti h h') (sortS_pw _) (sortS_pw _) (((List.mergeSort_perm zs.reverse leS).trans (List.reverse_perm zs)).trans (List.mergeSort_perm zs leS).symm)
/-! dicts alike -/
theorem row_shp {p : Str × Int} (h : isName p.1 = true) : shp (rowD p) = true := by
  have a := name_cps h
  have hs : PyData.strOk p.1 = true := by
    unfold PyData.strOk
    rw [Array.all_eq_true']
    intro c hc
    have := a.2.2 c (Array.mem_toList_iff.mpr hc)
    exact decide_eq_true (by omega)
  show SeqAt.shaped (.tuple [.str p.1, .int p.2]) = true
  simp [SeqAt.shaped, PyData.canLay0, PyData.canLayAll0, PyData.depth, PyData.depthAll, hs]
theorem row_eqv (p : Str × Int) : PyData.eqv (toP (rowD p)) (toP (rowD p)) = true := by
  show PyData.eqv (.tuple [.str p.1, .int p.2]) (.tuple [.str p.1, .int p.2]) = true
  simp [PyData.eqv, PyData.eqvAll]
theorem hits_plan (as zs : List Str) (L : Str → Str × Int) (h : ∀ a ∈ as, a ∈ zs) : dicHits (as.map Sum.inr) (as.map fun z => rowD (L z)) (zs.map Sum.inr) (zs.map fun z => rowD (L z)) = true := by
  induction as with
  | nil => rfl
  | cons a as ih =>
    show (match dlook (zs.map Sum.inr : List Key) (zs.map fun z => rowD (L z)) (Sum.inr a) with
      | some y => PyData.eqv (toP (rowD (L a))) (toP y) && dicHits (as.map Sum.inr) (as.map fun z => rowD (L z)) (zs.map Sum.inr) (zs.map fun z => rowD (L z))
      | none => false) = true
    rw [dlook_map (fun z => rowD (L z)) a zs (h a List.mem_cons_self)]
    simp only [row_eqv, Bool.true_and]
    exact ih fun b hb => h b (List.mem_cons_of_mem _ hb)
theorem ne_plan (as zs : List Str) (L : Str → Str × Int) (h : ∀ a ∈ as, a ∈ zs) (hl : as.length = zs.length) (hv : ∀ z ∈ zs, isName (L z).1 = true) : neE (planW as L).toD (planW zs L).toD = .ok (.bl false) := by
  show (if (as.map fun z => rowD (L z)).all shp && (zs.map fun z => rowD (L z)).all shp then Res.ok (D.bl (!dicEq (as.map Sum.inr) (as.map fun z => rowD (L z)) (zs.map Sum.inr) (zs.map fun z => rowD (L z)))) else Res.st) = _
  have s : ∀ l : List Str, (∀ a ∈ l, a ∈ zs) → (l.map fun z => rowD (L z)).all shp = true := fun l hl => by
    rw [List.all_map, List.all_eq_true]
    intro x hx
    exact row_shp (hv x (hl x hx))
  rw [s as h, s zs fun a h => h]
  unfold dicEq
  rw [hits_plan as zs L h, List.length_map, List.length_map, hl]
  simp
end My

set_option Elab.async false
set_option linter.all false
set_option maxRecDepth 100000
set_option maxHeartbeats 4000000
namespace My
open PySem L2 Ly TL
theorem log_ok {i : Int} (h0 : 0 ≤ i) (h1 : i < 10 ^ 30) : i.natAbs.log2 < 1920 := PySem.Flt.log2_lt_of (by decide) (by
  have : i.natAbs < 10 ^ 30 := by omega
  exact Nat.lt_trans this (by decide))
theorem fmt_num {i : Int} (h0 : 0 ≤ i) (h1 : i < 10 ^ 30) : fmtD (.int i) = .ok (.str (num i)) := by
  show (if i.natAbs.log2 < 1920 then Res.ok (D.str (num i)) else Res.st) = _
  rw [if_pos (log_ok h0 h1)]
theorem str_num {i : Int} (h0 : 0 ≤ i) (h1 : i < 10 ^ 30) : strD [.int i] = .ok (.sh (.str (num i))) := by
  show (if i.natAbs.log2 < 1920 then Res.ok (W.sh (D.str (num i))) else Res.st) = _
  rw [if_pos (log_ok h0 h1)]
theorem ix_row0 (p : Str × Int) : ixD (rowD p) (.int 0) = .ok (.sh (.str p.1)) := rfl
theorem ix_row1 (p : Str × Int) : ixD (rowD p) (.int 1) = .ok (.sh (.int p.2)) := rfl
theorem items_lst (f : Str → D) (ws : List Str) : itemsD (.lst (ws.map f)) = .ok (ws.map f) := rfl
theorem shown_ok (as : List Str) (L : Str → Str × Int) (hl : as.length ≤ 20) (hz : ∀ z ∈ as, isName z = true ∧ GoodV (L z)) : r_shown_plan [(planW as L).toD] = .ok (.sh (.str (dueT (sortS as) L))) := by
  unfold r_shown_plan m_shown_plan
  have hs := sort_plan as L hl
  have hix := ix_plan as L
  have hz' : ∀ z ∈ sortS as, isName z = true ∧ GoodV (L z) := fun z h => hz z (sort_mem.mp h)
  have hj := join_due (ws := sortS as) (L := L) (by rw [sort_len]; exact hl) hz'
  generalize (planW as L).toD = pl at hs hix ⊢
  have hr : runC (mName 1) mTrue (mD (mJoin (mJCons (mD (mFmt (mVarX 1))) (mJCons (mD (mK (.str " "))) (mJCons (mD (mFmt (mD (mOp ixD (mD (mOp ixD (mVarV 0) (mVarV 1))) (mD (mK (.int 0))))))) (mJCons (mD (mK (.str " "))) (mJCons (mD (mFmt (mD (mOp ixD (mD (mOp ixD (mVarV 0) (mVarV 1))) (mD (mK (.int 1))))))) mJNil)))))))
      ((sortS as).map D.str) [some (.sh pl), none] = .ok ((sortS as).map fun z => D.str (rowT z (L z))) := by
    refine runC_map D.str (fun z => D.str (rowT z (L z))) _ fun z hzm => ⟨_, rfl, rfl, ?_⟩
    obtain ⟨n1, v1⟩ := hz' z hzm
    have h1 := hix z (sort_mem.mp hzm)
    have a := name_cps n1
    have b := name_cps v1.1
    have c := row_len n1 v1
    have l1 : z.length ≤ 10000000 := by omega
    have l2 : (L z).1.length ≤ 10000000 := by omega
    have l3 : (rowT z (L z)).length ≤ 10000000 := by omega
    have hn := fmt_num v1.2.1 v1.2.2
    have hrow : z ++ (PySem.Str.ofString " " ++ ((L z).1 ++ (PySem.Str.ofString " " ++ (num (L z).2 ++ Str.empty)))) = rowT z (L z) := (rowT_eq z (L z)).symm
    simp [h1, ix_row0, ix_row1, hn, l1, l2, -v_fmti]
    rw [hrow]
    simp [l3]
  have hlen : (sortS as).length ≤ 10000000 := by rw [sort_len]; omega
  simp [hs, hr, hlen]
  rw [show joinD (PySem.Str.ofString "; ") (D.lst (List.map (fun z => D.str (rowT z (L z))) (sortS as))) = _ from hj]
  rfl
end My

set_option Elab.async false
set_option linter.all false
set_option maxRecDepth 100000
set_option maxHeartbeats 4000000
namespace My
open PySem L2 Ly TL
theorem lt_of_le {a b : Str} (h : leS a b = true) (hne : a ≠ b) : strLt a b = true := by
  cases e : strLt a b with
  | true => rfl
  | false => exact absurd (leS_anti h (by unfold leS; rw [e]; rfl)) hne
theorem lt_nil {z : Str} (h : isName z = true) : strLt (PySem.Str.ofString "") z = true := by
  have a := name_cps h
  unfold strLt
  have : tl z ≠ [] := fun e => by
    have := a.1
    rw [len_tl, e] at this
    simp at this
  show decide (([] : List Nat) < tl z) = true
  match tl z, this with
  | c :: r, _ => exact decide_eq_true (List.nil_lt_cons c r)
/-- what stands ahead of the i-th -/
def ahead (ws : List Str) (i : Nat) : Str := if i = 0 then PySem.Str.ofString "" else ws.getD (i - 1) Str.empty
theorem ahead_lt {ws : List Str} (hs : ws.Pairwise fun a b => leS a b = true) (hn : ws.Nodup) (hz : ∀ z ∈ ws, isName z = true) {i : Nat} {z : Str} (h : ws[i]? = some z) : strLt (ahead ws i) z = true := by
  unfold ahead
  split
  · exact lt_nil (hz z (List.mem_of_getElem? h))
  · rename_i h0
    obtain ⟨hi, e⟩ := List.getElem?_eq_some_iff.mp h
    have hi' : i - 1 < ws.length := by omega
    rw [List.getD_eq_getElem?_getD, List.getElem?_eq_getElem hi', Option.getD_some, ← e]
    exact lt_of_le (List.pairwise_iff_getElem.mp hs (i - 1) i hi' hi (by omega)) (List.pairwise_iff_getElem.mp hn (i - 1) i hi' hi (by omega))
theorem put_take {ws : List Str} (hn : ws.Nodup) {i : Nat} {z : Str} (h : ws[i]? = some z) : putKs (ws.take i) z = ws.take (i + 1) := by
  obtain ⟨hi, e⟩ := List.getElem?_eq_some_iff.mp h
  have : z ∉ ws.take i := fun q => by
    obtain ⟨j, hj, e2⟩ := List.getElem_of_mem q
    rw [List.getElem_take] at e2
    rw [List.length_take] at hj
    exact List.pairwise_iff_getElem.mp hn j i (by omega) hi (by omega) (e2.trans e.symm)
  unfold putKs
  rw [if_neg this, List.take_succ, h]
  rfl
theorem addL_same (L : Str → Str × Int) (z : Str) : addL L z (L z) = L := by
  funext y
  unfold addL
  split
  · rename_i e; rw [e]
  · rfl
theorem read_row (t : Str) (zs : List Str) (L : Str → Str × Int) (pr z : Str) (x4 : Option W) (hl : zs.length ≤ 10000000) (hz : isName z = true) (hp : GoodV (L z)) (hlt : strLt pr z = true) :
    ∃ y4, m_read_plan_b1 [some (.sh (.str t)), some (planW zs L), some (.sh (.str pr)), some (.sh (.str (rowT z (L z)))), x4] = .ok (.nx [some (.sh (.str t)), some (planW (putKs zs z) L), some (.sh (.str z)), some (.sh (.str (rowT z (L z)))), y4]) := by
  have a := name_cps hz
  have b := name_cps hp.1
  have hrl := row_len hz hp
  have hn1 := is_name_str z (by omega)
  have hn2 := is_name_str (L z).1 (by omega)
  rw [hz] at hn1
  rw [hp.1] at hn2
  have hsp : splitD (rowT z (L z)) (.str (PySem.Str.ofString " ")) = .ok (.lst [.str z, .str (L z).1, .str (num (L z).2)]) := by
    show (if ((PySem.Str.ofString " ").length == 0) = false ∧ small (rowT z (L z)).length = true then Res.ok (W.lst ((Txt.split (rowT z (L z)) sp).map D.str)) else Res.st) = _
    rw [if_pos ⟨by decide, a_small (by omega)⟩, split_row hz hp]
    rfl
  have i0 : ∀ x y w : D, ixD (.lst [x, y, w]) (.int 0) = .ok (.sh x) := fun _ _ _ => rfl
  have i1 : ∀ x y w : D, ixD (.lst [x, y, w]) (.int 1) = .ok (.sh y) := fun _ _ _ => rfl
  have i2 : ∀ x y w : D, ixD (.lst [x, y, w]) (.int 2) = .ok (.sh w) := fun _ _ _ => rfl
  have hnum := number_ok (L z).2 hp.2.1 hp.2.2
  have hput := put_planW zs L z (L z) hl
  rw [addL_same] at hput
  have hput' : putDic (.str z) (.tup [.str (L z).1, .int (L z).2]) (planW zs L) = .ok (planW (putKs zs z) L) := hput
  refine ⟨some (.sh (.lst [.str z, .str (L z).1, .str (num (L z).2)])), ?_⟩
  unfold m_read_plan_b1
  rw [seq_nx (e := [some (.sh (.str t)), some (planW zs L), some (.sh (.str pr)), some (.sh (.str (rowT z (L z)))), some (.sh (.lst [.str z, .str (L z).1, .str (num (L z).2)]))]) (by simp [hsp])]
  rw [seq_nx (e := [some (.sh (.str t)), some (planW zs L), some (.sh (.str pr)), some (.sh (.str (rowT z (L z)))), some (.sh (.lst [.str z, .str (L z).1, .str (num (L z).2)]))]) (by simp [i0, i1, i2, hn1, hn2, hlt, -v_ixl])]
  rw [seq_nx (e := [some (.sh (.str t)), some (planW (putKs zs z) L), some (.sh (.str pr)), some (.sh (.str (rowT z (L z)))), some (.sh (.lst [.str z, .str (L z).1, .str (num (L z).2)]))]) (by simp [i0, i1, i2, hnum, hput', -v_ixl])]
  simp [i0, -v_ixl]
theorem read_ok (ws : List Str) (L : Str → Str × Int) (hs : ws.Pairwise fun a b => leS a b = true) (hn : ws.Nodup) (hl : ws.length ≤ 20) (hz : ∀ z ∈ ws, isName z = true ∧ GoodV (L z)) : r_read_plan [.str (dueT ws L)] = .ok (planW ws L) := by
  have hdl := due_len hl hz
  unfold r_read_plan m_read_plan
  simp only [a_runD]
  have hslots : slots 5 [D.str (dueT ws L)] = [some (.sh (.str (dueT ws L))), none, none, none, none] := rfl
  rw [hslots]
  rw [seq_nx (e := [some (.sh (.str (dueT ws L))), none, none, none, none]) (by simp [tyD, isTy])]
  rw [seq_nx (e := [some (.sh (.str (dueT ws L))), some (planW [] L), none, none, none]) rfl]
  by_cases hne : ws = []
  · subst hne
    have : dueT [] L = PySem.Str.ofString "" := rfl
    rw [this]
    rw [seq_rt (w := planW [] L) (by simp)]
    rfl
  · have h1 := due_ne hne hz
    rw [seq_nx (e := [some (.sh (.str (dueT ws L))), some (planW [] L), none, none, none]) (by simp [h1])]
    rw [seq_nx (e := [some (.sh (.str (dueT ws L))), some (planW [] L), some (.sh (.str (PySem.Str.ofString ""))), none, none]) rfl]
    have hsp : splitD (dueT ws L) (.str (PySem.Str.ofString "; ")) = .ok (.lst (ws.map fun z => D.str (rowT z (L z)))) := by
      show (if ((PySem.Str.ofString "; ").length == 0) = false ∧ small (dueT ws L).length = true then Res.ok (W.lst ((Txt.split (dueT ws L) semi).map D.str)) else Res.st) = _
      rw [if_pos ⟨by decide, a_small (by omega)⟩, split_due hne hz, List.map_map]
      rfl
    have key : ∃ env', runL (mName 3) m_read_plan_b1 (ws.map fun z => D.str (rowT z (L z))) [some (.sh (.str (dueT ws L))), some (planW [] L), some (.sh (.str (PySem.Str.ofString ""))), none, none] = .ok (.nx env') ∧
        ∃ x3 x4, env' = [some (.sh (.str (dueT ws L))), some (planW (ws.take (0 + (ws.map fun z => D.str (rowT z (L z))).length)) L), some (.sh (.str (ahead ws (0 + (ws.map fun z => D.str (rowT z (L z))).length)))), x3, x4] := by
      refine runL_goes (fun i env => ∃ x3 x4, env = [some (.sh (.str (dueT ws L))), some (planW (ws.take i) L), some (.sh (.str (ahead ws i))), x3, x4]) _ 0 _ ⟨none, none, rfl⟩ ?_
      rintro i d env hd ⟨x3, x4, rfl⟩
      rw [List.getElem?_map] at hd
      obtain ⟨z, hz1, rfl⟩ := Option.map_eq_some_iff.mp hd
      have hm := List.mem_of_getElem? hz1
      rw [Nat.zero_add]
      obtain ⟨y4, hy⟩ := read_row (dueT ws L) (ws.take i) L (ahead ws i) z x4 (by rw [List.length_take]; omega) (hz z hm).1 (hz z hm).2 (ahead_lt hs hn (fun z h => (hz z h).1) hz1)
      refine ⟨_, _, rfl, .inl hy, some (.sh (.str (rowT z (L z)))), y4, ?_⟩
      rw [put_take hn hz1]
      have : ahead ws (i + 1) = z := by
        unfold ahead
        rw [if_neg (by omega), Nat.add_sub_cancel, List.getD_eq_getElem?_getD, hz1]
        rfl
      rw [this]
    obtain ⟨env', hrun, x3, x4, rfl⟩ := key
    have ht : ws.take (0 + (ws.map fun z => D.str (rowT z (L z))).length) = ws := by rw [List.length_map, Nat.zero_add, List.take_length]
    rw [ht] at hrun
    rw [seq_nx (by simp [hsp]; exact hrun)]
    rfl
end My

set_option Elab.async false
set_option linter.all false
set_option maxRecDepth 100000
set_option maxHeartbeats 4000000
namespace My
open PySem L2 Ly TL
theorem items_plan (L : Str → Str × Int) : ∀ zs : List Str, itemsP (zs.map Sum.inr) (zs.map fun z => rowD (L z)) = zs.map fun z => D.tup [.str z, rowD (L z)]
  | [] => rfl
  | z :: r => by
    show D.tup [.str z, rowD (L z)] :: itemsP (r.map Sum.inr) (r.map fun z => rowD (L z)) = _
    rw [items_plan L r]
    rfl
theorem pairs_plan (L : Str → Str × Int) : ∀ zs : List Str, pairsD (zs.map fun z => D.tup [.str z, rowD (L z)]) = some (zs.map fun z => (Sum.inr z, rowD (L z)))
  | [] => rfl
  | z :: r => by
    show ((some ((Sum.inr z : Key), rowD (L z))).bind fun p => (pairsD (r.map fun z => D.tup [.str z, rowD (L z)])).map fun ps => p :: ps) = _
    rw [pairs_plan L r]
    rfl
theorem merge_plan (L : Str → Str × Int) : ∀ as bs : List Str, (bs ++ as).Nodup → mergeD (bs.map Sum.inr) (bs.map fun z => rowD (L z)) (as.map fun z => ((Sum.inr z : Key), rowD (L z))) = ((bs ++ as).map Sum.inr, (bs ++ as).map fun z => rowD (L z))
  | [], bs, _ => by rw [List.append_nil]; rfl
  | a :: as, bs, h => by
    have hn : a ∉ bs := fun q => by
      rw [List.nodup_append] at h
      exact h.2.2 a q a List.mem_cons_self rfl
    have hn' : (Sum.inr a : Key) ∉ (bs.map Sum.inr : List Key) := fun q => by
      obtain ⟨y, hy, e⟩ := List.mem_map.mp q
      cases e
      exact hn hy
    show mergeD (putKs (bs.map Sum.inr) (Sum.inr a : Key)) (putXs (bs.map Sum.inr) (bs.map fun z => rowD (L z)) (Sum.inr a : Key) (rowD (L a))) (as.map fun z => ((Sum.inr z : Key), rowD (L z))) = _
    unfold putKs putXs
    rw [if_neg hn', if_neg hn']
    have := merge_plan L as (bs ++ [a]) (by rw [List.append_assoc]; exact h)
    rw [List.map_append, List.map_append, List.append_assoc] at this
    exact this
theorem handed_ok (zs : List Str) (L : Str → Str × Int) (h : zs.Nodup) : dictD [.lst (itemsP (zs.map Sum.inr) (zs.map fun z => rowD (L z))).reverse] = .ok (planW zs.reverse L) := by
  rw [items_plan, ← List.map_reverse]
  show (match pairsD (zs.reverse.map fun z => D.tup [.str z, rowD (L z)]) with
    | some ps => Res.ok (W.dic (mergeD [] [] ps).1 (mergeD [] [] ps).2)
    | none => Res.st) = _
  rw [pairs_plan]
  have := merge_plan L zs.reverse [] (by rw [List.nil_append]; exact (List.reverse_perm zs).nodup_iff.mpr h)
  show Res.ok (W.dic (mergeD [] [] _).1 (mergeD [] [] _).2) = _
  rw [show (mergeD [] [] (zs.reverse.map fun z => ((Sum.inr z : Key), rowD (L z)))) = _ from this]
  rfl
theorem vals_loop (L : Str → Str × Int) (e0 e1 e2 e3 e4 e5 : Option W) : ∀ (ws : List Str) (e7 e8 : Option W), ∃ y7 y8, runL (mGTup 2 (mGCons (mName 7) (mGCons (mName 8) mGNil))) m_law_b1 (ws.map fun z => rowD (L z)) [e0, e1, e2, e3, e4, e5, none, e7, e8, none] = .ok (.nx [e0, e1, e2, e3, e4, e5, none, y7, y8, none])
  | [], e7, e8 => ⟨e7, e8, rfl⟩
  | z :: ws, e7, e8 => by
    obtain ⟨y7, y8, ih⟩ := vals_loop L e0 e1 e2 e3 e4 e5 ws (some (.sh (.str (L z).1))) (some (.sh (.int (L z).2)))
    refine ⟨y7, y8, ?_⟩
    rw [List.map_cons, a_runLc, ← ih]
    have e : m_law_b1 [e0, e1, e2, e3, e4, e5, none, some (.sh (.str (L z).1)), some (.sh (.int (L z).2)), none] = .ok (.nx [e0, e1, e2, e3, e4, e5, none, some (.sh (.str (L z).1)), some (.sh (.int (L z).2)), none]) := by
      unfold m_law_b1
      simp [tyD, isTy]
    have eg : mGTup 2 (mGCons (mName 7) (mGCons (mName 8) mGNil)) (rowD (L z)) [e0, e1, e2, e3, e4, e5, none, e7, e8, none] = .ok [e0, e1, e2, e3, e4, e5, none, some (.sh (.str (L z).1)), some (.sh (.int (L z).2)), none] := rfl
    rw [eg, Res.bind_ok, e, Res.bind_ok]
theorem due_comp (zs : List Str) (L : Str → Str × Int) (hz : ∀ z ∈ zs, isName z = true ∧ GoodV (L z)) (e0 e1 e3 e4 e5 e6 e7 e8 : Option W) :
    runC (mName 9) mTrue (mD (mM1 joinD (mD (mK (.str " "))) (mD (mLst (mCons (mD (mVar 9)) (mCons (mD (mOp ixD (mD (mOp ixD (mVarV 2) (mVarV 9))) (mD (mK (.int 0))))) (mCons (mD (mCal strD (mCons (mD (mOp ixD (mD (mOp ixD (mVarV 2) (mVarV 9))) (mD (mK (.int 1))))) mNil))) mNil)))))))
      ((sortS zs).map D.str) [e0, e1, some (planW zs L), e3, e4, e5, e6, e7, e8, none] = .ok ((sortS zs).map fun z => D.str (rowT z (L z))) := by
  have hix := ix_plan zs L
  have hW : planW zs L = .dic (zs.map Sum.inr) (zs.map fun z => rowD (L z)) := rfl
  rw [hW] at hix ⊢
  simp only [a_toD3] at hix
  generalize (zs.map Sum.inr : List Key) = ks at hix ⊢
  generalize (zs.map fun z => rowD (L z)) = xs at hix ⊢
  refine runC_map D.str (fun z => D.str (rowT z (L z))) _ fun z hzm => ⟨_, rfl, rfl, ?_⟩
  have hzm' := sort_mem.mp hzm
  obtain ⟨n1, v1⟩ := hz z hzm'
  have h1 := hix z hzm'
  have hn := str_num v1.2.1 v1.2.2
  have hj := join_row z (L z) n1 v1
  simp [h1, ix_row0, ix_row1, hn, -v_stri]
  rw [show joinD (PySem.Str.ofString " ") (D.lst [D.str z, D.str (L z).1, D.str (num (L z).2)]) = _ from hj]
  rfl
theorem law_body (ns : List Int) (c : Int) (x2 x3 x4 x5 x6 x7 x8 : Option W) : ∃ y2 y3 y4 y5 y6 y7 y8, m_law_b2 [some (.sh (.scr ns)), some (.sh (.int c)), x2, x3, x4, x5, x6, x7, x8, none] = .ok (.nx [some (.sh (.scr ns)), some (.sh (.int c)), y2, y3, y4, y5, y6, y7, y8, none]) := by
  obtain ⟨zs, L, hplan, g, hl⟩ := plan_ok c
  have hz : ∀ z ∈ zs, isName z = true ∧ GoodV (L z) := fun z h => ⟨g.nm z h, g.vl z h⟩
  have hzs : ∀ z ∈ sortS zs, isName z = true ∧ GoodV (L z) := fun z h => hz z (sort_mem.mp h)
  have hv : ∀ z ∈ zs, isName (L z).1 = true := fun z h => (g.vl z h).1
  have hsort := sort_plan zs L hl
  have hcomp := due_comp zs L hz
  have hj := join_due (ws := sortS zs) (L := L) (by rw [sort_len]; exact hl) hzs
  have hhand := handed_ok zs L g.nd
  have hshown := shown_ok zs.reverse L (by rw [List.length_reverse]; exact hl) fun z h => hz z (List.mem_reverse.mp h)
  rw [sort_rev] at hshown
  have hread := read_ok (sortS zs) L (sortS_pw zs) (sort_nd g.nd) (by rw [sort_len]; exact hl) hzs
  have ne1 := ne_plan zs.reverse zs L (fun a h => List.mem_reverse.mp h) (by rw [List.length_reverse]) hv
  have ne2 := ne_plan (sortS zs) zs L (fun a h => sort_mem.mp h) (sort_len zs) hv
  have hsl : (sortS zs).length ≤ 10000000 := by rw [sort_len]; omega
  obtain ⟨y7, y8, hloop⟩ := vals_loop L (some (.sh (.scr ns))) (some (.sh (.int c))) (some (planW zs L)) (some (.sh (.str (dueT (sortS zs) L)))) (some (planW zs.reverse L)) (some (.sh (.str (dueT (sortS zs) L)))) (sortS zs) x7 x8
  refine ⟨some (planW zs L), some (.sh (.str (dueT (sortS zs) L))), some (planW zs.reverse L), some (.sh (.str (dueT (sortS zs) L))), some (.dic [] []), y7, y8, ?_⟩
  unfold m_law_b2
  rw [seq_nx (e := [some (.sh (.scr ns)), some (.sh (.int c)), some (planW zs L), x3, x4, x5, x6, x7, x8, none]) (by simp [hplan])]
  have hW : ∀ (as : List Str), planW as L = .dic (as.map Sum.inr) (as.map fun z => rowD (L z)) := fun as => rfl
  rw [seq_nx (e := [some (.sh (.scr ns)), some (.sh (.int c)), some (planW zs L), some (.sh (.str (dueT (sortS zs) L))), x4, x5, x6, x7, x8, none]) (by
    rw [hW] at hcomp hsort ⊢
    simp only [a_toD3] at hsort
    simp [hsort, hcomp, hsl]
    rw [show joinD (PySem.Str.ofString "; ") (D.lst (List.map (fun z => D.str (rowT z (L z))) (sortS zs))) = _ from hj]
    rfl)]
  rw [seq_nx (e := [some (.sh (.scr ns)), some (.sh (.int c)), some (planW zs L), some (.sh (.str (dueT (sortS zs) L))), some (planW zs.reverse L), x5, x6, x7, x8, none]) (by
    rw [hW zs]
    simp [hhand, -List.map_reverse])]
  rw [seq_nx (e := [some (.sh (.scr ns)), some (.sh (.int c)), some (planW zs L), some (.sh (.str (dueT (sortS zs) L))), some (planW zs.reverse L), some (.sh (.str (dueT (sortS zs) L))), x6, x7, x8, none]) (by
    rw [hW zs.reverse] at hshown ⊢
    simp only [a_toD3] at hshown
    simp [hshown, flatD, -List.map_reverse])]
  rw [seq_nx (e := [some (.sh (.scr ns)), some (.sh (.int c)), some (planW zs L), some (.sh (.str (dueT (sortS zs) L))), some (planW zs.reverse L), some (.sh (.str (dueT (sortS zs) L))), x6, x7, x8, none]) (by
    rw [hW zs, hW zs.reverse] at ne1 ⊢
    simp only [a_toD3] at ne1
    simp [tyD, isTy, ne1, -v_neEd, -List.map_reverse])]
  rw [seq_nx (e := [some (.sh (.scr ns)), some (.sh (.int c)), some (planW zs L), some (.sh (.str (dueT (sortS zs) L))), some (planW zs.reverse L), some (.sh (.str (dueT (sortS zs) L))), some (planW (sortS zs) L), x7, x8, none]) (by simp [hread])]
  rw [seq_nx (e := [some (.sh (.scr ns)), some (.sh (.int c)), some (planW zs L), some (.sh (.str (dueT (sortS zs) L))), some (planW zs.reverse L), some (.sh (.str (dueT (sortS zs) L))), some (planW (sortS zs) L), x7, x8, none]) (by
    rw [hW zs, hW (sortS zs)] at ne2 ⊢
    simp only [a_toD3] at ne2
    simp [tyD, isTy, ne2, -v_neEd])]
  rw [seq_nx (e := [some (.sh (.scr ns)), some (.sh (.int c)), some (planW zs L), some (.sh (.str (dueT (sortS zs) L))), some (planW zs.reverse L), some (.sh (.str (dueT (sortS zs) L))), some (planW (sortS zs) L), y7, y8, none]) (by
    rw [hW (sortS zs)]
    simp [hloop])]
  rw [seq_nx (e := [some (.sh (.scr ns)), some (.sh (.int c)), some (planW zs L), some (.sh (.str (dueT (sortS zs) L))), some (planW zs.reverse L), some (.sh (.str (dueT (sortS zs) L))), some (.dic [] []), y7, y8, none]) (by
    rw [hW (sortS zs)]
    simp)]
  rw [hW zs, hW (sortS zs)] at ne2
  simp only [a_toD3] at ne2
  rw [hW (sortS zs)] at hread
  rw [hW zs]
  simp [hread, ne2, -v_neEd]
theorem law_true : ∀ ns : List Int, ns.length ≤ 63 → r_law [.scr ns] = .ok (.sh (.bl true)) := by
  intro ns hns
  unfold r_law m_law
  simp only [a_runD]
  have hs : slots 10 [D.scr ns] = [some (.sh (.scr ns)), none, none, none, none, none, none, none, none, none] := rfl
  rw [hs]
  have hcut : ∀ d ∈ cutD ns none (some 60), True := fun _ _ => trivial
  have hlen : (cutD ns none (some 60)).length ≤ 63 := by
    unfold cutD
    rw [List.length_take, List.length_drop]
    omega
  have key : ∀ (cs : List Int) (x1 x2 x3 x4 x5 x6 x7 x8 : Option W), ∃ y1 y2 y3 y4 y5 y6 y7 y8, runL (mName 1) m_law_b2 (cs.map D.int) [some (.sh (.scr ns)), x1, x2, x3, x4, x5, x6, x7, x8, none] = .ok (.nx [some (.sh (.scr ns)), y1, y2, y3, y4, y5, y6, y7, y8, none]) := by
    intro cs
    induction cs with
    | nil => exact fun x1 x2 x3 x4 x5 x6 x7 x8 => ⟨x1, x2, x3, x4, x5, x6, x7, x8, rfl⟩
    | cons c cs ih =>
      intro x1 x2 x3 x4 x5 x6 x7 x8
      obtain ⟨y2, y3, y4, y5, y6, y7, y8, h⟩ := law_body ns c x2 x3 x4 x5 x6 x7 x8
      obtain ⟨z1, z2, z3, z4, z5, z6, z7, z8, h2⟩ := ih (some (.sh (.int c))) y2 y3 y4 y5 y6 y7 y8
      refine ⟨z1, z2, z3, z4, z5, z6, z7, z8, ?_⟩
      rw [List.map_cons, a_runLc, ← h2]
      show (m_law_b2 [some (.sh (.scr ns)), some (.sh (.int c)), x2, x3, x4, x5, x6, x7, x8, none]).bind _ = _
      rw [h]
      rfl
  obtain ⟨y1, y2, y3, y4, y5, y6, y7, y8, h⟩ := key (0 :: cutD ns none (some 60)) none none none none none none none none
  have hl2 : 1 + (cutD ns none (some 60)).length ≤ 10000000 := by omega
  rw [List.map_cons] at h
  rw [seq_nx (e := [some (.sh (.scr ns)), y1, y2, y3, y4, y5, y6, y7, y8, none]) (by
    simp [hl2, h])]
  simp
end My

set_option Elab.async false
set_option linter.all false
set_option maxRecDepth 100000
set_option maxHeartbeats 4000000
namespace My
open PySem L2 Ly PyProof.Rows
theorem all_mk {P : Program} {w : World} {K : PySem.W.Frag} {h : Heap} {mg : Str → Option Value} {fa : Addr} (X : K.In h) (G : h.Ns mainGlobals mg) (hfa : mg "law" = some (.ref fa))
    {f5 : Addr} {od5 an5 : Option Addr} {sl5 : Array (Option Value)} {oc5 kV5 dc5 pm5 cd5 ct5 : Value}
    (a5 : PySem.W.nsIn K mainGlobals "is_name" = some (some (.ref f5))) (l5 : K.lookup f5 = some ⟨oc5, od5, .func (PySem.W.fnOf "is_name" "is_name" (defArgs s_is_name) (defBody s_is_name) (defScope s_is_name) .none kV5 dc5 pm5 an5 cd5 ct5), sl5⟩) (c5 : PySem.W.codeIn K cd5 "is_name" = true) (k5 : PySem.W.keepIn K (.ref f5) = true)
    {f8 : Addr} {od8 an8 : Option Addr} {sl8 : Array (Option Value)} {oc8 kV8 dc8 pm8 cd8 ct8 : Value}
    (a8 : PySem.W.nsIn K mainGlobals "shown_plan" = some (some (.ref f8))) (l8 : K.lookup f8 = some ⟨oc8, od8, .func (PySem.W.fnOf "shown_plan" "shown_plan" (defArgs s_shown_plan) (defBody s_shown_plan) (defScope s_shown_plan) .none kV8 dc8 pm8 an8 cd8 ct8), sl8⟩) (c8 : PySem.W.codeIn K cd8 "shown_plan" = true) (k8 : PySem.W.keepIn K (.ref f8) = true)
    {f9 : Addr} {od9 an9 : Option Addr} {sl9 : Array (Option Value)} {oc9 kV9 dc9 pm9 cd9 ct9 : Value}
    (a9 : PySem.W.nsIn K mainGlobals "number_of" = some (some (.ref f9))) (l9 : K.lookup f9 = some ⟨oc9, od9, .func (PySem.W.fnOf "number_of" "number_of" (defArgs s_number_of) (defBody s_number_of) (defScope s_number_of) .none kV9 dc9 pm9 an9 cd9 ct9), sl9⟩) (c9 : PySem.W.codeIn K cd9 "number_of" = true) (k9 : PySem.W.keepIn K (.ref f9) = true)
    {f10 : Addr} {od10 an10 : Option Addr} {sl10 : Array (Option Value)} {oc10 kV10 dc10 pm10 cd10 ct10 : Value}
    (a10 : PySem.W.nsIn K mainGlobals "read_plan" = some (some (.ref f10))) (l10 : K.lookup f10 = some ⟨oc10, od10, .func (PySem.W.fnOf "read_plan" "read_plan" (defArgs s_read_plan) (defBody s_read_plan) (defScope s_read_plan) .none kV10 dc10 pm10 an10 cd10 ct10), sl10⟩) (c10 : PySem.W.codeIn K cd10 "read_plan" = true) (k10 : PySem.W.keepIn K (.ref f10) = true)
    {f12 : Addr} {od12 an12 : Option Addr} {sl12 : Array (Option Value)} {oc12 kV12 dc12 pm12 cd12 ct12 : Value}
    (a12 : PySem.W.nsIn K mainGlobals "_law_cell" = some (some (.ref f12))) (l12 : K.lookup f12 = some ⟨oc12, od12, .func (PySem.W.fnOf "_law_cell" "_law_cell" (defArgs s__law_cell) (defBody s__law_cell) (defScope s__law_cell) .none kV12 dc12 pm12 an12 cd12 ct12), sl12⟩) (c12 : PySem.W.codeIn K cd12 "_law_cell" = true) (k12 : PySem.W.keepIn K (.ref f12) = true)
    {f13 : Addr} {od13 an13 : Option Addr} {sl13 : Array (Option Value)} {oc13 kV13 dc13 pm13 cd13 ct13 : Value}
    (a13 : PySem.W.nsIn K mainGlobals "_law_digits" = some (some (.ref f13))) (l13 : K.lookup f13 = some ⟨oc13, od13, .func (PySem.W.fnOf "_law_digits" "_law_digits" (defArgs s__law_digits) (defBody s__law_digits) (defScope s__law_digits) .none kV13 dc13 pm13 an13 cd13 ct13), sl13⟩) (c13 : PySem.W.codeIn K cd13 "_law_digits" = true) (k13 : PySem.W.keepIn K (.ref f13) = true)
    {f14 : Addr} {od14 an14 : Option Addr} {sl14 : Array (Option Value)} {oc14 kV14 dc14 pm14 cd14 ct14 : Value}
    (a14 : PySem.W.nsIn K mainGlobals "_law_word" = some (some (.ref f14))) (l14 : K.lookup f14 = some ⟨oc14, od14, .func (PySem.W.fnOf "_law_word" "_law_word" (defArgs s__law_word) (defBody s__law_word) (defScope s__law_word) .none kV14 dc14 pm14 an14 cd14 ct14), sl14⟩) (c14 : PySem.W.codeIn K cd14 "_law_word" = true) (k14 : PySem.W.keepIn K (.ref f14) = true)
    {f15 : Addr} {od15 an15 : Option Addr} {sl15 : Array (Option Value)} {oc15 kV15 dc15 pm15 cd15 ct15 : Value}
    (a15 : PySem.W.nsIn K mainGlobals "_law_plan" = some (some (.ref f15))) (l15 : K.lookup f15 = some ⟨oc15, od15, .func (PySem.W.fnOf "_law_plan" "_law_plan" (defArgs s__law_plan) (defBody s__law_plan) (defScope s__law_plan) .none kV15 dc15 pm15 an15 cd15 ct15), sl15⟩) (c15 : PySem.W.codeIn K cd15 "_law_plan" = true) (k15 : PySem.W.keepIn K (.ref f15) = true)
    {f16 : Addr} {od16 an16 : Option Addr} {sl16 : Array (Option Value)} {oc16 kV16 dc16 pm16 cd16 ct16 : Value}
    (a16 : PySem.W.nsIn K mainGlobals "law" = some (some (.ref f16))) (l16 : K.lookup f16 = some ⟨oc16, od16, .func (PySem.W.fnOf "law" "law" (defArgs s_law) (defBody s_law) (defScope s_law) .none kV16 dc16 pm16 an16 cd16 ct16), sl16⟩) (c16 : PySem.W.codeIn K cd16 "law" = true) (k16 : PySem.W.keepIn K (.ref f16) = true)
    (z_abs : PySem.W.nsIn K mainGlobals "abs" = some none)
    (z_bool : PySem.W.nsIn K mainGlobals "bool" = some none)
    (z_dict : PySem.W.nsIn K mainGlobals "dict" = some none)
    (z_enumerate : PySem.W.nsIn K mainGlobals "enumerate" = some none)
    (z_int : PySem.W.nsIn K mainGlobals "int" = some none)
    (z_isinstance : PySem.W.nsIn K mainGlobals "isinstance" = some none)
    (z_len : PySem.W.nsIn K mainGlobals "len" = some none)
    (z_list : PySem.W.nsIn K mainGlobals "list" = some none)
    (z_range : PySem.W.nsIn K mainGlobals "range" = some none)
    (z_sorted : PySem.W.nsIn K mainGlobals "sorted" = some none)
    (z_str : PySem.W.nsIn K mainGlobals "str" = some none)
    {t_FIGURES : Tok} (g_FIGURES : PySem.W.nsIn K mainGlobals "FIGURES" = some (some (Value.str (PySem.Str.ofString "0123456789") t_FIGURES)))
    {t_LETTERS : Tok} (g_LETTERS : PySem.W.nsIn K mainGlobals "LETTERS" = some (some (Value.str (PySem.Str.ofString "abcdefghijklmnopqrstuvwxyz") t_LETTERS)))
    : ∃ fd : FuncData, (∀ (s : Shared) (v : Value), BindsTo s fd ⟨[v], []⟩ [("_law_script", v)]) ∧ ∀ base : Heap, K.In base → base.Ns mainGlobals mg → FnOk P w K mg base (L2.CX P w) 3 fa fd ["_law_script"] (spM K 1 r_law) := by
  have e := hfa.symm.trans (PySem.W.mg_of X G a16)
  cases e
  have T : Txt mg := ⟨PySem.W.mg_none_of X G z_abs, PySem.W.mg_none_of X G z_bool, PySem.W.mg_none_of X G z_dict, PySem.W.mg_none_of X G z_enumerate, PySem.W.mg_none_of X G z_int, PySem.W.mg_none_of X G z_isinstance, PySem.W.mg_none_of X G z_len, PySem.W.mg_none_of X G z_list, PySem.W.mg_none_of X G z_range, PySem.W.mg_none_of X G z_sorted, PySem.W.mg_none_of X G z_str, ⟨_, PySem.W.mg_of X G g_FIGURES⟩, ⟨_, PySem.W.mg_of X G g_LETTERS⟩⟩
  have F5 := fun_mk (st := s_is_name) l5 c5 k5
  have b5 := F5.binds (ps := ["thing"]) fun _ _ _ _ _ _ us hl => match us, hl with | [_], _ => rfl
  have M5 : Known K mg "is_name" f5 _ ["thing"] := ⟨PySem.W.mg_of X G a5, k5, b5⟩
  have F8 := fun_mk (st := s_shown_plan) l8 c8 k8
  have b8 := F8.binds (ps := ["plan"]) fun _ _ _ _ _ _ us hl => match us, hl with | [_], _ => rfl
  have M8 : Known K mg "shown_plan" f8 _ ["plan"] := ⟨PySem.W.mg_of X G a8, k8, b8⟩
  have F9 := fun_mk (st := s_number_of) l9 c9 k9
  have b9 := F9.binds (ps := ["word"]) fun _ _ _ _ _ _ us hl => match us, hl with | [_], _ => rfl
  have M9 : Known K mg "number_of" f9 _ ["word"] := ⟨PySem.W.mg_of X G a9, k9, b9⟩
  have F10 := fun_mk (st := s_read_plan) l10 c10 k10
  have b10 := F10.binds (ps := ["text"]) fun _ _ _ _ _ _ us hl => match us, hl with | [_], _ => rfl
  have M10 : Known K mg "read_plan" f10 _ ["text"] := ⟨PySem.W.mg_of X G a10, k10, b10⟩
  have F12 := fun_mk (st := s__law_cell) l12 c12 k12
  have b12 := F12.binds (ps := ["_law_script", "_law_k"]) fun _ _ _ _ _ _ us hl => match us, hl with | [_, _], _ => rfl
  have M12 : Known K mg "_law_cell" f12 _ ["_law_script", "_law_k"] := ⟨PySem.W.mg_of X G a12, k12, b12⟩
  have F13 := fun_mk (st := s__law_digits) l13 c13 k13
  have b13 := F13.binds (ps := ["_law_cell_here", "_law_k", "_law_sizes"]) fun _ _ _ _ _ _ us hl => match us, hl with | [_, _, _], _ => rfl
  have M13 : Known K mg "_law_digits" f13 _ ["_law_cell_here", "_law_k", "_law_sizes"] := ⟨PySem.W.mg_of X G a13, k13, b13⟩
  have F14 := fun_mk (st := s__law_word) l14 c14 k14
  have b14 := F14.binds (ps := ["_law_row"]) fun _ _ _ _ _ _ us hl => match us, hl with | [_], _ => rfl
  have M14 : Known K mg "_law_word" f14 _ ["_law_row"] := ⟨PySem.W.mg_of X G a14, k14, b14⟩
  have F15 := fun_mk (st := s__law_plan) l15 c15 k15
  have b15 := F15.binds (ps := ["_law_cell_here"]) fun _ _ _ _ _ _ us hl => match us, hl with | [_], _ => rfl
  have M15 : Known K mg "_law_plan" f15 _ ["_law_cell_here"] := ⟨PySem.W.mg_of X G a15, k15, b15⟩
  have F16 := fun_mk (st := s_law) l16 c16 k16
  refine ⟨PySem.W.fnOf "law" "law" (defArgs s_law) (defBody s_law) (defScope s_law) .none kV16 dc16 pm16 an16 cd16 ct16, fun s v => .of_eq rfl, fun base hb hn => ?_⟩
  have G5 := ok_is_name (P := P) (w := w) (base := base) F5 T
  have G8 := ok_shown_plan (P := P) (w := w) (base := base) F8 T
  have G9 := ok_number_of (P := P) (w := w) (base := base) F9 T
  have G10 := ok_read_plan (P := P) (w := w) (base := base) F10 T G9 M9 G5 M5
  have G12 := ok__law_cell (P := P) (w := w) (base := base) F12 T
  have G13 := ok__law_digits (P := P) (w := w) (base := base) F13 T
  have G14 := ok__law_word (P := P) (w := w) (base := base) F14 T
  have G15 := ok__law_plan (P := P) (w := w) (base := base) F15 T G13 M13 G14 M14
  have G16 := ok_law (P := P) (w := w) (base := base) F16 T G15 M15 G8 M8 G10 M10
  exact G16
theorem walk {l : PySem.W.OpenLaw} {q : Program} {loose : List Str} {XP : (Str → Option Value) → Heap → Prop} {YP : World → Heap → Prop} {d : DefRec} {K : Params → PySem.W.Frag} (hn : l.most = some 63) (hdf : d.params.defaults = [])
    (hY : ∀ (w : World) (h : Heap), YP w h → (K w.params).In h)
    (law_true : ∀ ns : List Int, ns.length ≤ 63 → r_law [.scr ns] = .ok (.sh (.bl true)))
    (F : ∀ (w : World) (mg : Str → Option Value) (fa : Addr) (h : Heap), (K w.params).In h → h.Ns mainGlobals mg → mg d.name = some (.ref fa) →
      ∃ fd : FuncData, (∀ (s : Shared) (u : Value), BindsTo s fd ⟨[u], []⟩ [("_law_script", u)]) ∧ ∀ base : Heap, (K w.params).In base → base.Ns mainGlobals mg → FnOk l.prog w (K w.params) mg base (L2.CX l.prog w) 3 fa fd ["_law_script"] (spM (K w.params) 1 r_law)) :
    PySem.W.WalkO q loose XP YP l.row.toRowW d [] (fun f vs => PySem.call f vs) :=
  L2.walk_of (n := 63) (k := 3) (x := "_law_script") (CX := fun w => L2.CX l.prog w) (sp := fun w => spM (K w.params) 1 r_law) hn (by decide) hdf ⟨rfl, by decide, by decide⟩ hY F
    (fun w H a ns hl _ hS => ⟨rfl, H, [.scr ns], Same.refl H, .cons (.scr hS) .nil, by rw [law_true ns hl]; exact fun v S' H' fp n => by cases n.own with | sh r => cases r; rfl⟩)
    fun w H s e s' z => by obtain ⟨_, _, _, _, _, _, _, _, _, _, _, _, z⟩ := z; exact z
end My
open PySem PySem.W PyProof.Rows
set_option maxRecDepth 100000 in
set_option maxHeartbeats 0 in
theorem PySem.Challenge.cw_shopbound_k23_plans_written_holds : PySem.Challenge.rw_shopbound_k23_plans_written.Holds := by
  w_on; o_law; k_head; (case hw => w_witness2)
  k_fill
  refine My.walk (l := PySem.Challenge.rw_shopbound_k23_plans_written) rfl rfl (fun w h Y => PySem.W.kIn_of Y) My.law_true ?F
  case F =>
    intro w mg fa h KX G hmg
    refine' My.all_mk KX G hmg ?a5 ?l5 ?c5 ?k5 ?a8 ?l8 ?c8 ?k8 ?a9 ?l9 ?c9 ?k9 ?a10 ?l10 ?c10 ?k10 ?a12 ?l12 ?c12 ?k12 ?a13 ?l13 ?c13 ?k13 ?a14 ?l14 ?c14 ?k14 ?a15 ?l15 ?c15 ?k15 ?a16 ?l16 ?c16 ?k16 ?z_abs ?z_bool ?z_dict ?z_enumerate ?z_int ?z_isinstance ?z_len ?z_list ?z_range ?z_sorted ?z_str ?g_FIGURES ?g_LETTERS
    (case a5 => k_is)
    (case l5 => k_is)
    (case c5 => k_is)
    (case k5 => k_is)
    (case a8 => k_is)
    (case l8 => k_is)
    (case c8 => k_is)
    (case k8 => k_is)
    (case a9 => k_is)
    (case l9 => k_is)
    (case c9 => k_is)
    (case k9 => k_is)
    (case a10 => k_is)
    (case l10 => k_is)
    (case c10 => k_is)
    (case k10 => k_is)
    (case a12 => k_is)
    (case l12 => k_is)
    (case c12 => k_is)
    (case k12 => k_is)
    (case a13 => k_is)
    (case l13 => k_is)
    (case c13 => k_is)
    (case k13 => k_is)
    (case a14 => k_is)
    (case l14 => k_is)
    (case c14 => k_is)
    (case k14 => k_is)
    (case a15 => k_is)
    (case l15 => k_is)
    (case c15 => k_is)
    (case k15 => k_is)
    (case a16 => k_is)
    (case l16 => k_is)
    (case c16 => k_is)
    (case k16 => k_is)
    (case z_abs => k_is)
    (case z_bool => k_is)
    (case z_dict => k_is)
    (case z_enumerate => k_is)
    (case z_int => k_is)
    (case z_isinstance => k_is)
    (case z_len => k_is)
    (case z_list => k_is)
    (case z_range => k_is)
    (case z_sorted => k_is)
    (case z_str => k_is)
    (case g_FIGURES => k_is)
    (case g_LETTERS => k_is)

