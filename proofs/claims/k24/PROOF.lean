import PyProof.Rows.All
import Wide.All
import OpenK.AllK
import Wide.FinOn
import HandS.ForMost
import HandS.ForExc
import HandS.IsInst
import HandS.Wide
import HandS.Deep
import HandS.Steps
import HandS.ListItems
import HandS.Style
import HandS.Finally
import HandS.FStr
import HandS.RaiseMore
import KE.KEqDict
import HandS.SortInts
import HandS.More
import KE.KDictPairs
import HandS.Strs
import HandS.TupSets
import KE.DataMinMax
import KE.SortData
import HandS.SortKw
import HandS.Sort
import KE.KDictList
import HandS.Conv
import KE.KEqNest
import HandS.ClsMeth
import HandS.Small
import HandS.NoneIn
import HandS.ExcValue
import HandS.ExcIs
import KE.KExcIs
import HandS.Flow
import HandS.ExcInit
import HandS.ExcField
import HandS.ReplaceLit
import PyProof.NeKinds
import HandS.Defaults
import PySem.Challenge.RW_shopbound_k24_no_plan
set_option Elab.async false
set_option linter.all false
set_option maxRecDepth 100000
/-! Ly: data instead of addresses. D: what a value is, as data; Rep: the stable part S of the heap bears it; W: a value with what is owned; mirrors: plain functions over lists of W. -/
namespace Ly
open PySem L2

/-- data -/
inductive D where
  | non | bl (b : Bool) | int (i : Int) | str (x : Str)
  | lst (xs : List D) | tup (xs : List D)
  | dic (ks : List Key) (xs : List D) | dit (ks : List (List Key)) (xs : List D)
  | obj (n : Str) (fs : List Str) (xs : List D)
  | scr (ns : List Int)
  /-- a tuple of the module; a built-in type; a class -/
  | ktup (xs : List D)
  | ty (n : String)
  | cls (n : Str)

/-- the class of that name stands at C -/
def IsC (K : PySem.W.Frag) (n : Str) (C : Addr) : Prop := PySem.W.nsIn K mainGlobals n = some (some (.ref C))
theorem IsC.one {K : PySem.W.Frag} {n : Str} {C C' : Addr} (h : IsC K n C) (h' : IsC K n C') : C = C' := by
  have := h.symm.trans h'
  cases this
  rfl
mutual
/-- v is d in the stable heap S -/
inductive Rep (K : PySem.W.Frag) (S : Hp) : V → D → Prop
  | non : Rep K S .non .non
  | bl (b : Bool) : Rep K S (.bl b) (.bl b)
  | int (i : Int) : Rep K S (.int i) (.int i)
  | str (x : Str) : Rep K S (.str x) (.str x)
  | ty (n : String) : Rep K S (.ty n) (.ty n)
  | cls {n : Str} {C : Addr} : IsC K n C → Rep K S (.ref C) (.cls n)
  | lst {a : Addr} {vs : List V} {xs : List D} : S a = some (.lst vs) → Reps K S vs xs → Rep K S (.ref a) (.lst xs)
  | tup {a : Addr} {vs : List V} {xs : List D} : S a = some (.tup vs) → Reps K S vs xs → Rep K S (.ref a) (.tup xs)
  | ktup {a : Addr} {vs : List V} {xs : List D} : SqT K S a vs → Reps K S vs xs → Rep K S (.ref a) (.ktup xs)
  | dic {a : Addr} {ks : List Key} {vs : List V} {xs : List D} : Rd S a (.dK (ks.zip vs)) → vs.length = ks.length → Reps K S vs xs → Rep K S (.ref a) (.dic ks xs)
  | dit {a : Addr} {ks : List (List Key)} {vs : List V} {xs : List D} : Rd S a (.dT (ks.zip vs)) → vs.length = ks.length → Reps K S vs xs → Rep K S (.ref a) (.dit ks xs)
  | obj {n : Str} {a C dx : Addr} {fs : List Str} {vs : List V} {xs : List D} : IsC K n C → S a = some (.ins C dx (fs.zip vs)) → vs.length = fs.length → Reps K S vs xs → Rep K S (.ref a) (.obj n fs xs)
  | scr {a : Addr} {ns : List Int} : SqL K S a (ns.map V.int) → Rep K S (.ref a) (.scr ns)
inductive Reps (K : PySem.W.Frag) (S : Hp) : List V → List D → Prop
  | nil : Reps K S [] []
  | cons {v : V} {vs : List V} {d : D} {ds : List D} : Rep K S v d → Reps K S vs ds → Reps K S (v :: vs) (d :: ds)
end

theorem rd_up {S S' : Hp} {a : Addr} {u : HO} (h : Same S S') (r : Rd S a u) : Rd S' a u := by
  rcases r with e | ⟨o, e⟩
  · exact .inl (h _ _ e)
  · exact .inr ⟨o, h _ _ e⟩
theorem sqT_up {K : PySem.W.Frag} {S S' : Hp} {a : Addr} {xs : List V} (e : Same S S') (h : SqT K S a xs) : SqT K S' a xs := by
  rcases h with (h | ⟨o, h⟩) | h
  · exact .inl (.inl (e _ _ h))
  · exact .inl (.inr ⟨o, e _ _ h⟩)
  · exact .inr h
section
variable {K : PySem.W.Frag} {S S' H H' : Hp}
mutual
theorem Rep.mono (h : Same S S') : ∀ (d : D) (v : V), Rep K S v d → Rep K S' v d
  | .non, _, r => by cases r; exact .non
  | .bl b, _, r => by cases r; exact .bl b
  | .int i, _, r => by cases r; exact .int i
  | .str x, _, r => by cases r; exact .str x
  | .ty x, _, r => by cases r; exact .ty x
  | .cls x, _, r => by cases r with | cls c => exact .cls c
  | .lst xs, _, r => by cases r with | lst e q => exact .lst (h _ _ e) (Reps.mono h xs _ q)
  | .tup xs, _, r => by cases r with | tup e q => exact .tup (h _ _ e) (Reps.mono h xs _ q)
  | .ktup xs, _, r => by cases r with | ktup e q => exact .ktup (sqT_up h e) (Reps.mono h xs _ q)
  | .dic ks xs, _, r => by cases r with | dic e l q => exact .dic (rd_up h e) l (Reps.mono h xs _ q)
  | .dit ks xs, _, r => by cases r with | dit e l q => exact .dit (rd_up h e) l (Reps.mono h xs _ q)
  | .obj C fs xs, _, r => by cases r with | obj c e l q => exact .obj c (h _ _ e) l (Reps.mono h xs _ q)
  | .scr ns, _, r => by cases r with | scr e => exact .scr (h.seq e)
theorem Reps.mono (h : Same S S') : ∀ (ds : List D) (vs : List V), Reps K S vs ds → Reps K S' vs ds
  | [], _, r => by cases r; exact .nil
  | d :: ds, _, r => by cases r with | cons a b => exact .cons (Rep.mono h d _ a) (Reps.mono h ds _ b)
end
theorem Rep.up {v : V} {d : D} (r : Rep K S v d) (h : Same S S') : Rep K S' v d := Rep.mono h d v r
theorem Reps.up {vs : List V} {ds : List D} (r : Reps K S vs ds) (h : Same S S') : Reps K S' vs ds := Reps.mono h ds vs r
theorem Reps.len : ∀ {vs : List V} {ds : List D}, Reps K S vs ds → vs.length = ds.length
  | _, _, .nil => rfl
  | _, _, .cons _ t => congrArg (· + 1) (Reps.len t)
theorem Reps.get : ∀ {vs : List V} {ds : List D} {i : Nat} {d : D}, Reps K S vs ds → ds[i]? = some d → ∃ v, vs[i]? = some v ∧ Rep K S v d
  | _, _, _, _, .nil, e => by simp at e
  | _, _, 0, _, .cons r _, e => by simp at e; subst e; exact ⟨_, rfl, r⟩
  | _, _, i + 1, d, .cons _ t, e => by
    obtain ⟨v, h1, h2⟩ := Reps.get (i := i) (d := d) t (by simpa using e)
    exact ⟨v, by simpa using h1, h2⟩
theorem Reps.getV : ∀ {vs : List V} {ds : List D} {i : Nat} {v : V}, Reps K S vs ds → vs[i]? = some v → ∃ d, ds[i]? = some d ∧ Rep K S v d
  | _, _, _, _, .nil, e => by simp at e
  | _, _, 0, _, .cons r _, e => by simp at e; subst e; exact ⟨_, rfl, r⟩
  | _, _, i + 1, d, .cons _ t, e => by
    obtain ⟨v, h1, h2⟩ := Reps.getV (i := i) (v := d) t (by simpa using e)
    exact ⟨v, by simpa using h1, h2⟩
theorem Reps.app : ∀ {vs ws : List V} {ds es : List D}, Reps K S vs ds → Reps K S ws es → Reps K S (vs ++ ws) (ds ++ es)
  | _, _, _, _, .nil, s => s
  | _, _, _, _, .cons r t, s => .cons r (Reps.app t s)
theorem Reps.take : ∀ {vs : List V} {ds : List D} (n : Nat), Reps K S vs ds → Reps K S (vs.take n) (ds.take n)
  | _, _, 0, _ => by rw [List.take_zero, List.take_zero]; exact .nil
  | _, _, _ + 1, .nil => .nil
  | _, _, n + 1, .cons r t => .cons r (Reps.take n t)
theorem Reps.drop : ∀ {vs : List V} {ds : List D} (n : Nat), Reps K S vs ds → Reps K S (vs.drop n) (ds.drop n)
  | _, _, 0, r => r
  | _, _, _ + 1, .nil => .nil
  | _, _, n + 1, .cons _ t => Reps.drop n t
theorem Reps.set {v : V} {d : D} (r : Rep K S v d) : ∀ {vs : List V} {ds : List D} (i : Nat), Reps K S vs ds → Reps K S (vs.set i v) (ds.set i d)
  | _, _, _, .nil => .nil
  | _, _, 0, .cons _ t => .cons r t
  | _, _, i + 1, .cons q t => .cons q (Reps.set r i t)
theorem Reps.rep {v : V} {d : D} (r : Rep K S v d) : ∀ n : Nat, Reps K S (List.replicate n v) (List.replicate n d)
  | 0 => .nil
  | n + 1 => .cons r (Reps.rep r n)
theorem Reps.ints : ∀ (ns : List Int), Reps K S (ns.map V.int) (ns.map D.int)
  | [] => .nil
  | n :: ns => .cons (.int n) (Reps.ints ns)
end

/-! ### growth -/
/-- a tuple of the heap: it never changes -/
def tupO : HO → Bool
  | .tup _ => true
  | _ => false
/-- something that is no tuple -/
def isMu : Option HO → Bool
  | some o => !tupO o
  | none => false
theorem isMu_some {x : Option HO} (h : isMu x = true) : ∃ u, x = some u ∧ tupO u = false := by
  cases x with
  | none => cases h
  | some u =>
    have h : (!tupO u) = true := h
    exact ⟨u, rfl, by cases e : tupO u with | false => rfl | true => rw [e] at h; cases h⟩
/-- from a stable part and a heap to later ones: nothing that was tracked is touched, what comes to the stable part is new -/
structure Gr (S H S' H' : Hp) : Prop where
  ss : Same S S'
  hh : Same H H'
  sub : Same S' H'
  nw : ∀ a o, S' a = some o → S a = some o ∨ H a = none ∨ tupO o = true

section
variable {S H S1 H1 S2 H2 S' H' : Hp}
theorem Gr.refl (h : Same S H) : Gr S H S H := ⟨Same.refl S, Same.refl H, h, fun _ _ e => .inl e⟩
theorem Gr.trans (a : Gr S H S1 H1) (b : Gr S1 H1 S2 H2) : Gr S H S2 H2 where
  ss := a.ss.trans b.ss
  hh := a.hh.trans b.hh
  sub := b.sub
  nw := fun c o e => by
    rcases b.nw c o e with h | h | h
    · exact a.nw c o h
    · exact .inr (.inl (a.hh.free h))
    · exact .inr (.inr h)
/-- the stable part stays, the heap grows -/
theorem Gr.hp (h : Same S H) (g : Same H H') : Gr S H S H' := ⟨Same.refl S, g, fun a o e => g a o (h a o e), fun _ _ e => .inl e⟩
/-- a new object, stable -/
theorem Gr.new {p : Addr} {o : HO} (h : Same S H) (e : H p = none) : Gr S H (upd S p o) (upd H p o) where
  ss := fun a u q => by rw [upd_ne (ne_of_none q (h.free e))]; exact q
  hh := fun a u q => by rw [upd_ne (ne_of_none q e)]; exact q
  sub := fun a u q => by
    by_cases z : a = p
    · subst z; rw [upd_same] at q ⊢; exact q
    · rw [upd_ne z] at q ⊢; exact h a u q
  nw := fun a u q => by
    by_cases z : a = p
    · subst z; exact .inr (.inl e)
    · rw [upd_ne z] at q; exact .inl q
theorem Gr.gone (g : Gr S H S' H') {p : Addr} (hs : S p = none) (hh : isMu (H p) = true) : S' p = none := by
  cases e : S' p with
  | none => rfl
  | some o =>
    obtain ⟨u, eu, hu⟩ := isMu_some hh
    rcases g.nw p o e with z | z | z
    · rw [hs] at z; cases z
    · rw [z] at eu; cases eu
    · have h1 := g.sub p o e
      rw [g.hh p u eu] at h1
      cases h1
      rw [hu] at z; cases z
end

/-! ### values with what is owned -/
inductive W where
  | sh (d : D)
  | lst (xs : List D)
  | dic (ks : List Key) (xs : List D)
  | dit (ks : List (List Key)) (xs : List D)
  | obj (n : Str) (fs : List Str) (ws : List W)
  | nst (ws : List W)
  | ntp (ws : List W)
mutual
def W.toD : W → D
  | .sh d => d
  | .lst xs => .lst xs
  | .dic ks xs => .dic ks xs
  | .dit ks xs => .dit ks xs
  | .obj C fs ws => .obj C fs (W.toDs ws)
  | .nst ws => .lst (W.toDs ws)
  | .ntp ws => .tup (W.toDs ws)
def W.toDs : List W → List D
  | [] => []
  | w :: ws => w.toD :: W.toDs ws
end
mutual
/-- v is w in the heap H with the stable part S; fp: the addresses that it owns -/
inductive Own (K : PySem.W.Frag) (S H : Hp) : V → W → List Addr → Prop
  | sh {v : V} {d : D} : Rep K S v d → Own K S H v (.sh d) []
  | lst {p : Addr} {vs : List V} {xs : List D} : H p = some (.lst vs) → Reps K S vs xs → Own K S H (.ref p) (.lst xs) [p]
  | dic {p : Addr} {ks : List Key} {vs : List V} {xs : List D} : H p = some (.dK (ks.zip vs)) → vs.length = ks.length → Reps K S vs xs → Own K S H (.ref p) (.dic ks xs) [p]
  | dit {p : Addr} {ks : List (List Key)} {vs : List V} {xs : List D} : H p = some (.dT (ks.zip vs)) → vs.length = ks.length → Reps K S vs xs → Own K S H (.ref p) (.dit ks xs) [p]
  | obj {n : Str} {p C dx : Addr} {fs : List Str} {vs : List V} {ws : List W} {fp : List Addr} : IsC K n C → H p = some (.ins C dx (fs.zip vs)) → vs.length = fs.length → Owns K S H vs ws fp → Own K S H (.ref p) (.obj n fs ws) (p :: fp)
  | nst {p : Addr} {vs : List V} {ws : List W} {fp : List Addr} : H p = some (.lst vs) → Owns K S H vs ws fp → Own K S H (.ref p) (.nst ws) (p :: fp)
  | ntp {p : Addr} {vs : List V} {ws : List W} {fp : List Addr} : S p = some (.tup vs) → Owns K S H vs ws fp → Own K S H (.ref p) (.ntp ws) fp
inductive Owns (K : PySem.W.Frag) (S H : Hp) : List V → List W → List Addr → Prop
  | nil : Owns K S H [] [] []
  | cons {v : V} {vs : List V} {w : W} {ws : List W} {fp fq : List Addr} : Own K S H v w fp → Owns K S H vs ws fq → Owns K S H (v :: vs) (w :: ws) (fp ++ fq)
end
section
variable {K : PySem.W.Frag} {S S' H H' : Hp}
mutual
/-- carried: the stable part grows, the owned addresses keep what they hold -/
theorem Own.carry (h : Same S S') : ∀ {v : V} (w : W) {fp : List Addr}, Own K S H v w fp → (∀ p ∈ fp, H' p = H p) → Own K S' H' v w fp
  | _, .sh d, _, r, k => by cases r with | sh q => exact .sh (q.up h)
  | _, .lst xs, _, r, k => by cases r with | lst e q => exact .lst (by rw [k _ (by simp)]; exact e) (q.up h)
  | _, .dic ks xs, _, r, k => by cases r with | dic e l q => exact .dic (by rw [k _ (by simp)]; exact e) l (q.up h)
  | _, .dit ks xs, _, r, k => by cases r with | dit e l q => exact .dit (by rw [k _ (by simp)]; exact e) l (q.up h)
  | _, .obj C fs ws, _, r, k => by cases r with | obj c e l q => exact .obj c (by rw [k _ (by simp)]; exact e) l (Owns.carry h ws q fun p hp => k p (List.mem_cons_of_mem _ hp))
  | _, .nst ws, _, r, k => by cases r with | nst e q => exact .nst (by rw [k _ (by simp)]; exact e) (Owns.carry h ws q fun p hp => k p (List.mem_cons_of_mem _ hp))
  | _, .ntp ws, _, r, k => by cases r with | ntp e q => exact .ntp (h _ _ e) (Owns.carry h ws q fun p hp => k p hp)
theorem Owns.carry (h : Same S S') : ∀ {vs : List V} (ws : List W) {fp : List Addr}, Owns K S H vs ws fp → (∀ p ∈ fp, H' p = H p) → Owns K S' H' vs ws fp
  | _, [], _, r, k => by cases r; exact .nil
  | _, w :: ws, _, r, k => by cases r with | cons a b => exact .cons (Own.carry h w a fun p hp => k p (List.mem_append_left _ hp)) (Owns.carry h ws b fun p hp => k p (List.mem_append_right _ hp))
end
mutual
theorem Own.there : ∀ {v : V} (w : W) {fp : List Addr}, Own K S H v w fp → ∀ p ∈ fp, isMu (H p) = true
  | _, .sh d, _, r => by cases r; intro p hp; cases hp
  | _, .lst xs, _, r => by cases r with | lst e q => intro p hp; rw [List.mem_singleton.mp hp, e]; rfl
  | _, .dic ks xs, _, r => by cases r with | dic e l q => intro p hp; rw [List.mem_singleton.mp hp, e]; rfl
  | _, .dit ks xs, _, r => by cases r with | dit e l q => intro p hp; rw [List.mem_singleton.mp hp, e]; rfl
  | _, .obj C fs ws, _, r => by
    cases r with
    | obj c e l q =>
      intro p hp
      rcases List.mem_cons.mp hp with rfl | hp
      · rw [e]; rfl
      · exact Owns.there ws q p hp
  | _, .nst ws, _, r => by
    cases r with
    | nst e q =>
      intro p hp
      rcases List.mem_cons.mp hp with rfl | hp
      · rw [e]; rfl
      · exact Owns.there ws q p hp
  | _, .ntp ws, _, r => by
    cases r with
    | ntp e q => exact fun p hp => Owns.there ws q p hp
theorem Owns.there : ∀ {vs : List V} (ws : List W) {fp : List Addr}, Owns K S H vs ws fp → ∀ p ∈ fp, isMu (H p) = true
  | _, [], _, r => by cases r; intro p hp; cases hp
  | _, w :: ws, _, r => by
    cases r with
    | cons a b =>
      intro p hp
      rcases List.mem_append.mp hp with hp | hp
      · exact Own.there w a p hp
      · exact Owns.there ws b p hp
end
mutual
/-- read as data: in any stable heap that has the owned addresses as they are -/
theorem Own.rep (h : Same S S') : ∀ {v : V} (w : W) {fp : List Addr}, Own K S H v w fp → (∀ p ∈ fp, S' p = H p) → Rep K S' v w.toD
  | _, .sh d, _, r, k => by cases r with | sh q => unfold W.toD; exact q.up h
  | _, .lst xs, _, r, k => by cases r with | lst e q => unfold W.toD; exact .lst (by rw [k _ (by simp)]; exact e) (q.up h)
  | _, .dic ks xs, _, r, k => by cases r with | dic e l q => unfold W.toD; exact .dic (.inl (by rw [k _ (by simp)]; exact e)) l (q.up h)
  | _, .dit ks xs, _, r, k => by cases r with | dit e l q => unfold W.toD; exact .dit (.inl (by rw [k _ (by simp)]; exact e)) l (q.up h)
  | _, .obj C fs ws, _, r, k => by cases r with | obj c e l q => unfold W.toD; exact .obj c (by rw [k _ (by simp)]; exact e) l (Owns.rep h ws q fun p hp => k p (List.mem_cons_of_mem _ hp))
  | _, .nst ws, _, r, k => by cases r with | nst e q => unfold W.toD; exact .lst (by rw [k _ (by simp)]; exact e) (Owns.rep h ws q fun p hp => k p (List.mem_cons_of_mem _ hp))
  | _, .ntp ws, _, r, k => by cases r with | ntp e q => unfold W.toD; exact .tup (h _ _ e) (Owns.rep h ws q fun p hp => k p hp)
theorem Owns.rep (h : Same S S') : ∀ {vs : List V} (ws : List W) {fp : List Addr}, Owns K S H vs ws fp → (∀ p ∈ fp, S' p = H p) → Reps K S' vs (W.toDs ws)
  | _, [], _, r, k => by cases r; exact .nil
  | _, w :: ws, _, r, k => by cases r with | cons a b => unfold W.toDs; exact .cons (Own.rep h w a fun p hp => k p (List.mem_append_left _ hp)) (Owns.rep h ws b fun p hp => k p (List.mem_append_right _ hp))
end
/-- the stable part with the addresses fp as they are -/
def frz (S H : Hp) (fp : List Addr) : Hp := fun a => if a ∈ fp then H a else S a
theorem frz_same {fp : List Addr} (hn : ∀ p ∈ fp, S p = none) : Same S (frz S H fp) := fun a o e => by
  unfold frz
  rw [if_neg fun z => by rw [hn a z] at e; cases e]
  exact e
theorem frz_sub {fp : List Addr} (h : Same S H) : Same (frz S H fp) H := fun a o e => by
  unfold frz at e
  split at e
  · exact e
  · exact h a o e
theorem frz_at {fp : List Addr} {p : Addr} (hp : p ∈ fp) : frz S H fp p = H p := by unfold frz; rw [if_pos hp]
theorem frz_out {fp : List Addr} {p : Addr} (hp : p ∉ fp) : frz S H fp p = S p := by unfold frz; rw [if_neg hp]
/-- a new thing, made stable -/
theorem Gr.frz {S1 H1 : Hp} (g : Gr S H S1 H1) {fp : List Addr} (hn : ∀ p ∈ fp, H p = none ∧ S1 p = none) : Gr S H (frz S1 H1 fp) H1 where
  ss := g.ss.trans (frz_same fun p hp => (hn p hp).2)
  hh := g.hh
  sub := frz_sub g.sub
  nw := fun a o e => by
    by_cases z : a ∈ fp
    · exact .inr (.inl (hn a z).1)
    · rw [frz_out z] at e; exact g.nw a o e
end
end Ly

set_option Elab.async false
set_option linter.all false
set_option maxRecDepth 100000
namespace Ly
open PySem L2

/-! ### results -/
/-- an exception of an own class: its class, its one field -/
structure Xc where
  cls : Str
  fld : Option (Str × D)
inductive Res (α : Type) where
  | ok (a : α) | ex (x : Xc) | st
def Res.bind {α β : Type} (r : Res α) (f : α → Res β) : Res β := match r with
  | .ok a => f a
  | .ex x => .ex x
  | .st => .st
def Res.map {α β : Type} (f : α → β) (r : Res α) : Res β := r.bind fun a => .ok (f a)
@[simp] theorem Res.bind_ok {α β : Type} (a : α) (f : α → Res β) : (Res.ok a).bind f = f a := rfl
@[simp] theorem Res.bind_ex {α β : Type} (x : Xc) (f : α → Res β) : (Res.ex x : Res α).bind f = .ex x := rfl
@[simp] theorem Res.bind_st {α β : Type} (f : α → Res β) : (Res.st : Res α).bind f = .st := rfl
@[simp] theorem Res.map_ok {α β : Type} (a : α) (f : α → β) : (Res.ok a).map f = .ok (f a) := rfl
@[simp] theorem Res.map_ex {α β : Type} (x : Xc) (f : α → β) : (Res.ex x : Res α).map f = .ex x := rfl
@[simp] theorem Res.map_st {α β : Type} (f : α → β) : (Res.st : Res α).map f = .st := rfl
theorem Res.of_ok {α β : Type} {r : Res α} {f : α → Res β} {b : β} (h : r.bind f = .ok b) : ∃ a, r = .ok a ∧ f a = .ok b := by
  cases r with
  | ok a => exact ⟨a, rfl, h⟩
  | ex x => cases h
  | st => cases h
theorem Res.of_ex {α β : Type} {r : Res α} {f : α → Res β} {x : Xc} (h : r.bind f = .ex x) : r = .ex x ∨ ∃ a, r = .ok a ∧ f a = .ex x := by
  cases r with
  | ok a => exact .inr ⟨a, rfl, h⟩
  | ex y => exact .inl (by cases h; rfl)
  | st => cases h
theorem Res.of_okm {α β : Type} {r : Res α} {f : α → β} {b : β} (h : r.map f = .ok b) : ∃ a, r = .ok a ∧ b = f a := by
  cases r with
  | ok a => exact ⟨a, rfl, by cases h; rfl⟩
  | ex x => cases h
  | st => cases h
theorem Res.of_exm {α β : Type} {r : Res α} {f : α → β} {x : Xc} (h : r.map f = .ex x) : r = .ex x := by
  cases r with
  | ok a => cases h
  | ex y => cases h; rfl
  | st => cases h
/-- how the exception lies -/
def XR (K : PySem.W.Frag) (x : Xc) (cls : Value) (d : Option Addr) (H : Hp) : Prop :=
  (∃ C, IsC K x.cls C ∧ cls = .ref C) ∧ match x.fld with
    | none => d = none
    | some (f, z) => ∃ p v, d = some p ∧ H p = some (.xd [(f, v)]) ∧ Rep K H v z

/-! ### views -/
abbrev En := List (Option W)
structure Vw (K : PySem.W.Frag) (env : En) (σ : L2.St) (S H : Hp) : Prop where
  len : env.length = σ.length
  sub : Same S H
  at_ : ∀ (i : Nat) (w : W), env[i]? = some (some w) → ∃ v fp, σ[i]? = some (some v) ∧ Own K S H v w fp ∧ ∀ p ∈ fp, S p = none
/-- a value whose top may be owned -/
inductive View (K : PySem.W.Frag) (S H : Hp) : V → D → Prop
  | rep {v : V} {d : D} : Rep K S v d → View K S H v d
  | lst {p : Addr} {vs : List V} {xs : List D} : H p = some (.lst vs) → Reps K S vs xs → View K S H (.ref p) (.lst xs)
  | dic {p : Addr} {ks : List Key} {vs : List V} {xs : List D} : Rd H p (.dK (ks.zip vs)) → vs.length = ks.length → Reps K S vs xs → View K S H (.ref p) (.dic ks xs)
  | dit {p : Addr} {ks : List (List Key)} {vs : List V} {xs : List D} : Rd H p (.dT (ks.zip vs)) → vs.length = ks.length → Reps K S vs xs → View K S H (.ref p) (.dit ks xs)
section
variable {K : PySem.W.Frag} {env : En} {σ : L2.St} {S S' H H' : Hp} {v : V} {d : D} {w : W} {fp : List Addr}
theorem Own.gr (o : Own K S H v w fp) (g : Gr S H S' H') : Own K S' H' v w fp := o.carry g.ss w fun p hp => by
  obtain ⟨u, e, _⟩ := isMu_some (Own.there w o p hp)
  rw [e]
  exact g.hh p u e
theorem Own.apart (o : Own K S H v w fp) (g : Gr S H S' H') (h : ∀ p ∈ fp, S p = none) : ∀ p ∈ fp, S' p = none := fun p hp => g.gone (h p hp) (Own.there w o p hp)
theorem Vw.gr (x : Vw K env σ S H) (g : Gr S H S' H') : Vw K env σ S' H' := ⟨x.len, g.sub, fun i w e => by
  obtain ⟨v, fp, a, b, c⟩ := x.at_ i w e
  exact ⟨v, fp, a, b.gr g, b.apart g c⟩⟩
theorem View.gr (x : View K S H v d) (g : Gr S H S' H') : View K S' H' v d := by
  cases x with
  | rep r => exact .rep (r.up g.ss)
  | lst e r => exact .lst (g.hh _ _ e) (r.up g.ss)
  | dic e l r => exact .dic (rd_up g.hh e) l (r.up g.ss)
  | dit e l r => exact .dit (rd_up g.hh e) l (r.up g.ss)
theorem View.toX (x : View K S H v d) (h : Same S H) : Rep K H v d := by
  cases x with
  | rep r => exact r.up h
  | lst e r => exact .lst e (r.up h)
  | dic e l r => exact .dic e l (r.up h)
  | dit e l r => exact .dit e l (r.up h)
theorem View.lst_inv {xs : List D} (x : View K S H v (.lst xs)) (h : Same S H) : ∃ p vs, v = .ref p ∧ H p = some (.lst vs) ∧ Reps K S vs xs := by
  cases x with
  | rep r => cases r with | lst e q => exact ⟨_, _, rfl, h _ _ e, q⟩
  | lst e q => exact ⟨_, _, rfl, e, q⟩
theorem View.dic_inv {ks : List Key} {xs : List D} (x : View K S H v (.dic ks xs)) (h : Same S H) : ∃ p vs, v = .ref p ∧ Rd H p (.dK (ks.zip vs)) ∧ vs.length = ks.length ∧ Reps K S vs xs := by
  cases x with
  | rep r => cases r with | dic e l q => exact ⟨_, _, rfl, rd_up h e, l, q⟩
  | dic e l q => exact ⟨_, _, rfl, e, l, q⟩
theorem View.dit_inv {ks : List (List Key)} {xs : List D} (x : View K S H v (.dit ks xs)) (h : Same S H) : ∃ p vs, v = .ref p ∧ Rd H p (.dT (ks.zip vs)) ∧ vs.length = ks.length ∧ Reps K S vs xs := by
  cases x with
  | rep r => cases r with | dit e l q => exact ⟨_, _, rfl, rd_up h e, l, q⟩
  | dit e l q => exact ⟨_, _, rfl, e, l, q⟩
theorem View.tup_inv {xs : List D} (x : View K S H v (.tup xs)) : ∃ p vs, v = .ref p ∧ S p = some (.tup vs) ∧ Reps K S vs xs := by
  cases x with
  | rep r => cases r with | tup e q => exact ⟨_, _, rfl, e, q⟩
theorem View.ktup_inv {xs : List D} (x : View K S H v (.ktup xs)) : ∃ p vs, v = .ref p ∧ SqT K S p vs ∧ Reps K S vs xs := by
  cases x with
  | rep r => cases r with | ktup e q => exact ⟨_, _, rfl, e, q⟩
theorem View.scr_inv {ns : List Int} (x : View K S H v (.scr ns)) : ∃ p, v = .ref p ∧ SqL K S p (ns.map V.int) := by
  cases x with
  | rep r => cases r with | scr e => exact ⟨_, rfl, e⟩
theorem View.int_inv {i : Int} (x : View K S H v (.int i)) : v = .int i := by
  cases x with
  | rep r => cases r; rfl
theorem View.bl_inv {b : Bool} (x : View K S H v (.bl b)) : v = .bl b := by
  cases x with
  | rep r => cases r; rfl
theorem View.str_inv {z : Str} (x : View K S H v (.str z)) : v = .str z := by
  cases x with
  | rep r => cases r; rfl
theorem View.non_inv (x : View K S H v .non) : v = .non := by
  cases x with
  | rep r => cases r; rfl
theorem View.obj_inv {n : Str} {fs : List Str} {xs : List D} (x : View K S H v (.obj n fs xs)) : ∃ p C dx vs, v = .ref p ∧ IsC K n C ∧ S p = some (.ins C dx (fs.zip vs)) ∧ vs.length = fs.length ∧ Reps K S vs xs := by
  cases x with
  | rep r => cases r with | obj c e l q => exact ⟨_, _, _, _, rfl, c, e, l, q⟩
end

/-! ### expressions -/
/-- what a new value is: w at v with its own new addresses -/
structure New (K : PySem.W.Frag) (S H S' H' : Hp) (v : V) (w : W) (fp : List Addr) : Prop where
  gr : Gr S H S' H'
  own : Own K S' H' v w fp
  nd : fp.Nodup
  new : ∀ p ∈ fp, H p = none ∧ S' p = none
/-- E: the wish for exceptions; F: the slots that are read as they are (an owned one is made stable ahead) -/
class SemE (K : PySem.W.Frag) (E : XK) (t : TE) (F : outParam (List Nat)) (m : outParam (En → Res W)) : Prop where
  ok : ∀ {env σ S H Q w}, Vw K env σ S H → m env = .ok w → (∀ v S' H' fp, New K S H S' H' v w fp → Q v H') → t σ H Q
  ex : ∀ {env σ S H Q x}, Vw K env σ S H → m env = .ex x → (∀ cls d H', Same H H' → XR K x cls d H' → E cls d H') → t σ H Q
class SemV (K : PySem.W.Frag) (E : XK) (t : TE) (F : outParam (List Nat)) (m : outParam (En → Res D)) : Prop where
  ok : ∀ {env σ S H Q d}, Vw K env σ S H → m env = .ok d → (∀ v S' H', Gr S H S' H' → View K S' H' v d → Q v H') → t σ H Q
  ex : ∀ {env σ S H Q x}, Vw K env σ S H → m env = .ex x → (∀ cls d H', Same H H' → XR K x cls d H' → E cls d H') → t σ H Q
class SemX (K : PySem.W.Frag) (E : XK) (t : TE) (F : outParam (List Nat)) (m : outParam (En → Res D)) : Prop where
  ok : ∀ {env σ S H Q d}, Vw K env σ S H → m env = .ok d → (∀ v H', Same H H' → Rep K H' v d → Q v H') → t σ H Q
  ex : ∀ {env σ S H Q x}, Vw K env σ S H → m env = .ex x → (∀ cls d H', Same H H' → XR K x cls d H' → E cls d H') → t σ H Q
class SemT (K : PySem.W.Frag) (E : XK) (t : TT) (F : outParam (List Nat)) (m : outParam (En → Res Bool)) : Prop where
  ok : ∀ {env σ S H Q b}, Vw K env σ S H → m env = .ok b → (∀ H', Same H H' → Q b H') → t σ H Q
  ex : ∀ {env σ S H Q x}, Vw K env σ S H → m env = .ex x → (∀ cls d H', Same H H' → XR K x cls d H' → E cls d H') → t σ H Q
/-- arguments, made stable -/
class SemA (K : PySem.W.Frag) (E : XK) (t : TA) (F : outParam (List Nat)) (m : outParam (En → Res (List D))) : Prop where
  ok : ∀ {env σ S H Q ds}, Vw K env σ S H → m env = .ok ds → (∀ vs S' H', Gr S H S' H' → Reps K S' vs ds → Q vs H') → t σ H Q
  ex : ∀ {env σ S H Q x}, Vw K env σ S H → m env = .ex x → (∀ cls d H', Same H H' → XR K x cls d H' → E cls d H') → t σ H Q
/-- arguments, looked at -/
class SemAX (K : PySem.W.Frag) (E : XK) (t : TA) (F : outParam (List Nat)) (m : outParam (En → Res (List D))) : Prop where
  ok : ∀ {env σ S H Q ds}, Vw K env σ S H → m env = .ok ds → (∀ vs H', Same H H' → Reps K H' vs ds → Q vs H') → t σ H Q
  ex : ∀ {env σ S H Q x}, Vw K env σ S H → m env = .ex x → (∀ cls d H', Same H H' → XR K x cls d H' → E cls d H') → t σ H Q

section
variable {K : PySem.W.Frag} {E : XK} {t ta tb : TE} {F Fa Fb : List Nat} {m ma mb : En → Res W}
theorem New.stable {S H S' H' : Hp} {v : V} {w : W} {fp : List Addr} (n : New K S H S' H' v w fp) : Gr S H (frz S' H' fp) H' ∧ Rep K (frz S' H' fp) v w.toD :=
  ⟨n.gr.frz n.new, n.own.rep (frz_same fun p hp => (n.new p hp).2) w fun p hp => frz_at hp⟩
theorem New.sh {S H S' H' : Hp} {v : V} {d : D} (g : Gr S H S' H') (r : Rep K S' v d) : New K S H S' H' v (.sh d) [] := ⟨g, .sh r, List.nodup_nil, fun p hp => nomatch hp⟩
theorem New.lst {S H S' H' : Hp} {p : Addr} {vs : List V} {xs : List D} (g : Gr S H S' H') (hp : S' p = none) (hn : H' p = none) (r : Reps K S' vs xs) : New K S H S' (upd H' p (.lst vs)) (.ref p) (.lst xs) [p] :=
  ⟨g.trans (.hp g.sub fun a o e => by rw [upd_ne (ne_of_none e hn)]; exact e), .lst upd_same r, by simp, fun q hq => by rw [List.mem_singleton.mp hq]; exact ⟨g.hh.free hn, hp⟩⟩
/-- made stable at once -/
def mD (m : En → Res W) : En → Res D := fun e => (m e).map W.toD
theorem SemE.okD (h : SemE K E t F m) {env : En} {σ : L2.St} {S H : Hp} {Q : VK} {d : D} (x : Vw K env σ S H) (e : mD m env = .ok d) (k : ∀ v S' H', Gr S H S' H' → Rep K S' v d → Q v H') : t σ H Q := by
  obtain ⟨w, e1, rfl⟩ := Res.of_okm e
  exact h.ok x e1 fun v S' H' fp n => k v _ H' n.stable.1 n.stable.2
instance (priority := low) semV_E [h : SemE K E t F m] : SemV K E t F (mD m) where
  ok := fun x e k => h.okD x e fun v S' H' g r => k v S' H' g (.rep r)
  ex := fun x e k => h.ex x (Res.of_exm e) k
instance (priority := low) semX_V {m : En → Res D} [h : SemV K E t F m] : SemX K E t F m where
  ok := fun x e k => h.ok x e fun v S' H' g r => k v H' g.hh (r.toX g.sub)
  ex := fun x e k => h.ex x e k

/-! names, constants -/
def mVar (i : Nat) : En → Res W := fun e => match e[i]? with
  | some (some (.sh d)) => .ok (.sh d)
  | _ => .st
def mVarV (i : Nat) : En → Res D := fun e => match e[i]? with
  | some (some (.obj _ _ _)) => .st
  | some (some (.nst _)) => .st
  | some (some (.ntp _)) => .st
  | some (some w) => .ok w.toD
  | _ => .st
def mVarX (i : Nat) : En → Res D := fun e => match e[i]? with
  | some (some w) => .ok w.toD
  | _ => .st
instance semE_var {i : Nat} : SemE K E (tVar i) [i] (mVar i) where
  ok := fun {env σ S H Q w} x e k => by
    unfold mVar at e
    split at e
    · rename_i d h
      cases e
      obtain ⟨v, fp, a, b, c⟩ := x.at_ _ _ h
      cases b with
      | sh r => exact ⟨v, a, k v S H [] (.sh (.refl x.sub) r)⟩
    · cases e
  ex := fun x e k => by
    unfold mVar at e
    split at e <;> cases e
instance semV_var {i : Nat} : SemV K E (tVar i) [] (mVarV i) where
  ok := fun {env σ S H Q w} x e k => by
    unfold mVarV at e
    split at e
    · cases e
    · cases e
    · cases e
    · rename_i w h1 h2 h3 h
      cases e
      obtain ⟨v, fp, a, b, c⟩ := x.at_ _ _ h
      refine ⟨v, a, k v S H (.refl x.sub) ?_⟩
      cases b with
      | sh r => exact .rep r
      | lst e r => exact .lst e r
      | dic e l r => exact .dic (.inl e) l r
      | dit e l r => exact .dit (.inl e) l r
      | obj _ _ _ _ => exact (h1 _ _ _ rfl).elim
      | nst _ _ => exact (h2 _ rfl).elim
      | ntp _ _ => exact (h3 _ rfl).elim
    · cases e
  ex := fun x e k => by
    unfold mVarV at e
    split at e <;> cases e
instance semX_var {i : Nat} : SemX K E (tVar i) [] (mVarX i) where
  ok := fun {env σ S H Q w} x e k => by
    unfold mVarX at e
    split at e
    · rename_i w h
      cases e
      obtain ⟨v, fp, a, b, c⟩ := x.at_ _ _ h
      exact ⟨v, a, k v H (Same.refl H) (b.rep x.sub w fun p hp => rfl)⟩
    · cases e
  ex := fun x e k => by
    unfold mVarX at e
    split at e <;> cases e
def mK (d : D) : En → Res W := fun _ => .ok (.sh d)
theorem semE_K {v : V} {d : D} (r : ∀ S, Rep K S v d) : SemE K E (tC v) [] (mK d) where
  ok := fun {env σ S H Q w} x e k => by
    cases e
    exact k v S H [] (.sh (.refl x.sub) (r S))
  ex := fun x e k => by cases e
instance semE_int {i : Int} : SemE K E (tC (.int i)) [] (mK (.int i)) := semE_K fun _ => .int i
instance semE_str {i : Str} : SemE K E (tC (.str i)) [] (mK (.str i)) := semE_K fun _ => .str i
instance semE_bl {i : Bool} : SemE K E (tC (.bl i)) [] (mK (.bl i)) := semE_K fun _ => .bl i
instance semE_ty {n : String} : SemE K E (tC (.ty n)) [] (mK (.ty n)) := semE_K fun _ => .ty n
instance semE_non : SemE K E (tC .non) [] (mK .non) := semE_K fun _ => .non

/-! operators: by views; by looks -/
/-- an operator whose result may hold parts of its operands -/
class OpV (K : PySem.W.Frag) (r : R2) (f : outParam (D → D → Res W)) : Prop where
  ok : ∀ {S H v u d e Q w}, Same S H → View K S H v d → View K S H u e → f d e = .ok w → (∀ z S' H' fp, New K S H S' H' z w fp → Q z H') → r v u H Q
  ex : ∀ {d e x}, f d e = .ex x → False
/-- an operator whose result is a number, a text, a truth, None -/
class OpX (K : PySem.W.Frag) (r : R2) (f : outParam (D → D → Res D)) : Prop where
  ok : ∀ {H v u d e Q z}, Rep K H v d → Rep K H u e → f d e = .ok z → (∀ y, (∀ S, Rep K S y z) → Q y H) → r v u H Q
  ex : ∀ {d e x}, f d e = .ex x → False
def mOp (f : D → D → Res W) (ma mb : En → Res D) : En → Res W := fun e => (ma e).bind fun a => (mb e).bind fun b => f a b
def mOpX (f : D → D → Res D) (ma mb : En → Res D) : En → Res W := fun e => (ma e).bind fun a => (mb e).bind fun b => (f a b).map .sh
theorem New.later {S H S1 H1 S' H' : Hp} {v : V} {w : W} {fp : List Addr} (g : Gr S H S1 H1) (n : New K S1 H1 S' H' v w fp) : New K S H S' H' v w fp :=
  ⟨g.trans n.gr, n.own, n.nd, fun p hp => ⟨g.hh.free (n.new p hp).1, (n.new p hp).2⟩⟩
instance semE_op {r : R2} {f : D → D → Res W} {ma mb : En → Res D} [ho : OpV K r f] [ha : SemV K E ta Fa ma] [hb : SemV K E tb Fb mb] : SemE K E (tOp r ta tb) (Fa ++ Fb) (mOp f ma mb) where
  ok := fun {env σ S H Q w} x e k => by
    obtain ⟨a, e1, e⟩ := Res.of_ok e
    obtain ⟨b, e2, e⟩ := Res.of_ok e
    refine ha.ok x e1 fun v S1 H1 g1 r1 => ?_
    refine hb.ok (x.gr g1) e2 fun u S2 H2 g2 r2 => ?_
    exact ho.ok g2.sub (r1.gr g2) r2 e fun z S' H' fp n => k z S' H' fp (n.later (g1.trans g2))
  ex := fun {env σ S H Q w} x e k => by
    rcases Res.of_ex e with e1 | ⟨a, e1, e⟩
    · exact ha.ex x e1 k
    · refine ha.ok x e1 fun v S1 H1 g1 r1 => ?_
      rcases Res.of_ex e with e2 | ⟨b, e2, e⟩
      · exact hb.ex (x.gr g1) e2 fun c d H' s q => k c d H' (g1.hh.trans s) q
      · exact (ho.ex e).elim
instance semE_opX {r : R2} {f : D → D → Res D} {ma mb : En → Res D} [ho : OpX K r f] [ha : SemX K E ta Fa ma] [hb : SemX K E tb Fb mb] : SemE K E (tOp r ta tb) (Fa ++ Fb) (mOpX f ma mb) where
  ok := fun {env σ S H Q w} x e k => by
    obtain ⟨a, e1, e⟩ := Res.of_ok e
    obtain ⟨b, e2, e⟩ := Res.of_ok e
    obtain ⟨z, e3, rfl⟩ := Res.of_okm e
    refine ha.ok x e1 fun v H1 g1 r1 => ?_
    have y1 := Gr.hp x.sub g1
    refine hb.ok (x.gr y1) e2 fun u H2 g2 r2 => ?_
    have y2 := Gr.hp y1.sub g2
    exact ho.ok (r1.up g2) r2 e3 fun y h => k y S H2 [] (.sh (y1.trans y2) (h S))
  ex := fun {env σ S H Q w} x e k => by
    rcases Res.of_ex e with e1 | ⟨a, e1, e⟩
    · exact ha.ex x e1 k
    · refine ha.ok x e1 fun v H1 g1 r1 => ?_
      rcases Res.of_ex e with e2 | ⟨b, e2, e⟩
      · exact hb.ex (x.gr (Gr.hp x.sub g1)) e2 fun c d H' s q => k c d H' (g1.trans s) q
      · exact (ho.ex (Res.of_exm e)).elim

/-! tests -/
def mTest (ma : En → Res D) : En → Res Bool := fun e => (ma e).bind fun d => match d with
  | .bl b => .ok b
  | _ => .st
theorem mTest_ok {ma : En → Res D} {env : En} {b : Bool} (e : mTest ma env = .ok b) : ma env = .ok (.bl b) := by
  obtain ⟨d, e1, e2⟩ := Res.of_ok e
  split at e2
  · cases e2; exact e1
  · cases e2
theorem mTest_ex {ma : En → Res D} {env : En} {x : Xc} (e : mTest ma env = .ex x) : ma env = .ex x := by
  rcases Res.of_ex e with e | ⟨d, _, e2⟩
  · exact e
  · split at e2 <;> cases e2
instance semT_test {ma : En → Res D} [ha : SemX K E ta Fa ma] : SemT K E (tTest ta) Fa (mTest ma) where
  ok := fun x e k => ha.ok x (mTest_ok e) fun v H' g r => by cases r; exact ⟨_, rfl, k H' g⟩
  ex := fun x e k => ha.ex x (mTest_ex e) k
instance semT_B {ma : En → Res D} [ha : SemX K E ta Fa ma] : SemT K E (tB ta) Fa (mTest ma) where
  ok := fun x e k => ha.ok x (mTest_ok e) fun v H' g r => by cases r; exact ⟨_, rfl, k H' g⟩
  ex := fun x e k => ha.ex x (mTest_ex e) k
def mAnd (ma mb : En → Res Bool) : En → Res Bool := fun e => (ma e).bind fun b => if b = true then mb e else .ok false
def mOr (ma mb : En → Res Bool) : En → Res Bool := fun e => (ma e).bind fun b => if b = true then .ok true else mb e
def mNot (ma : En → Res Bool) : En → Res Bool := fun e => (ma e).map (!·)
instance semT_and {t u : TT} {ma mb : En → Res Bool} [ha : SemT K E t Fa ma] [hb : SemT K E u Fb mb] : SemT K E (tAnd t u) (Fa ++ Fb) (mAnd ma mb) where
  ok := fun {env σ S H Q w} x e k => by
    obtain ⟨b, e1, e2⟩ := Res.of_ok e
    refine ha.ok x e1 fun H1 g => ?_
    cases b with
    | true => exact hb.ok (x.gr (Gr.hp x.sub g)) e2 fun H' g' => k H' (g.trans g')
    | false => cases e2; exact k H1 g
  ex := fun {env σ S H Q w} x e k => by
    rcases Res.of_ex e with e1 | ⟨b, e1, e2⟩
    · exact ha.ex x e1 k
    · refine ha.ok x e1 fun H1 g => ?_
      cases b with
      | true => exact hb.ex (x.gr (Gr.hp x.sub g)) e2 fun c d H' s q => k c d H' (g.trans s) q
      | false => cases e2
instance semT_or {t u : TT} {ma mb : En → Res Bool} [ha : SemT K E t Fa ma] [hb : SemT K E u Fb mb] : SemT K E (tOr t u) (Fa ++ Fb) (mOr ma mb) where
  ok := fun {env σ S H Q w} x e k => by
    obtain ⟨b, e1, e2⟩ := Res.of_ok e
    refine ha.ok x e1 fun H1 g => ?_
    cases b with
    | false => exact hb.ok (x.gr (Gr.hp x.sub g)) e2 fun H' g' => k H' (g.trans g')
    | true => cases e2; exact k H1 g
  ex := fun {env σ S H Q w} x e k => by
    rcases Res.of_ex e with e1 | ⟨b, e1, e2⟩
    · exact ha.ex x e1 k
    · refine ha.ok x e1 fun H1 g => ?_
      cases b with
      | false => exact hb.ex (x.gr (Gr.hp x.sub g)) e2 fun c d H' s q => k c d H' (g.trans s) q
      | true => cases e2
instance semT_not {t : TT} {ma : En → Res Bool} [ha : SemT K E t Fa ma] : SemT K E (tNot t) Fa (mNot ma) where
  ok := fun {env σ S H Q w} x e k => by
    obtain ⟨b, e1, rfl⟩ := Res.of_okm e
    exact ha.ok x e1 fun H1 g => k H1 g
  ex := fun {env σ S H Q w} x e k => ha.ex x (Res.of_exm e) k
/-- a value of a test, of and, of or -/
def mBl (m : En → Res Bool) : En → Res W := fun e => (m e).map fun b => .sh (.bl b)
def mAndV (ma mb : En → Res D) : En → Res W := mBl (mAnd (mTest ma) (mTest mb))
def mOrV (ma mb : En → Res D) : En → Res W := mBl (mOr (mTest ma) (mTest mb))
def mNotV (ma : En → Res D) : En → Res W := mBl (mNot (mTest ma))
theorem semE_bl_of {t : TT} {te : TE} {m : En → Res Bool} (h : SemT K E t F m) (hi : ∀ {σ H Q}, t σ H (fun b H' => Q (.bl b) H') → te σ H Q) : SemE K E te F (mBl m) where
  ok := fun {env σ S H Q w} x e k => by
    obtain ⟨b, e1, rfl⟩ := Res.of_okm e
    exact hi (h.ok x e1 fun H1 g => k _ S H1 [] (.sh (.hp x.sub g) (.bl b)))
  ex := fun {env σ S H Q w} x e k => hi (h.ex x (Res.of_exm e) k)
instance semE_andV {ma mb : En → Res D} [ha : SemX K E ta Fa ma] [hb : SemX K E tb Fb mb] : SemE K E (tAndV ta tb) (Fa ++ Fb) (mAndV ma mb) where
  ok := fun {env σ S H Q w} x e k => by
    obtain ⟨b, e1, rfl⟩ := Res.of_okm e
    obtain ⟨c, e2, e3⟩ := Res.of_ok e1
    refine ha.ok x (mTest_ok e2) fun v H1 g r => ?_
    cases r
    refine ⟨c, rfl, ?_⟩
    cases c with
    | true =>
      refine hb.ok (x.gr (Gr.hp x.sub g)) (mTest_ok e3) fun v H2 g2 r => ?_
      cases r
      exact k _ S H2 [] (.sh (.hp x.sub (g.trans g2)) (.bl b))
    | false =>
      cases e3
      exact k _ S H1 [] (.sh (.hp x.sub g) (.bl false))
  ex := fun {env σ S H Q w} x e k => by
    have e1 := Res.of_exm e
    rcases Res.of_ex e1 with e2 | ⟨c, e2, e3⟩
    · exact ha.ex x (mTest_ex e2) k
    · refine ha.ok x (mTest_ok e2) fun v H1 g r => ?_
      cases r
      refine ⟨c, rfl, ?_⟩
      cases c with
      | true => exact hb.ex (x.gr (Gr.hp x.sub g)) (mTest_ex e3) fun c d H' s q => k c d H' (g.trans s) q
      | false => cases e3
instance semE_orV {ma mb : En → Res D} [ha : SemX K E ta Fa ma] [hb : SemX K E tb Fb mb] : SemE K E (tOrV ta tb) (Fa ++ Fb) (mOrV ma mb) where
  ok := fun {env σ S H Q w} x e k => by
    obtain ⟨b, e1, rfl⟩ := Res.of_okm e
    obtain ⟨c, e2, e3⟩ := Res.of_ok e1
    refine ha.ok x (mTest_ok e2) fun v H1 g r => ?_
    cases r
    refine ⟨c, rfl, ?_⟩
    cases c with
    | false =>
      refine hb.ok (x.gr (Gr.hp x.sub g)) (mTest_ok e3) fun v H2 g2 r => ?_
      cases r
      exact k _ S H2 [] (.sh (.hp x.sub (g.trans g2)) (.bl b))
    | true =>
      cases e3
      exact k _ S H1 [] (.sh (.hp x.sub g) (.bl true))
  ex := fun {env σ S H Q w} x e k => by
    have e1 := Res.of_exm e
    rcases Res.of_ex e1 with e2 | ⟨c, e2, e3⟩
    · exact ha.ex x (mTest_ex e2) k
    · refine ha.ok x (mTest_ok e2) fun v H1 g r => ?_
      cases r
      refine ⟨c, rfl, ?_⟩
      cases c with
      | false => exact hb.ex (x.gr (Gr.hp x.sub g)) (mTest_ex e3) fun c d H' s q => k c d H' (g.trans s) q
      | true => cases e3
instance semE_notV {ma : En → Res D} [ha : SemX K E ta Fa ma] : SemE K E (tNotV ta) Fa (mNotV ma) where
  ok := fun {env σ S H Q w} x e k => by
    obtain ⟨b, e1, rfl⟩ := Res.of_okm e
    obtain ⟨c, e2, rfl⟩ := Res.of_okm e1
    refine ha.ok x (mTest_ok e2) fun v H1 g r => ?_
    cases r
    exact ⟨c, rfl, k _ S H1 [] (.sh (.hp x.sub g) (.bl _))⟩
  ex := fun {env σ S H Q w} x e k => ha.ex x (mTest_ex (Res.of_exm (Res.of_exm e))) k
def mIf (mc : En → Res Bool) (ma mb : En → Res W) : En → Res W := fun e => (mc e).bind fun b => if b = true then ma e else mb e
instance semE_if {t : TT} {mc : En → Res Bool} {Fc : List Nat} [hc : SemT K E t Fc mc] [ha : SemE K E ta Fa ma] [hb : SemE K E tb Fb mb] : SemE K E (tIf t ta tb) (Fc ++ Fa ++ Fb) (mIf mc ma mb) where
  ok := fun {env σ S H Q w} x e k => by
    obtain ⟨b, e1, e2⟩ := Res.of_ok e
    refine hc.ok x e1 fun H1 g => ?_
    have y := Gr.hp x.sub g
    cases b with
    | true => exact ha.ok (x.gr y) e2 fun v S' H' fp n => k v S' H' fp (n.later y)
    | false => exact hb.ok (x.gr y) e2 fun v S' H' fp n => k v S' H' fp (n.later y)
  ex := fun {env σ S H Q w} x e k => by
    rcases Res.of_ex e with e1 | ⟨b, e1, e2⟩
    · exact hc.ex x e1 k
    · refine hc.ok x e1 fun H1 g => ?_
      have y := Gr.hp x.sub g
      cases b with
      | true => exact ha.ex (x.gr y) e2 fun c d H' s q => k c d H' (g.trans s) q
      | false => exact hb.ex (x.gr y) e2 fun c d H' s q => k c d H' (g.trans s) q

/-! arguments, displays -/
def mNil : En → Res (List D) := fun _ => .ok []
def mCons (m : En → Res D) (mr : En → Res (List D)) : En → Res (List D) := fun e => (m e).bind fun d => (mr e).map fun ds => d :: ds
instance semA_nil : SemA K E tNil [] mNil where
  ok := fun {env σ S H Q w} x e k => by cases e; exact k [] S H (.refl x.sub) .nil
  ex := fun x e k => by cases e
instance semAX_nil : SemAX K E tNil [] mNil where
  ok := fun {env σ S H Q w} x e k => by cases e; exact k [] H (Same.refl H) .nil
  ex := fun x e k => by cases e
instance semA_cons {tr : TA} {Fr : List Nat} {mr : En → Res (List D)} [ha : SemE K E ta Fa ma] [hr : SemA K E tr Fr mr] : SemA K E (tCons ta tr) (Fa ++ Fr) (mCons (mD ma) mr) where
  ok := fun {env σ S H Q w} x e k => by
    obtain ⟨d, e1, e2⟩ := Res.of_ok e
    obtain ⟨ds, e3, rfl⟩ := Res.of_okm e2
    refine ha.okD x e1 fun v S1 H1 g1 r1 => ?_
    exact hr.ok (x.gr g1) e3 fun vs S2 H2 g2 r2 => k _ S2 H2 (g1.trans g2) (.cons (r1.up g2.ss) r2)
  ex := fun {env σ S H Q w} x e k => by
    rcases Res.of_ex e with e1 | ⟨d, e1, e2⟩
    · exact ha.ex x (Res.of_exm e1) k
    · refine ha.okD x e1 fun v S1 H1 g1 r1 => ?_
      exact hr.ex (x.gr g1) (Res.of_exm e2) fun c d H' s q => k c d H' (g1.hh.trans s) q
instance semAX_cons {tr : TA} {Fr : List Nat} {ma : En → Res D} {mr : En → Res (List D)} [ha : SemX K E ta Fa ma] [hr : SemAX K E tr Fr mr] : SemAX K E (tCons ta tr) (Fa ++ Fr) (mCons ma mr) where
  ok := fun {env σ S H Q w} x e k => by
    obtain ⟨d, e1, e2⟩ := Res.of_ok e
    obtain ⟨ds, e3, rfl⟩ := Res.of_okm e2
    refine ha.ok x e1 fun v H1 g1 r1 => ?_
    exact hr.ok (x.gr (Gr.hp x.sub g1)) e3 fun vs H2 g2 r2 => k _ H2 (g1.trans g2) (.cons (r1.up g2) r2)
  ex := fun {env σ S H Q w} x e k => by
    rcases Res.of_ex e with e1 | ⟨d, e1, e2⟩
    · exact ha.ex x e1 k
    · refine ha.ok x e1 fun v H1 g1 r1 => ?_
      exact hr.ex (x.gr (Gr.hp x.sub g1)) (Res.of_exm e2) fun c d H' s q => k c d H' (g1.trans s) q
def small (n : Nat) : Bool := decide (n ≤ 10000000)
theorem small_line {n : Nat} (h : small n = true) : n < sizeLine := by
  have := of_decide_eq_true h
  rw [sizeLine_eq]
  omega
def mLst (ma : En → Res (List D)) : En → Res W := fun e => (ma e).bind fun ds => if small ds.length then .ok (.lst ds) else .st
def mTup (ma : En → Res (List D)) : En → Res W := fun e => (ma e).bind fun ds => if small ds.length then .ok (.sh (.tup ds)) else .st
instance semE_lst {t : TA} {ma : En → Res (List D)} [ha : SemA K E t Fa ma] : SemE K E (tLst t) Fa (mLst ma) where
  ok := fun {env σ S H Q w} x e k => by
    obtain ⟨ds, e1, e2⟩ := Res.of_ok e
    split at e2
    · rename_i hs
      cases e2
      refine ha.ok x e1 fun vs S1 H1 g r => ⟨by rw [r.len]; exact Nat.le_of_lt (small_line hs), fun p hp => ?_⟩
      have hS : S1 p = none := g.sub.free hp
      exact k _ S1 _ [p] (.lst g hS hp r)
    · cases e2
  ex := fun {env σ S H Q w} x e k => by
    rcases Res.of_ex e with e1 | ⟨d, e1, e2⟩
    · exact ha.ex x e1 k
    · split at e2 <;> cases e2
theorem New.tup {S H S' H' : Hp} {p : Addr} {vs : List V} {xs : List D} (g : Gr S H S' H') (hn : H' p = none) (r : Reps K S' vs xs) : New K S H (upd S' p (.tup vs)) (upd H' p (.tup vs)) (.ref p) (.sh (.tup xs)) [] := by
  have g2 := g.trans (.new (o := .tup vs) g.sub hn)
  exact .sh g2 (.tup upd_same (r.up fun a o q => by rw [upd_ne (ne_of_none q (g.sub.free hn))]; exact q))
instance semE_tup {t : TA} {ma : En → Res (List D)} [ha : SemA K E t Fa ma] : SemE K E (tTup t) Fa (mTup ma) where
  ok := fun {env σ S H Q w} x e k => by
    obtain ⟨ds, e1, e2⟩ := Res.of_ok e
    split at e2
    · rename_i hs
      cases e2
      exact ha.ok x e1 fun vs S1 H1 g r => ⟨by rw [r.len]; exact Nat.le_of_lt (small_line hs), fun p hp => k _ _ _ [] (.tup g hp r)⟩
    · cases e2
  ex := fun {env σ S H Q w} x e k => by
    rcases Res.of_ex e with e1 | ⟨d, e1, e2⟩
    · exact ha.ex x e1 k
    · split at e2 <;> cases e2
end
end Ly

set_option Elab.async false
set_option linter.all false
set_option maxRecDepth 100000
namespace Ly
open PySem L2

/-! ### states of a frame -/
/-- what is told of a frame: the slots whose things are changed in place (i), the slots that keep their value (1000 + i); the values that slots keep -/
structure Fm where
  mu : List Nat
  pins : List (Nat × V)
  ok : ∀ q ∈ pins, mu.contains (1000 + q.1) = true
/-- B: what the caller keeps; S0: the stable part at the entry -/
structure StOk (K : PySem.W.Frag) (f : Fm) (B S0 : Hp) (env : En) (σ : L2.St) (S H : Hp) : Prop where
  len : env.length = σ.length
  pin : ∀ q ∈ f.pins, σ[q.1]? = some (some q.2)
  sub : Same S H
  base : Same B H
  ex0 : Same S0 S
  nw : ∀ a o, S a = some o → S0 a = some o ∨ B a = none ∨ tupO o = true
  own : ∃ fps : Nat → List Addr, (∀ (i : Nat) w, env[i]? = some (some w) → ∃ v, σ[i]? = some (some v) ∧ Own K S H v w (fps i) ∧ (fps i).Nodup) ∧
    (∀ i p, p ∈ fps i → S p = none ∧ B p = none ∧ isMu (H p) = true) ∧ ∀ i j p, p ∈ fps i → p ∈ fps j → i = j
/-- what a def hands back -/
structure RtOk (K : PySem.W.Frag) (B S0 S H : Hp) (v : V) (w : W) (fp : List Addr) : Prop where
  sub : Same S H
  base : Same B H
  ex0 : Same S0 S
  nw : ∀ a o, S a = some o → S0 a = some o ∨ B a = none ∨ tupO o = true
  own : Own K S H v w fp
  nd : fp.Nodup
  new : ∀ p ∈ fp, B p = none ∧ S p = none
section
variable {K : PySem.W.Frag} {f : Fm} {B S0 S S' H H' : Hp} {env : En} {σ : L2.St} {v : V} {w : W} {fp : List Addr}
/-- a slot that may be set anew -/
def free0 (mu : List Nat) (i : Nat) : Bool := !mu.contains (1000 + i)
theorem pin_set {i : Nat} {u : Option V} (h : ∀ q ∈ f.pins, σ[q.1]? = some (some q.2)) (hi : free0 f.mu i = true) : ∀ q ∈ f.pins, (σ.set i u)[q.1]? = some (some q.2) := fun q e => by
  have hm := f.ok q e
  have : i ≠ q.1 := fun z => by
    subst z
    unfold free0 at hi
    rw [hm] at hi
    cases hi
  rw [List.getElem?_set_ne this]
  exact h q e
theorem StOk.vw (x : StOk K f B S0 env σ S H) : Vw K env σ S H := ⟨x.len, x.sub, fun i w e => by
  obtain ⟨fps, h1, h2, _⟩ := x.own
  obtain ⟨v, a, b, _⟩ := h1 i w e
  exact ⟨v, _, a, b, fun p hp => (h2 i p hp).1⟩⟩
theorem StOk.gr (x : StOk K f B S0 env σ S H) (g : Gr S H S' H') : StOk K f B S0 env σ S' H' := by
  obtain ⟨fps, h1, h2, h3⟩ := x.own
  refine ⟨x.len, x.pin, g.sub, x.base.trans g.hh, x.ex0.trans g.ss, fun a o e => ?_, fps, fun i w e => ?_, fun i p hp => ?_, h3⟩
  · rcases g.nw a o e with h | h | h
    · exact x.nw a o h
    · exact .inr (.inl (x.base.free h))
    · exact .inr (.inr h)
  · obtain ⟨v, a, b, c⟩ := h1 i w e
    exact ⟨v, a, b.gr g, c⟩
  · obtain ⟨a, b, c⟩ := h2 i p hp
    obtain ⟨u, e, _⟩ := isMu_some c
    exact ⟨g.gone a c, b, by rw [g.hh p u e, ← e]; exact c⟩
theorem get_set {α : Type} {l : List α} {i j : Nat} {x y : α} (h : (l.set i x)[j]? = some y) : (i = j ∧ y = x ∧ i < l.length) ∨ (i ≠ j ∧ l[j]? = some y) := by
  by_cases e : i = j
  · subst e
    by_cases hl : i < l.length
    · rw [List.getElem?_set_self hl] at h; cases h; exact .inl ⟨rfl, rfl, hl⟩
    · rw [List.getElem?_eq_none (by simpa using hl)] at h; cases h
  · rw [List.getElem?_set_ne e] at h; exact .inr ⟨e, h⟩
/-- a new value is stored -/
theorem StOk.set (x : StOk K f B S0 env σ S H) (n : New K S H S' H' v w fp) (i : Nat) (hi : free0 f.mu i = true) : StOk K f B S0 (env.set i (some w)) (σ.set i (some v)) S' H' := by
  have y := x.gr n.gr
  obtain ⟨fps, h1, h2, h3⟩ := x.own
  obtain ⟨fps', g1, g2, g3⟩ : ∃ fps' : Nat → List Addr, (∀ (i : Nat) w, env[i]? = some (some w) → ∃ v, σ[i]? = some (some v) ∧ Own K S' H' v w (fps' i) ∧ (fps' i).Nodup) ∧
      (∀ i p, p ∈ fps' i → S' p = none ∧ B p = none ∧ isMu (H' p) = true ∧ isMu (H p) = true) ∧ ∀ i j p, p ∈ fps' i → p ∈ fps' j → i = j := by
    refine ⟨fps, fun i w e => ?_, fun i p hp => ?_, h3⟩
    · obtain ⟨v, a, b, c⟩ := h1 i w e
      exact ⟨v, a, b.gr n.gr, c⟩
    · obtain ⟨a, b, c⟩ := h2 i p hp
      obtain ⟨u, e, _⟩ := isMu_some c
      exact ⟨n.gr.gone a c, b, by rw [n.gr.hh p u e, ← e]; exact c, c⟩
  have far : ∀ j p, p ∈ fps' j → p ∈ fp → False := fun j p h h' => by
    have := (g2 j p h).2.2.2
    rw [(n.new p h').1] at this
    cases this
  refine ⟨by rw [List.length_set, List.length_set]; exact y.len, pin_set y.pin hi, y.sub, y.base, y.ex0, y.nw, fun j => if j = i then fp else fps' j, fun j u e => ?_, fun j p hp => ?_, fun j k p hj hk => ?_⟩
  · rcases get_set e with ⟨rfl, e1, hl⟩ | ⟨ne, e1⟩
    · cases e1
      refine ⟨v, List.getElem?_set_self (by rw [← y.len]; exact hl), ?_⟩
      simp only [if_pos]
      exact ⟨n.own, n.nd⟩
    · obtain ⟨z, a, b, c⟩ := g1 j u e1
      refine ⟨z, by rw [List.getElem?_set_ne ne]; exact a, ?_⟩
      simp only [if_neg (Ne.symm ne)]
      exact ⟨b, c⟩
  · by_cases e : j = i
    · simp only [if_pos e] at hp
      exact ⟨(n.new p hp).2, x.base.free (n.new p hp).1, Own.there w n.own p hp⟩
    · simp only [if_neg e] at hp
      obtain ⟨a, b, c, _⟩ := g2 j p hp
      exact ⟨a, b, c⟩
  · by_cases e : j = i
    · by_cases e' : k = i
      · exact e.trans e'.symm
      · simp only [if_pos e, if_neg e'] at hj hk
        exact (far k p hk hj).elim
    · by_cases e' : k = i
      · simp only [if_neg e, if_pos e'] at hj hk
        exact (far j p hj hk).elim
      · simp only [if_neg e, if_neg e'] at hj hk
        exact g3 j k p hj hk
/-- an owned thing is changed -/
theorem StOk.mut {i : Nat} {p : Addr} {o : HO} {u w' : W} (x : StOk K f B S0 env σ S H) (e : env[i]? = some (some u)) (hu : ∀ fq, Own K S H v u fq → fq = [p]) (hv : σ[i]? = some (some v)) (ho : Own K S (upd H p o) v w' [p]) :
    StOk K f B S0 (env.set i (some w')) σ S (upd H p o) := by
  obtain ⟨fps, h1, h2, h3⟩ := x.own
  obtain ⟨v', a, b, c⟩ := h1 i u e
  rw [hv] at a
  cases a
  have ep : fps i = [p] := hu _ b
  obtain ⟨q1, q2, q3⟩ := h2 i p (by rw [ep]; simp)
  have far : ∀ j, j ≠ i → ∀ q ∈ fps j, q ≠ p := fun j hj q hq z => by
    subst z
    exact hj (h3 j i q hq (by rw [ep]; simp))
  refine ⟨by rw [List.length_set]; exact x.len, x.pin, fun a o' z => ?_, fun a o' z => ?_, x.ex0, x.nw, fps, fun j w e' => ?_, fun j q hq => ?_, h3⟩
  · rw [upd_ne (ne_of_none z q1)]; exact x.sub a o' z
  · rw [upd_ne (ne_of_none z q2)]; exact x.base a o' z
  · rcases get_set e' with ⟨rfl, e1, hl⟩ | ⟨ne, e1⟩
    · cases e1
      exact ⟨v, hv, by rw [ep]; exact ho, by rw [ep]; simp⟩
    · obtain ⟨z, a, b', c'⟩ := h1 j w e1
      exact ⟨z, a, b'.carry (Same.refl S) w fun q hq => upd_ne (far j (Ne.symm ne) q hq), c'⟩
  · obtain ⟨a, b', c'⟩ := h2 j q hq
    refine ⟨a, b', ?_⟩
    by_cases z : q = p
    · rw [z]; exact Own.there w' ho p (by simp)
    · rw [upd_ne z]; exact c'
def fz1 (i : Nat) (env : En) : En := match env[i]? with
  | some (some w) => env.set i (some (.sh w.toD))
  | _ => env
def fz : List Nat → En → En
  | [], env => env
  | i :: r, env => fz r (fz1 i env)
theorem StOk.fz1 (x : StOk K f B S0 env σ S H) (i : Nat) : ∃ S', StOk K f B S0 (fz1 i env) σ S' H ∧ Same S S' := by
  unfold Ly.fz1
  split
  · rename_i w e
    obtain ⟨fps, h1, h2, h3⟩ := x.own
    obtain ⟨v, a, b, c⟩ := h1 i w e
    have hn : ∀ p ∈ fps i, S p = none := fun p hp => (h2 i p hp).1
    have ss := frz_same (S := S) (H := H) hn
    refine ⟨frz S H (fps i), ⟨by rw [List.length_set]; exact x.len, x.pin, frz_sub x.sub, x.base, x.ex0.trans ss, fun a o e => ?_, fun j => if j = i then [] else fps j, fun j u e' => ?_, fun j p hp => ?_, fun j k p hj hk => ?_⟩, ss⟩
    · by_cases z : a ∈ fps i
      · exact .inr (.inl (h2 i a z).2.1)
      · rw [frz_out z] at e; exact x.nw a o e
    · rcases get_set e' with ⟨rfl, e1, hl⟩ | ⟨ne, e1⟩
      · cases e1
        refine ⟨v, a, ?_⟩
        simp only [if_pos]
        exact ⟨.sh (b.rep ss w fun p hp => frz_at hp), List.nodup_nil⟩
      · obtain ⟨z, a', b', c'⟩ := h1 j u e1
        refine ⟨z, a', ?_⟩
        simp only [if_neg (Ne.symm ne)]
        exact ⟨b'.carry ss u fun _ _ => rfl, c'⟩
    · by_cases e' : j = i
      · simp only [if_pos e'] at hp; cases hp
      · simp only [if_neg e'] at hp
        obtain ⟨a', b', c'⟩ := h2 j p hp
        exact ⟨by rw [frz_out fun z => e' (h3 j i p hp z)]; exact a', b', c'⟩
    · by_cases e' : j = i
      · simp only [if_pos e'] at hj; cases hj
      · by_cases e'' : k = i
        · simp only [if_pos e''] at hk; cases hk
        · simp only [if_neg e', if_neg e''] at hj hk
          exact h3 j k p hj hk
  · exact ⟨S, x, Same.refl S⟩
theorem StOk.fz : ∀ (F : List Nat) {env : En} {S : Hp}, StOk K f B S0 env σ S H → ∃ S', StOk K f B S0 (fz F env) σ S' H ∧ Same S S'
  | [], _, S, x => ⟨S, x, Same.refl S⟩
  | i :: F, _, S, x => by
    obtain ⟨S1, x1, s1⟩ := x.fz1 i
    obtain ⟨S2, x2, s2⟩ := StOk.fz F x1
    exact ⟨S2, x2, s1.trans s2⟩
end

/-! ### statements -/
inductive Fl where
  | nx (e : En) | rt (w : W) | bk (e : En) | ct (e : En)
def Post (K : PySem.W.Frag) (f : Fm) (B S0 : Hp) (D : Ends) (E : XK) (S : Hp) : Res Fl → Prop
  | .ok (.nx e) => ∀ σ' S' H', StOk K f B S0 e σ' S' H' → Same S S' → D.nx σ' H'
  | .ok (.bk e) => ∀ σ' S' H', StOk K f B S0 e σ' S' H' → Same S S' → D.bk σ' H'
  | .ok (.ct e) => ∀ σ' S' H', StOk K f B S0 e σ' S' H' → Same S S' → D.ct σ' H'
  | .ok (.rt w) => ∀ v S' H' fp, RtOk K B S0 S' H' v w fp → D.rt v H'
  | .ex x => ∀ cls d H', Same B H' → XR K x cls d H' → E cls d H'
  | .st => False
theorem Post.up {K : PySem.W.Frag} {f : Fm} {B S0 S S' : Hp} {D : Ends} {E : XK} {r : Res Fl} (p : Post K f B S0 D E S r) (h : Same S S') : Post K f B S0 D E S' r := by
  cases r with
  | ok r =>
    cases r with
    | nx e => exact fun σ T H' x s => p σ T H' x (h.trans s)
    | bk e => exact fun σ T H' x s => p σ T H' x (h.trans s)
    | ct e => exact fun σ T H' x s => p σ T H' x (h.trans s)
    | rt w => exact p
  | ex x => exact p
  | st => exact p
/-- Mu: the slots whose things are changed in place -/
class SemS (K : PySem.W.Frag) (Mu : List Nat) (E : XK) (t : TS) (m : outParam (En → Res Fl)) : Prop where
  run : ∀ {f B S0 D env σ S H}, f.mu = Mu → StOk K f B S0 env σ S H → Post K f B S0 D E S (m env) → t D σ H
section
variable {K : PySem.W.Frag} {Mu : List Nat} {E : XK} {te : TE} {F : List Nat} {me : En → Res W}
theorem xr_up {B H : Hp} {x : Xc} {P : Value → Option Addr → Hp → Prop} (b : Same B H) (k : ∀ cls d H', Same B H' → XR K x cls d H' → P cls d H') : ∀ cls d H', Same H H' → XR K x cls d H' → P cls d H' := fun c d H' s q => k c d H' (b.trans s) q

def keepW (Mu : List Nat) (i : Nat) (w : W) : W := if Mu.contains i then w else .sh w.toD
def mAsg (Mu F : List Nat) (i : Nat) (me : En → Res W) : En → Res Fl := fun env => if free0 Mu i then (me (fz F env)).map fun w => .nx ((fz F env).set i (some (keepW Mu i w))) else .st
theorem New.sh' {S H S' H' : Hp} {v : V} {w : W} {fp : List Addr} (n : New K S H S' H' v w fp) : New K S H (frz S' H' fp) H' v (.sh w.toD) [] := .sh n.stable.1 n.stable.2
instance semS_asg {i : Nat} [h : SemE K E te F me] : SemS K Mu E (tAsg te (gName i)) (mAsg Mu F i me) where
  run := fun {f B S0 D env σ S H} hm x p => by
    obtain ⟨S1, x1, s1⟩ := x.fz F
    unfold mAsg at p
    split at p
    case isFalse => exact p.elim
    rename_i hi
    rw [← hm] at hi
    cases e : me (fz F env) with
    | ok w =>
      rw [e] at p
      refine h.ok x1.vw e fun v S' H' fp n => ?_
      show D.nx _ _
      unfold keepW at p
      by_cases hm2 : Mu.contains i = true
      · simp only [hm2, if_true] at p
        exact p _ _ _ (x1.set n i hi) (s1.trans n.gr.ss)
      · simp only [hm2, if_false] at p
        exact p _ _ _ (x1.set n.sh' i hi) (s1.trans n.stable.1.ss)
    | ex z =>
      rw [e] at p
      exact h.ex x1.vw e (xr_up x1.base p)
    | st => rw [e] at p; exact p.elim

/-- what a target makes of an item: the slots are ts -/
class SemG (K : PySem.W.Frag) (g : TG) (ts : outParam (List Nat)) (m : outParam (D → En → Res En)) : Prop where
  run : ∀ {f B S0 env σ S H v d Q e}, ts.all (free0 f.mu) = true → StOk K f B S0 env σ S H → Rep K S v d → m d env = .ok e → (∀ σ', StOk K f B S0 e σ' S H → Q σ' H) → g v σ H Q
  vw : ∀ {env σ S H v d Q e}, Vw K env σ S H → Rep K S v d → m d env = .ok e → (∀ σ', Vw K e σ' S H → (∀ vs : List Nat, (∀ i ∈ ts, i ∈ vs) → wipe σ' vs = wipe σ vs) → Q σ' H) → g v σ H Q
  ex : ∀ {d env x}, m d env = .ex x → False
class SemGs (K : PySem.W.Frag) (g : TGs) (ts : outParam (List Nat)) (m : outParam (List D → En → Res En)) : Prop where
  run : ∀ {f B S0 env σ S H vs ds Q e}, ts.all (free0 f.mu) = true → StOk K f B S0 env σ S H → Reps K S vs ds → m ds env = .ok e → (∀ σ', StOk K f B S0 e σ' S H → Q σ' H) → g vs σ H Q
  vw : ∀ {env σ S H us ds Q e}, Vw K env σ S H → Reps K S us ds → m ds env = .ok e → (∀ σ', Vw K e σ' S H → (∀ vs : List Nat, (∀ i ∈ ts, i ∈ vs) → wipe σ' vs = wipe σ vs) → Q σ' H) → g us σ H Q
  ex : ∀ {d env x}, m d env = .ex x → False
theorem wipe_set {σ : L2.St} {i : Nat} {u : Option V} : ∀ {vs : List Nat}, i ∈ vs → wipe (σ.set i u) vs = wipe σ vs
  | [], h => by cases h
  | v :: vs, h => by
    unfold wipe
    by_cases hi : i ∈ vs
    · rw [wipe_set hi]
    · have e : v = i := by
        rcases List.mem_cons.mp h with e | e
        · exact e.symm
        · exact absurd e hi
      subst e
      have : ∀ (vs : List Nat), v ∉ vs → wipe (σ.set v u) vs = (wipe σ vs).set v u := by
        intro vs
        induction vs with
        | nil => intro _; rfl
        | cons a vs ih =>
          intro hn
          unfold wipe
          rw [ih fun z => hn (List.mem_cons_of_mem _ z), List.set_comm _ _ fun z => hn (by rw [z]; exact List.mem_cons_self)]
      rw [this vs hi, List.set_set]
def mName (i : Nat) : D → En → Res En := fun d env => .ok (env.set i (some (.sh d)))
theorem Vw.set {env : En} {σ : L2.St} {S H : Hp} {v : V} {d : D} (x : Vw K env σ S H) (r : Rep K S v d) (i : Nat) : Vw K (env.set i (some (.sh d))) (σ.set i (some v)) S H := ⟨by rw [List.length_set, List.length_set]; exact x.len, x.sub, fun j w e => by
  rcases get_set e with ⟨rfl, e1, hl'⟩ | ⟨ne, e1⟩
  · cases e1
    exact ⟨v, [], List.getElem?_set_self (by rw [← x.len]; exact hl'), .sh r, fun p hp => nomatch hp⟩
  · obtain ⟨z, fp, a, b, c⟩ := x.at_ j w e1
    exact ⟨z, fp, by rw [List.getElem?_set_ne ne]; exact a, b, c⟩⟩
instance semG_name {i : Nat} : SemG K (gName i) [i] (mName i) where
  run := fun hi x r e k => by
    cases e
    exact k _ (x.set (.sh (.refl x.sub) r) i (by simpa using hi))
  vw := fun x r e k => by
    cases e
    exact k _ (x.set r i) fun vs h => wipe_set (h i (by simp))
  ex := fun e => by cases e
def mGNil : List D → En → Res En := fun ds env => match ds with
  | [] => .ok env
  | _ => .st
def mGCons (m : D → En → Res En) (mr : List D → En → Res En) : List D → En → Res En := fun ds env => match ds with
  | d :: ds => (m d env).bind fun e => mr ds e
  | _ => .st
instance semGs_nil : SemGs K gNil [] mGNil where
  run := fun {f B S0 env σ S H vs ds Q e} hi x r e k => by
    cases ds with
    | nil => cases r; cases e; exact ⟨rfl, k _ x⟩
    | cons _ _ => cases e
  vw := fun {env σ S H us ds Q e} x r e k => by
    cases ds with
    | nil => cases r; cases e; exact ⟨rfl, k _ x fun _ _ => rfl⟩
    | cons _ _ => cases e
  ex := fun {d env x} e => by cases d <;> cases e
instance semGs_cons {g : TG} {gr : TGs} {ts tr : List Nat} {m : D → En → Res En} {mr : List D → En → Res En} [hg : SemG K g ts m] [hr : SemGs K gr tr mr] : SemGs K (gCons g gr) (ts ++ tr) (mGCons m mr) where
  run := fun {f B S0 env σ S H vs ds Q e} hi x r e k => by
    cases ds with
    | nil => cases e
    | cons d ds =>
      obtain ⟨e1, h1, h2⟩ := Res.of_ok e
      cases r with
      | cons a b =>
        rw [List.all_append, Bool.and_eq_true] at hi
        exact ⟨_, _, rfl, hg.run hi.1 x a h1 fun σ' y => hr.run hi.2 y b h2 k⟩
  vw := fun {env σ S H us ds Q e} x r e k => by
    cases ds with
    | nil => cases e
    | cons d ds =>
      obtain ⟨e1, h1, h2⟩ := Res.of_ok e
      cases r with
      | cons a b =>
        refine ⟨_, _, rfl, hg.vw x a h1 fun σ' y wp => ?_⟩
        exact hr.vw y b h2 fun σ2 z wq => k σ2 z fun vs hv => (wq vs fun i hi => hv i (List.mem_append_right _ hi)).trans (wp vs fun i hi => hv i (List.mem_append_left _ hi))
  ex := fun {d env x} e => by
    cases d with
    | nil => cases e
    | cons d ds =>
      rcases Res.of_ex e with e | ⟨_, _, e⟩
      · exact hg.ex e
      · exact hr.ex e
def mGTup (n : Nat) (m : List D → En → Res En) : D → En → Res En := fun d env => match d with
  | .tup xs => if xs.length = n then m xs env else .st
  | _ => .st
instance semG_tup {n : Nat} {g : TGs} {ts : List Nat} {m : List D → En → Res En} [hg : SemGs K g ts m] : SemG K (gTup K n g) ts (mGTup n m) where
  run := fun {f B S0 env σ S H v d Q e} hi x r e k => by
    unfold mGTup at e
    split at e
    · rename_i xs
      split at e
      · rename_i hn
        cases r with
        | tup a b => exact ⟨_, _, rfl, SqT.of (x.sub _ _ a), by rw [b.len]; exact hn, hg.run hi x b e k⟩
      · cases e
    · cases e
  vw := fun {env σ S H v d Q e} x r e k => by
    unfold mGTup at e
    split at e
    · rename_i xs
      split at e
      · rename_i hn
        cases r with
        | tup a b => exact ⟨_, _, rfl, SqT.of (x.sub _ _ a), by rw [b.len]; exact hn, hg.vw x b e fun σ' y wp => k σ' y wp⟩
      · cases e
    · cases e
  ex := fun {d env x} e => by
    unfold mGTup at e
    split at e
    · split at e
      · exact hg.ex e
      · cases e
    · cases e
def mAsgT (Mu ts F : List Nat) (me : En → Res W) (mg : D → En → Res En) : En → Res Fl := fun env => if ts.all (free0 Mu) then (mD me (fz F env)).bind fun d => (mg d (fz F env)).map .nx else .st
instance semS_asgT {n : Nat} {g : TGs} {ts : List Nat} {mg : D → En → Res En} [h : SemE K E te F me] [hg : SemG K (gTup K n g) ts mg] : SemS K Mu E (tAsg te (gTup K n g)) (mAsgT Mu ts F me mg) where
  run := fun {f B S0 D env σ S H} hm x p => by
    obtain ⟨S1, x1, s1⟩ := x.fz F
    unfold mAsgT at p
    split at p
    case isFalse => exact p.elim
    rename_i hi
    rw [← hm] at hi
    cases e : mD me (fz F env) with
    | ok d =>
      rw [e] at p
      refine h.okD x1.vw e fun v S' H' g r => ?_
      show gTup K n _ v σ H' D.nx
      cases e2 : mg d (fz F env) with
      | ok e3 =>
        simp only [Res.bind_ok, e2, Res.map_ok] at p
        exact hg.run hi (x1.gr g) r e2 fun σ' y => p _ _ _ y (s1.trans g.ss)
      | ex z => exact (hg.ex e2).elim
      | st => simp only [Res.bind_ok, e2, Res.map_st] at p; exact p.elim
    | ex z =>
      rw [e] at p
      exact h.ex x1.vw (Res.of_exm e) (xr_up x1.base p)
    | st => rw [e] at p; exact p.elim

def mSeq (a b : En → Res Fl) : En → Res Fl := fun env => (a env).bind fun r => match r with
  | .nx e => b e
  | r => .ok r
instance semS_seq {t u : TS} {ma mb : En → Res Fl} [ha : SemS K Mu E t ma] [hb : SemS K Mu E u mb] : SemS K Mu E (tSeq t u) (mSeq ma mb) where
  run := fun {f B S0 D env σ S H} hm x p => by
    refine ha.run hm x ?_
    unfold mSeq at p
    cases e : ma env with
    | ok r =>
      rw [e] at p
      cases r with
      | nx e1 => exact fun σ' S' H' y s => hb.run hm y (p.up s)
      | rt w => exact p
      | bk e1 => exact p
      | ct e1 => exact p
    | ex z => rw [e] at p; exact p
    | st => rw [e] at p; exact p
def mNext : En → Res Fl := fun env => .ok (.nx env)
def mBreak : En → Res Fl := fun env => .ok (.bk env)
def mCont : En → Res Fl := fun env => .ok (.ct env)
instance semS_next : SemS K Mu E tNext mNext where
  run := fun _ x p => p _ _ _ x (Same.refl _)
instance semS_break : SemS K Mu E tBreak mBreak where
  run := fun _ x p => p _ _ _ x (Same.refl _)
instance semS_cont : SemS K Mu E tCont mCont where
  run := fun _ x p => p _ _ _ x (Same.refl _)
def mIfS (F : List Nat) (mc : En → Res Bool) (ma mb : En → Res Fl) : En → Res Fl := fun env => (mc (fz F env)).bind fun b => if b = true then ma (fz F env) else mb (fz F env)
instance semS_if {c : TT} {t u : TS} {mc : En → Res Bool} {ma mb : En → Res Fl} [hc : SemT K E c F mc] [ha : SemS K Mu E t ma] [hb : SemS K Mu E u mb] : SemS K Mu E (tIfS c t u) (mIfS F mc ma mb) where
  run := fun {f B S0 D env σ S H} hm x p => by
    obtain ⟨S1, x1, s1⟩ := x.fz F
    unfold mIfS at p
    cases e : mc (fz F env) with
    | ok b =>
      rw [e] at p
      refine hc.ok x1.vw e fun H' g => ?_
      have y := x1.gr (.hp x1.sub g)
      cases b with
      | true => exact ha.run hm y (p.up s1)
      | false => exact hb.run hm y (p.up s1)
    | ex z =>
      rw [e] at p
      exact hc.ex x1.vw e (xr_up x1.base p)
    | st => rw [e] at p; exact p.elim
def mDrop (F : List Nat) (me : En → Res W) : En → Res Fl := fun env => (me (fz F env)).map fun _ => .nx (fz F env)
instance (priority := low) semS_drop [h : SemE K E te F me] : SemS K Mu E (tDrop te) (mDrop F me) where
  run := fun {f B S0 D env σ S H} hm x p => by
    obtain ⟨S1, x1, s1⟩ := x.fz F
    unfold mDrop at p
    cases e : me (fz F env) with
    | ok w =>
      rw [e] at p
      exact h.ok x1.vw e fun v S' H' fp n => p _ _ _ (x1.gr n.gr) (s1.trans n.gr.ss)
    | ex z => rw [e] at p; exact h.ex x1.vw e (xr_up x1.base p)
    | st => rw [e] at p; exact p.elim
def mRet (F : List Nat) (me : En → Res W) : En → Res Fl := fun env => (me (fz F env)).map .rt
instance semS_ret [h : SemE K E te F me] : SemS K Mu E (tRet te) (mRet F me) where
  run := fun {f B S0 D env σ S H} hm x p => by
    obtain ⟨S1, x1, s1⟩ := x.fz F
    unfold mRet at p
    cases e : me (fz F env) with
    | ok w =>
      rw [e] at p
      refine h.ok x1.vw e fun v S' H' fp n => ?_
      have y := x1.gr n.gr
      exact p v S' H' fp ⟨y.sub, y.base, y.ex0, y.nw, n.own, n.nd, fun q hq => ⟨x1.base.free (n.new q hq).1, (n.new q hq).2⟩⟩
    | ex z => rw [e] at p; exact h.ex x1.vw e (xr_up x1.base p)
    | st => rw [e] at p; exact p.elim
/-- return of a name: what it owns goes along -/
def mRetVar (i : Nat) : En → Res Fl := fun env => match env[i]? with
  | some (some w) => .ok (.rt w)
  | _ => .st
instance semS_retVar {i : Nat} : SemS K Mu E (tRet (tVar i)) (mRetVar i) where
  run := fun {f B S0 D env σ S H} hm x p => by
    unfold mRetVar at p
    split at p
    · rename_i w e
      obtain ⟨fps, h1, h2, _⟩ := x.own
      obtain ⟨v, a, b, c⟩ := h1 i w e
      exact ⟨v, a, p v S H _ ⟨x.sub, x.base, x.ex0, x.nw, b, c, fun q hq => ⟨(h2 i q hq).2.1, (h2 i q hq).1⟩⟩⟩
    · exact p.elim
def mRetN : En → Res Fl := fun _ => .ok (.rt (.sh .non))
instance semS_retN : SemS K Mu E tRetN mRetN where
  run := fun {f B S0 D env σ S H} hm x p => p .non S H [] ⟨x.sub, x.base, x.ex0, x.nw, .sh .non, List.nodup_nil, fun p hp => nomatch hp⟩

/-! ### loops -/
/-- what is walked gives ds, whatever grows meanwhile -/
def JOk (K : PySem.W.Frag) (S0 P0 : Hp) (J : It) (ds : List D) : Prop := ∀ S H, Same S0 S → Same S H → Same P0 H → ∀ i, (∀ d, ds[i]? = some d → J.go i H ∧ ∀ x H', J.yld i H x H' → ∃ S', Gr S H S' H' ∧ Rep K S' x d) ∧ (ds[i]? = none → J.stop i H)
class SemI (K : PySem.W.Frag) (E : XK) (wi : TI) (F : outParam (List Nat)) (m : outParam (En → Res (List D))) : Prop where
  ok : ∀ {env σ S H R ds}, Vw K env σ S H → m env = .ok ds → (∀ J S' H', Gr S H S' H' → JOk K S' S' J ds → R J H') → wi σ H R
  ex : ∀ {env σ S H R x}, Vw K env σ S H → m env = .ex x → (∀ cls d H', Same H H' → XR K x cls d H' → E cls d H') → wi σ H R
def runL (mg : D → En → Res En) (mb : En → Res Fl) : List D → En → Res Fl
  | [], env => .ok (.nx env)
  | d :: ds, env => (mg d env).bind fun e => (mb e).bind fun r => match r with
    | .nx e => runL mg mb ds e
    | .ct e => runL mg mb ds e
    | .bk e => .ok (.nx e)
    | .rt w => .ok (.rt w)
def mFor (Mu ts F : List Nat) (mi : En → Res (List D)) (mg : D → En → Res En) (mb : En → Res Fl) : En → Res Fl := fun env => if ts.all (free0 Mu) then (mi (fz F env)).bind fun ds => runL mg mb ds (fz F env) else .st
instance semS_for {wi : TI} {g : TG} {tb : TS} {ts : List Nat} {mi : En → Res (List D)} {mg : D → En → Res En} {mb : En → Res Fl} [hi : SemI K E wi F mi] [hg : SemG K g ts mg] [hb : SemS K Mu E tb mb] : SemS K Mu E (tFor wi g tb) (mFor Mu ts F mi mg mb) where
  run := fun {f B S0 D env σ S H} hm x p => by
    obtain ⟨S1, x1, s1⟩ := x.fz F
    unfold mFor at p
    split at p
    case isFalse => exact p.elim
    rename_i hts
    rw [← hm] at hts
    cases e : mi (fz F env) with
    | ex z => rw [e] at p; exact hi.ex x1.vw e (xr_up x1.base p)
    | st => rw [e] at p; exact p.elim
    | ok ds =>
      rw [e] at p
      refine hi.ok x1.vw e fun J S2 H2 g2 jok => ?_
      have x2 := x1.gr g2
      have p2 : Post K f B S0 D E S2 (runL mg mb ds (fz F env)) := p.up (s1.trans g2.ss)
      refine ⟨fun i m σ H => m = ds.length - i ∧ ∃ env S, StOk K f B S0 env σ S H ∧ Same S2 S ∧ Post K f B S0 D E S (runL mg mb (ds.drop i) env), ⟨_, rfl, _, S2, x2, Same.refl S2, by rw [List.drop_zero]; exact p2⟩, ?_⟩
      rintro i m σ H ⟨rfl, env, S, x, s, q⟩
      obtain ⟨j1, j2⟩ := jok S H s x.sub (s.trans x.sub) i
      cases hd : ds[i]? with
      | none =>
        have hl : ds.length ≤ i := List.getElem?_eq_none_iff.mp hd
        rw [List.drop_eq_nil_of_le hl] at q
        exact .inl ⟨j2 hd, q σ S H x (Same.refl S)⟩
      | some d =>
        obtain ⟨hlt, hdd⟩ := List.getElem?_eq_some_iff.mp hd
        have hdrop : ds.drop i = d :: ds.drop (i + 1) := by rw [List.drop_eq_getElem_cons hlt, hdd]
        rw [hdrop] at q
        unfold runL at q
        obtain ⟨go, yld⟩ := j1 d hd
        refine .inr ⟨go, fun σ' H' => ∃ env S, StOk K f B S0 env σ' S H' ∧ Same S2 S ∧ Post K f B S0 D E S (runL mg mb (ds.drop (i + 1)) env), fun σ' H' z => ⟨_, by omega, rfl, z⟩, fun y H' hy => ?_⟩
        obtain ⟨S3, g3, r3⟩ := yld y H' hy
        cases eg : mg d env with
        | ex z => exact (hg.ex eg).elim
        | st => rw [eg] at q; exact q.elim
        | ok env' =>
          rw [eg] at q
          refine hg.run hts (x.gr g3) r3 eg fun σ' x4 => ?_
          refine hb.run hm x4 ?_
          have q' := q.up g3.ss
          simp only [Res.bind_ok] at q'
          cases er : mb env' with
          | ex z => rw [er] at q'; exact q'
          | st => rw [er] at q'; exact q'
          | ok r =>
            rw [er] at q'
            cases r with
            | nx e5 => exact fun σ5 S5 H5 x5 s5 => ⟨e5, S5, x5, (s.trans g3.ss).trans s5, Post.up q' s5⟩
            | ct e5 => exact fun σ5 S5 H5 x5 s5 => ⟨e5, S5, x5, (s.trans g3.ss).trans s5, Post.up q' s5⟩
            | bk e5 => exact q'
            | rt w => exact q'
/-! while: by fuel -/
def runW (F : List Nat) (mc : En → Res Bool) (mb : En → Res Fl) : Nat → En → Res Fl
  | 0, _ => .st
  | n + 1, env => (mc (fz F env)).bind fun b => if b = true then (mb (fz F env)).bind fun r => match r with
      | .nx e => runW F mc mb n e
      | .ct e => runW F mc mb n e
      | .bk e => .ok (.nx e)
      | .rt w => .ok (.rt w)
    else .ok (.nx (fz F env))
open Classical in
noncomputable def mWhile (F : List Nat) (mc : En → Res Bool) (mb : En → Res Fl) : En → Res Fl := fun env => if h : ∃ n, runW F mc mb n env ≠ .st then runW F mc mb (Classical.choose h) env else .st
theorem runW_more {F : List Nat} {mc : En → Res Bool} {mb : En → Res Fl} : ∀ (n m : Nat) (env : En), n ≤ m → runW F mc mb n env ≠ .st → runW F mc mb m env = runW F mc mb n env
  | 0, _, _, _, h => (h rfl).elim
  | n + 1, 0, _, hl, _ => by omega
  | n + 1, m + 1, env, hl, h => by
    unfold runW at h ⊢
    cases e : mc (Ly.fz F env) with
    | ex z => rfl
    | st => rfl
    | ok b =>
      rw [e] at h
      cases b with
      | false => rfl
      | true =>
        simp only [Res.bind_ok, if_true] at h ⊢
        cases e2 : mb (Ly.fz F env) with
        | ex z => rfl
        | st => rfl
        | ok r =>
          rw [e2] at h
          cases r with
          | nx e3 => exact runW_more n m e3 (by omega) h
          | ct e3 => exact runW_more n m e3 (by omega) h
          | bk e3 => rfl
          | rt w => rfl
theorem mWhile_of {F : List Nat} {mc : En → Res Bool} {mb : En → Res Fl} {env : En} {r : Res Fl} (n : Nat) (h : runW F mc mb n env = r) (hr : r ≠ .st) : mWhile F mc mb env = r := by
  have hh : ∃ n, runW F mc mb n env ≠ .st := ⟨n, by rw [h]; exact hr⟩
  unfold mWhile
  rw [dif_pos hh]
  have h1 := Classical.choose_spec hh
  rcases Nat.le_total n (Classical.choose hh) with hl | hl
  · rw [runW_more n _ env hl (by rw [h]; exact hr), h]
  · rw [← runW_more _ n env hl h1, h]
theorem Res.ne_st_bind {α β : Type} {r : Res α} {f : α → Res β} (h : r.bind f ≠ .st) : r ≠ .st := fun e => h (by rw [e]; rfl)
instance semS_while {c : TT} {tb : TS} {mc : En → Res Bool} {mb : En → Res Fl} [hc : SemT K E c F mc] [hb : SemS K Mu E tb mb] : SemS K Mu E (tWhile c tb) (mWhile F mc mb) where
  run := fun {f B S0 D env σ S H} hm x p => by
    unfold mWhile at p
    split at p
    · rename_i h
      generalize Classical.choose h = n at p
      refine ⟨fun m σ H => ∃ env S, StOk K f B S0 env σ S H ∧ Post K f B S0 D E S (runW F mc mb m env), ⟨n, env, S, x, p⟩, ?_⟩
      rintro m σ H ⟨env, S, x, p⟩
      cases m with
      | zero => exact p.elim
      | succ m =>
        obtain ⟨S1, x1, s1⟩ := x.fz F
        have q := p.up s1
        unfold runW at q
        cases e : mc (fz F env) with
        | ex z => rw [e] at q; exact hc.ex x1.vw e (xr_up x1.base q)
        | st => rw [e] at q; exact q.elim
        | ok b =>
          rw [e] at q
          refine hc.ok x1.vw e fun H' g => ?_
          have y := x1.gr (.hp x1.sub g)
          cases b with
          | false => exact q σ S1 H' y (Same.refl S1)
          | true =>
            rw [if_pos rfl]
            simp only [Res.bind_ok, if_true] at q
            refine ⟨fun σ' H' => ∃ env S, StOk K f B S0 env σ' S H' ∧ Post K f B S0 D E S (runW F mc mb m env), fun σ' H' z => ⟨m, by omega, z⟩, hb.run hm y ?_⟩
            cases er : mb (fz F env) with
            | ex z => rw [er] at q; exact q
            | st => rw [er] at q; exact q
            | ok r =>
              rw [er] at q
              cases r with
              | nx e5 => exact fun σ5 S5 H5 x5 s5 => ⟨e5, S5, x5, Post.up q s5⟩
              | ct e5 => exact fun σ5 S5 H5 x5 s5 => ⟨e5, S5, x5, Post.up q s5⟩
              | bk e5 => exact q
              | rt w => exact q
    · exact p.elim

/-! ### in place: append -/
def mAppend (F : List Nat) (i : Nat) (ma : En → Res (List D)) : En → Res Fl := fun env => match (fz F env)[i]? with
  | some (some (.lst xs)) => (ma (fz F env)).bind fun ds => match ds with
    | [d] => if small xs.length then .ok (.nx ((fz F env).set i (some (.lst (xs ++ [d]))))) else .st
    | _ => .st
  | _ => .st
instance semS_append {i : Nat} {t : TA} {ma : En → Res (List D)} [h : SemA K E t F ma] : SemS K Mu E (tDrop (tBM K "list" rAppend (tVar i) t)) (mAppend F i ma) where
  run := fun {f B S0 D env σ S H} hm x p => by
    obtain ⟨S1, x1, s1⟩ := x.fz F
    unfold mAppend at p
    split at p
    · rename_i xs e
      obtain ⟨v, fp, a, b, c⟩ := x1.vw.at_ i _ e
      cases b with
      | lst hp hr =>
        refine ⟨_, a, .inl ⟨rfl, _, SqL.of hp⟩, ?_⟩
        cases ea : ma (fz F env) with
        | ex z => rw [ea] at p; exact h.ex x1.vw ea (xr_up x1.base p)
        | st => rw [ea] at p; exact p.elim
        | ok ds =>
          rw [ea] at p
          simp only [Res.bind_ok] at p
          refine h.ok x1.vw ea fun vs S2 H2 g r => ?_
          split at p
          · rename_i d
            split at p
            · rename_i hs
              cases r with
              | cons r1 r2 =>
                cases r2
                have x2 := x1.gr g
                refine ⟨_, _, _, rfl, rfl, g.hh _ _ hp, by rw [hr.len]; exact small_line hs, ?_⟩
                refine p _ _ _ (x2.mut e (fun fq o => ?_) a (.lst upd_same ((hr.up g.ss).app (.cons r1 .nil)))) (s1.trans g.ss)
                cases o; rfl
            · exact p.elim
          · exact p.elim
    · exact p.elim
end
end Ly

set_option Elab.async false
set_option linter.all false
set_option maxRecDepth 100000
namespace Ly
open PySem L2

theorem OpR.or {X : Cx} {f : Value → Value → Sem Value} {r r' : R2} (h : OpR X f r) (h' : OpR X f r') : OpR X f (fun x y H Q => r x y H Q ∨ r' x y H Q) := by
  intro pins s σ H x y v u Q I rx ry q
  rcases q with q | q
  · exact h pins s σ H x y v u Q I rx ry q
  · exact h' pins s σ H x y v u Q I rx ry q

/-! ### data as the library's data; == -/
mutual
def toP : D → PyData
  | .non => .none
  | .bl b => .bool b
  | .int i => .int i
  | .str x => .str x
  | .lst xs => .list (toPs xs)
  | .tup xs => .tuple (toPs xs)
  | .ktup xs => .tuple (toPs xs)
  | .scr ns => .list (ns.map PyData.int)
  | .dic _ _ => .dict []
  | .dit _ _ => .dict []
  | .obj _ _ _ => .dict []
  | .ty _ => .dict []
  | .cls _ => .dict []
def toPs : List D → List PyData
  | [] => []
  | d :: ds => toP d :: toPs ds
end
section
variable {K : PySem.W.Frag} {H : Hp}
theorem DpAll.ints : ∀ ns : List Int, DpAll K H (ns.map V.int) (ns.map PyData.int)
  | [] => .nil
  | n :: ns => .cons (.int n) (DpAll.ints ns)
mutual
theorem Rep.dp : ∀ (d : D) {v : V}, Rep K H v d → (toP d).canLay0 = true → Dp K H v (toP d)
  | .non, _, r, _ => by cases r; unfold toP; exact .non
  | .bl b, _, r, _ => by cases r; unfold toP; exact .bl b
  | .int i, _, r, _ => by cases r; unfold toP; exact .int i
  | .str x, _, r, _ => by cases r; unfold toP; exact .str x
  | .lst xs, _, r, h => by
    unfold toP at h ⊢
    cases r with | lst e q => exact .lst (SqL.of e) (Reps.dp xs q (by simpa only [PyData.canLay0] using h))
  | .tup xs, _, r, h => by
    unfold toP at h ⊢
    cases r with | tup e q => exact .tup (SqT.of e) (Reps.dp xs q (by simpa only [PyData.canLay0] using h))
  | .ktup xs, _, r, h => by
    unfold toP at h ⊢
    cases r with | ktup e q => exact .tup e (Reps.dp xs q (by simpa only [PyData.canLay0] using h))
  | .scr ns, _, r, _ => by
    unfold toP
    cases r with | scr e => exact .lst e (DpAll.ints ns)
  | .dic _ _, _, _, h => by unfold toP at h; simp [PyData.canLay0] at h
  | .dit _ _, _, _, h => by unfold toP at h; simp [PyData.canLay0] at h
  | .obj _ _ _, _, _, h => by unfold toP at h; simp [PyData.canLay0] at h
  | .ty _, _, _, h => by unfold toP at h; simp [PyData.canLay0] at h
  | .cls _, _, _, h => by unfold toP at h; simp [PyData.canLay0] at h
theorem Reps.dp : ∀ (ds : List D) {vs : List V}, Reps K H vs ds → PyData.canLayAll0 (toPs ds) = true → DpAll K H vs (toPs ds)
  | [], _, r, _ => by cases r; unfold toPs; exact .nil
  | d :: ds, _, r, h => by
    unfold toPs at h ⊢
    cases r with
    | cons a b =>
      have h' : (toP d).canLay0 = true ∧ PyData.canLayAll0 (toPs ds) = true := by simpa [PyData.canLayAll0] using h
      exact .cons (Rep.dp d a h'.1) (Reps.dp ds b h'.2)
end
theorem Rep.dpS {d : D} {v : V} (r : Rep K H v d) (h : SeqAt.shaped (toP d) = true) : Dp K H v (toP d) := r.dp d (SeqAt.canLay_of_shaped h)
end
/-- scalars that == tells apart by themselves -/
def scalD : D → D → Option Bool
  | .non, .non => some true
  | .int a, .int b => some (decide (a = b))
  | .str a, .str b => some (decide (a = b))
  | .bl a, .bl b => some (decide (a = b))
  | .non, .int _ => some false | .int _, .non => some false | .non, .bl _ => some false | .bl _, .non => some false | .non, .str _ => some false | .str _, .non => some false
  | .int _, .str _ => some false | .str _, .int _ => some false | .bl _, .str _ => some false | .str _, .bl _ => some false
  | _, _ => none
def eqD (a b : D) : Res Bool := match scalD a b with
  | some t => .ok t
  | none => if SeqAt.shaped (toP a) && SeqAt.shaped (toP b) then .ok (PyData.eqv (toP a) (toP b)) else .st
def rEqU (K : PySem.W.Frag) : R2 := fun x y H Q => rEq x y H Q ∨ rEqD K x y H Q
def rNeU (K : PySem.W.Frag) : R2 := fun x y H Q => rNe x y H Q ∨ rNeD K x y H Q
theorem op_eqU {X : Cx} (hu : X.A.units + 64 < cLine) : OpR X (compareOp .Eq) (rEqU X.K) := OpR.or op_eq (op_eqD hu)
theorem op_neU {X : Cx} (hu : X.A.units + 64 < cLine) : OpR X (compareOp .NotEq) (rNeU X.K) := OpR.or op_ne (op_neD hu)
theorem scalD_ok {K : PySem.W.Frag} {H : Hp} {a b : D} {x y : V} {t : Bool} (rx : Rep K H x a) (ry : Rep K H y b) (h : scalD a b = some t) : scal x y = true ∧ decide (x = y) = t := by
  unfold scalD at h
  split at h <;> first | cases h | skip
  all_goals (cases rx; cases ry; refine ⟨rfl, ?_⟩; simp)
def eqB (a b : D) : Res D := (eqD a b).map .bl
def neB (a b : D) : Res D := (eqD a b).map fun t => .bl (!t)
section
variable {K : PySem.W.Frag}
instance opX_eq : OpX K (rEqU K) eqB where
  ok := fun {H v u d e Q z} rv ru h k => by
    obtain ⟨t, h1, rfl⟩ := Res.of_okm h
    unfold eqD at h1
    split at h1
    · rename_i t' hs
      cases h1
      obtain ⟨a, b⟩ := scalD_ok rv ru hs
      exact .inl ⟨a, by rw [b]; exact k _ fun S => .bl t⟩
    · split at h1
      · rename_i hs
        cases h1
        simp only [Bool.and_eq_true] at hs
        exact .inr ⟨_, _, rv.dpS hs.1, ru.dpS hs.2, hs.1, hs.2, k _ fun S => .bl _⟩
      · cases h1
  ex := fun h => by
    have h1 := Res.of_exm h
    unfold eqD at h1
    split at h1
    · cases h1
    · split at h1 <;> cases h1
instance opX_ne : OpX K (rNeU K) neB where
  ok := fun {H v u d e Q z} rv ru h k => by
    obtain ⟨t, h1, rfl⟩ := Res.of_okm h
    unfold eqD at h1
    split at h1
    · rename_i t' hs
      cases h1
      obtain ⟨a, b⟩ := scalD_ok rv ru hs
      exact .inl ⟨a, by rw [b]; exact k _ fun S => .bl _⟩
    · split at h1
      · rename_i hs
        cases h1
        simp only [Bool.and_eq_true] at hs
        exact .inr ⟨_, _, rv.dpS hs.1, ru.dpS hs.2, hs.1, hs.2, k _ fun S => .bl _⟩
      · cases h1
  ex := fun h => by
    have h1 := Res.of_exm h
    unfold eqD at h1
    split at h1
    · cases h1
    · split at h1 <;> cases h1

/-! ### order -/
def strLt (a b : Str) : Bool := decide (a.cps.toList < b.cps.toList)
def ltD : D → D → Res D
  | .int a, .int b => .ok (.bl (decide (a < b)))
  | .str a, .str b => .ok (.bl (strLt a b))
  | _, _ => .st
def leD : D → D → Res D
  | .int a, .int b => .ok (.bl (decide (a ≤ b)))
  | .str a, .str b => .ok (.bl (!strLt b a))
  | _, _ => .st
def gtD : D → D → Res D
  | .int a, .int b => .ok (.bl (decide (b < a)))
  | .str a, .str b => .ok (.bl (strLt b a))
  | _, _ => .st
def geD : D → D → Res D
  | .int a, .int b => .ok (.bl (decide (b ≤ a)))
  | .str a, .str b => .ok (.bl (!strLt a b))
  | _, _ => .st
def rOrd (f : Int → Int → Bool) (g : Str → Str → Bool) : R2 := fun x y H Q => (∃ i j, x = .int i ∧ y = .int j ∧ Q (.bl (f i j)) H) ∨ ∃ i j, x = .str i ∧ y = .str j ∧ Q (.bl (g i j)) H
def rLtU : R2 := rOrd (fun i j => decide (i < j)) strLt
def rLeU : R2 := rOrd (fun i j => decide (i ≤ j)) fun i j => !strLt j i
def rGtU : R2 := rOrd (fun i j => decide (j < i)) fun i j => strLt j i
def rGeU : R2 := rOrd (fun i j => decide (j ≤ i)) fun i j => !strLt i j
theorem op_ltU {X : Cx} : OpR X (compareOp .Lt) rLtU := OpR.or op_lt op_lt_str
theorem op_leU {X : Cx} : OpR X (compareOp .LtE) rLeU := OpR.or op_le op_le_str
theorem op_gtU {X : Cx} : OpR X (compareOp .Gt) rGtU := OpR.or op_gt op_gt_str
theorem op_geU {X : Cx} : OpR X (compareOp .GtE) rGeU := OpR.or op_ge op_ge_str
instance opX_lt : OpX K rLtU ltD where
  ok := fun {H v u d e Q z} rv ru h k => by
    unfold ltD at h
    split at h <;> first | cases h | skip
    · cases rv; cases ru; exact .inl ⟨_, _, rfl, rfl, k _ fun S => .bl _⟩
    · cases rv; cases ru; exact .inr ⟨_, _, rfl, rfl, k _ fun S => .bl _⟩
  ex := fun h => by unfold ltD at h; split at h <;> cases h
instance opX_le : OpX K rLeU leD where
  ok := fun {H v u d e Q z} rv ru h k => by
    unfold leD at h
    split at h <;> first | cases h | skip
    · cases rv; cases ru; exact .inl ⟨_, _, rfl, rfl, k _ fun S => .bl _⟩
    · cases rv; cases ru; exact .inr ⟨_, _, rfl, rfl, k _ fun S => .bl _⟩
  ex := fun h => by unfold leD at h; split at h <;> cases h
instance opX_gt : OpX K rGtU gtD where
  ok := fun {H v u d e Q z} rv ru h k => by
    unfold gtD at h
    split at h <;> first | cases h | skip
    · cases rv; cases ru; exact .inl ⟨_, _, rfl, rfl, k _ fun S => .bl _⟩
    · cases rv; cases ru; exact .inr ⟨_, _, rfl, rfl, k _ fun S => .bl _⟩
  ex := fun h => by unfold gtD at h; split at h <;> cases h
instance opX_ge : OpX K rGeU geD where
  ok := fun {H v u d e Q z} rv ru h k => by
    unfold geD at h
    split at h <;> first | cases h | skip
    · cases rv; cases ru; exact .inl ⟨_, _, rfl, rfl, k _ fun S => .bl _⟩
    · cases rv; cases ru; exact .inr ⟨_, _, rfl, rfl, k _ fun S => .bl _⟩
  ex := fun h => by unfold geD at h; split at h <;> cases h

/-! ### is None -/
def isNonD : D → Bool
  | .non => true
  | _ => false
def isD (a b : D) : Res D := match b with
  | .non => .ok (.bl (isNonD a))
  | _ => .st
def isntD (a b : D) : Res D := match b with
  | .non => .ok (.bl (!isNonD a))
  | _ => .st
theorem isNon_rep {H : Hp} {v : V} {d : D} (r : Rep K H v d) : decide (v = .non) = isNonD d := by
  cases r <;> simp [isNonD]
instance opX_is : OpX K rIsN isD where
  ok := fun {H v u d e Q z} rv ru h k => by
    unfold isD at h
    split at h
    · cases h
      cases ru
      exact ⟨rfl, by rw [isNon_rep rv]; exact k _ fun S => .bl _⟩
    · cases h
  ex := fun h => by unfold isD at h; split at h <;> cases h
instance opX_isnt : OpX K rNotN isntD where
  ok := fun {H v u d e Q z} rv ru h k => by
    unfold isntD at h
    split at h
    · cases h
      cases ru
      exact ⟨rfl, by rw [isNon_rep rv]; exact k _ fun S => .bl _⟩
    · cases h
  ex := fun h => by unfold isntD at h; split at h <;> cases h

/-! ### numbers, and what is put together -/
def big60 : Int := 10 ^ 60
def subD : D → D → Res D
  | .int a, .int b => .ok (.int (a - b))
  | _, _ => .st
def modD : D → D → Res D
  | .int a, .int b => if 0 < b then .ok (.int (a % b)) else .st
  | _, _ => .st
def fdivD : D → D → Res D
  | .int a, .int b => if 0 < b ∧ b < big60 then .ok (.int (a / b)) else .st
  | _, _ => .st
def powD : D → D → Res D
  | .int a, .int b => if 0 ≤ b ∧ b ≤ 1000000 ∧ -(2 ^ 64) < a ∧ a < 2 ^ 64 then .ok (.int (a ^ b.toNat)) else .st
  | _, _ => .st
def rSubI : R2 := rI0 fun i j => .int (i - j)
def rModI : R2 := rI (fun _ j => 0 < j) fun i j => .int (i % j)
def rFdivI : R2 := rI CDivW fun i j => .int (i / j)
def rPowI : R2 := rI CPow fun i j => .int (i ^ j.toNat)
theorem op_subI {X : Cx} : OpR X (binaryOp .Sub) rSubI := op_sub
theorem op_modI {X : Cx} : OpR X (binaryOp .Mod) rModI := op_mod
theorem op_fdivI {X : Cx} : OpR X (binaryOp .FloorDiv) rFdivI := op_fdivW
theorem op_powI {X : Cx} : OpR X (binaryOp .Pow) rPowI := op_pow
instance opX_sub : OpX K rSubI subD where
  ok := fun {H v u d e Q z} rv ru h k => by
    unfold subD at h
    split at h <;> first | cases h | skip
    cases rv; cases ru; exact ⟨_, _, rfl, rfl, k _ fun S => .int _⟩
  ex := fun h => by unfold subD at h; split at h <;> cases h
instance opX_mod : OpX K rModI modD where
  ok := fun {H v u d e Q z} rv ru h k => by
    unfold modD at h
    split at h <;> first | cases h | skip
    split at h
    · rename_i hc
      cases h; cases rv; cases ru; exact ⟨_, _, rfl, rfl, hc, k _ fun S => .int _⟩
    · cases h
  ex := fun h => by unfold modD at h; split at h <;> first | (split at h <;> cases h) | cases h
theorem fdiv_wide {j : Int} (h : 0 < j ∧ j < big60) : CDivW i j := by
  refine wide_div (b := 200) h.1 ?_ (by decide) (by decide)
  have h2 : j < 2 ^ 200 := Int.lt_trans h.2 (by decide +kernel)
  have : (j.natAbs : Int) < ((2 ^ 200 : Nat) : Int) := by
    rw [Int.natAbs_of_nonneg (Int.le_of_lt h.1)]
    exact_mod_cast h2
  exact_mod_cast this
instance opX_fdiv : OpX K rFdivI fdivD where
  ok := fun {H v u d e Q z} rv ru h k => by
    unfold fdivD at h
    split at h <;> first | cases h | skip
    split at h
    · rename_i hc
      cases h; cases rv; cases ru; exact ⟨_, _, rfl, rfl, fdiv_wide hc, k _ fun S => .int _⟩
    · cases h
  ex := fun h => by unfold fdivD at h; split at h <;> first | (split at h <;> cases h) | cases h
instance opX_pow : OpX K rPowI powD where
  ok := fun {H v u d e Q z} rv ru h k => by
    unfold powD at h
    split at h <;> first | cases h | skip
    split at h
    · rename_i hc
      cases h; cases rv; cases ru; exact ⟨_, _, rfl, rfl, ⟨hc.1, hc.2.1, by omega⟩, k _ fun S => .int _⟩
    · cases h
  ex := fun h => by unfold powD at h; split at h <;> first | (split at h <;> cases h) | cases h
def negD : D → Res D
  | .int a => .ok (.int (-a))
  | _ => .st
def addD : D → D → Res W
  | .int a, .int b => .ok (.sh (.int (a + b)))
  | .str a, .str b => if small (a.length + b.length) then .ok (.sh (.str (a ++ b))) else .st
  | .lst a, .lst b => if small (a.length + b.length) then .ok (.lst (a ++ b)) else .st
  | .tup a, .tup b => if small (a.length + b.length) && !a.isEmpty && !b.isEmpty then .ok (.sh (.tup (a ++ b))) else .st
  | _, _ => .st
def rAddS : R2 := fun x y H Q => ∃ i j, x = .str i ∧ y = .str j ∧ i.length + j.length ≤ sizeLine ∧ Q (.str (i ++ j)) H
def rAddU (K : PySem.W.Frag) : R2 := fun x y H Q => rI0 (fun i j => .int (i + j)) x y H Q ∨ rAddS x y H Q ∨ rCat x y H Q ∨ rCatT K x y H Q
theorem op_addU {X : Cx} : OpR X (binaryOp .Add) (rAddU X.K) := OpR.or op_add (OpR.or op_add_str (OpR.or op_cat op_catT))
theorem small_le {n : Nat} (h : small n = true) : n ≤ sizeLine := Nat.le_of_lt (small_line h)
instance opV_add : OpV K (rAddU K) addD where
  ok := fun {S H v u d e Q w} hs rv ru h k => by
    unfold addD at h
    split at h <;> first | cases h | skip
    · cases rv.int_inv; cases ru.int_inv
      exact .inl ⟨_, _, rfl, rfl, k _ S H [] (.sh (.refl hs) (.int _))⟩
    · split at h <;> first | cases h | skip
      rename_i hz
      cases rv.str_inv; cases ru.str_inv
      exact .inr (.inl ⟨_, _, rfl, rfl, small_le hz, k _ S H [] (.sh (.refl hs) (.str _))⟩)
    · split at h <;> first | cases h | skip
      rename_i a b hz
      obtain ⟨p, vs, rfl, hp, r1⟩ := rv.lst_inv hs
      obtain ⟨q, us, rfl, hq, r2⟩ := ru.lst_inv hs
      exact .inr (.inr (.inl ⟨_, _, _, _, rfl, rfl, hp, hq, by rw [r1.len, r2.len]; exact small_le hz, fun l hl => k _ S _ _ (.lst (.refl hs) (hs.free hl) hl (r1.app r2))⟩))
    · split at h <;> first | cases h | skip
      rename_i a b hz
      simp only [Bool.and_eq_true, Bool.not_eq_true', List.isEmpty_eq_false_iff] at hz
      obtain ⟨p, vs, rfl, hp, r1⟩ := rv.tup_inv
      obtain ⟨q, us, rfl, hq, r2⟩ := ru.tup_inv
      have n1 : vs ≠ [] := fun z => by subst z; cases r1; exact hz.1.2 rfl
      have n2 : us ≠ [] := fun z => by subst z; cases r2; exact hz.2 rfl
      exact .inr (.inr (.inr ⟨_, _, _, _, rfl, rfl, SqT.of (hs _ _ hp), SqT.of (hs _ _ hq), n1, by rw [r1.len, r2.len]; exact small_le hz.1.1, fun z => (n2 z).elim, fun _ l hl => k _ _ _ _ (.tup (.refl hs) hl (r1.app r2))⟩))
  ex := fun h => by
    unfold addD at h
    split at h <;> first | (split at h <;> cases h) | cases h
def mulD : D → D → Res W
  | .int a, .int b => if (-(2 ^ 64) < a ∧ a < 2 ^ 64) ∨ (-(2 ^ 64) < b ∧ b < 2 ^ 64) then .ok (.sh (.int (a * b))) else .st
  | .lst a, .int k => if small (a.length * k.toNat) && decide (-1000000 ≤ k) && decide (k ≤ 1000000) then .ok (.lst (List.replicate k.toNat a).flatten) else .st
  | .str a, .int k => if decide (0 ≤ k) && decide (k ≤ 1000) && decide (a.length ≤ 1000) then .ok (.sh (.str ⟨(List.replicate k.toNat a.cps.toList).flatten.toArray⟩)) else .st
  | _, _ => .st
theorem Reps.flat {S : Hp} {vs : List V} {ds : List D} (r : Reps K S vs ds) : ∀ n : Nat, Reps K S (List.replicate n vs).flatten (List.replicate n ds).flatten
  | 0 => .nil
  | n + 1 => by
    rw [List.replicate_succ, List.replicate_succ, List.flatten_cons, List.flatten_cons]
    exact r.app (Reps.flat r n)
end
end Ly

set_option Elab.async false
set_option linter.all false
set_option maxRecDepth 100000
namespace Ly
open PySem L2

theorem foldl_app (xs : List (Array Nat)) : ∀ acc : Array Nat, (xs.foldl (· ++ ·) acc).toList = acc.toList ++ (xs.map Array.toList).flatten := by
  induction xs with
  | nil => intro acc; simp
  | cons a xs ih => intro acc; rw [List.foldl_cons, ih]; simp
theorem rep_str (x : Str) (n : Nat) : (⟨(List.replicate n x.cps).foldl (· ++ ·) #[]⟩ : Str) = ⟨(List.replicate n x.cps.toList).flatten.toArray⟩ := by
  congr 1
  apply Array.ext'
  rw [foldl_app]
  simp
def rMulS : R2 := fun x y H Q => ∃ z k, x = .str z ∧ y = .int k ∧ 0 ≤ k ∧ k ≤ 1000 ∧ z.length ≤ 1000 ∧ Q (.str ⟨(List.replicate k.toNat z.cps.toList).flatten.toArray⟩) H
theorem op_mulS {X : Cx} : OpR X (binaryOp .Mult) rMulS := by
  intro pins s σ H x y v u Q I rx ry h
  obtain ⟨z, k, rfl, rfl, h0, h1, hz, q⟩ := h
  obtain ⟨t, rfl⟩ := rx
  obtain ⟨t', rfl⟩ := ry
  have hl : z.length * k.toNat ≤ 1000000 := Nat.mul_le_mul hz (by omega : k.toNat ≤ 1000)
  refine PySem.P.mul_str ?_ ?_ ?_ ?_
  · rw [decide_eq_false (by omega), decide_eq_false (by omega)]; rfl
  · intro hk _ hh
    have e1 : (k - 1000) * ((2 ^ 63 - 1) / k) ≤ 0 := Int.mul_nonpos_of_nonpos_of_nonneg (by omega) (Int.ediv_nonneg (by decide) (by omega))
    have e2 := Int.emod_add_mul_ediv (2 ^ 63 - 1) k
    have e3 := Int.emod_lt_of_pos (2 ^ 63 - 1) (by omega : 0 < k)
    rw [Int.sub_mul] at e1
    omega
  · intro _ _
    unfold Builtin.Str.tooLong
    have : sizeLine = 16777216 := sizeLine_eq
    exact decide_eq_false (by omega)
  · split
    · rename_i hk
      have : k = 0 := by omega
      subst this
      exact ⟨by decide, .str _, H, I.tok _, ⟨_, rfl⟩, q⟩
    · split
      · rename_i h2
        simp only [Bool.or_eq_true, beq_iff_eq] at h2
        have e : (⟨(List.replicate k.toNat z.cps.toList).flatten.toArray⟩ : Str) = z := by
          rcases h2 with h2 | h2
          · subst h2
            have : (1 : Int).toNat = 1 := rfl
            rw [this]
            simp
          · have : z.cps = #[] := Array.eq_empty_of_size_eq_zero h2
            obtain ⟨c⟩ := z
            have : c = #[] := this
            subst this
            simp
        rw [e] at q
        exact ⟨.str _, H, I, ⟨_, rfl⟩, q⟩
      · rw [rep_str]
        refine ⟨?_, .str _, H, I.tok _, ⟨_, rfl⟩, q⟩
        show (List.replicate k.toNat z.cps.toList).flatten.toArray.size ≤ sizeLine
        have : sizeLine = 16777216 := sizeLine_eq
        have : (List.replicate k.toNat z.cps.toList).flatten.toArray.size = z.length * k.toNat := by
          simp [List.length_flatten, Str.length, Nat.mul_comm]
        omega

def rMulU (K : PySem.W.Frag) : R2 := fun x y H Q => rI CMul (fun i j => .int (i * j)) x y H Q ∨ rRep x y H Q ∨ rMulS x y H Q
theorem op_mulU {X : Cx} : OpR X (binaryOp .Mult) (rMulU X.K) := OpR.or op_mul (OpR.or op_rep op_mulS)
section
variable {K : PySem.W.Frag}
instance opV_mul : OpV K (rMulU K) mulD where
  ok := fun {S H v u d e Q w} hs rv ru h k => by
    unfold mulD at h
    split at h <;> first | cases h | skip
    · split at h <;> first | cases h | skip
      rename_i hc
      cases rv.int_inv; cases ru.int_inv
      exact .inl ⟨_, _, rfl, rfl, hc, k _ S H [] (.sh (.refl hs) (.int _))⟩
    · split at h <;> first | cases h | skip
      rename_i a z hz
      simp only [Bool.and_eq_true, decide_eq_true_eq] at hz
      obtain ⟨p, vs, rfl, hp, r1⟩ := rv.lst_inv hs
      cases ru.int_inv
      exact .inr (.inl ⟨_, _, _, rfl, rfl, hp, by omega, by omega, by rw [r1.len]; exact small_le hz.1.1, fun l hl => k _ S _ _ (.lst (.refl hs) (hs.free hl) hl (r1.flat _))⟩)
    · split at h <;> first | cases h | skip
      rename_i hz
      simp only [Bool.and_eq_true, decide_eq_true_eq] at hz
      cases rv.str_inv; cases ru.int_inv
      exact .inr (.inr ⟨_, _, rfl, rfl, hz.1.1, hz.1.2, hz.2, k _ S H [] (.sh (.refl hs) (.str _))⟩)
  ex := fun h => by
    unfold mulD at h
    split at h <;> first | (split at h <;> cases h) | cases h

/-! ### in -/
def flatD : D → Bool
  | .non => true | .bl _ => true | .int _ => true | .str _ => true
  | _ => false
/-- == of flat data -/
def eqF : D → D → Bool
  | .non, .non => true
  | .bl a, .bl b => a == b
  | .bl a, .int b => (if a then 1 else 0) == b
  | .int a, .bl b => a == (if b then 1 else 0)
  | .int a, .int b => a == b
  | .str a, .str b => a == b
  | _, _ => false
theorem flat_rep {S : Hp} {v : V} {d : D} (r : Rep K S v d) (h : flatD d = true) : flatV v = true := by
  cases r <;> first | rfl | cases h
theorem eqF_rep {S T : Hp} {v u : V} {d e : D} (r : Rep K S v d) (q : Rep K T u e) (h : flatD d = true) (h' : flatD e = true) : eqV v u = eqF d e := by
  cases r <;> first | cases h | skip
  all_goals (cases q <;> first | rfl | cases h')
theorem flats_rep {S : Hp} : ∀ {vs : List V} {ds : List D}, Reps K S vs ds → ds.all flatD = true → vs.all flatV = true
  | _, _, .nil, _ => rfl
  | _, _, .cons r t, h => by
    rw [List.all_cons, Bool.and_eq_true] at h ⊢
    exact ⟨flat_rep r h.1, flats_rep t h.2⟩
theorem any_rep {S T : Hp} {x : V} {d : D} (rx : Rep K T x d) (hx : flatD d = true) : ∀ {vs : List V} {ds : List D}, Reps K S vs ds → ds.all flatD = true → inV x vs = ds.any fun y => eqF y d
  | _, _, .nil, _ => rfl
  | _, _, .cons r t, h => by
    rw [List.all_cons, Bool.and_eq_true] at h
    unfold inV
    rw [List.any_cons, List.any_cons, eqF_rep r rx h.1 hx]
    congr 1
    exact any_rep rx hx t h.2
def toK : D → Option Key
  | .int i => some (.inl i)
  | .str x => some (.inr x)
  | _ => none
def toKs : List D → Option (List Key)
  | [] => some []
  | d :: ds => (toK d).bind fun k => (toKs ds).map fun ks => k :: ks
theorem toK_rep {S : Hp} {v : V} {d : D} {k : Key} (r : Rep K S v d) (h : toK d = some k) : v = kV k := by
  cases r <;> cases h <;> rfl
theorem toKs_rep {S : Hp} : ∀ {vs : List V} {ds : List D} {ks : List Key}, Reps K S vs ds → toKs ds = some ks → vs = ks.map kV
  | _, _, _, .nil, h => by cases h; rfl
  | _, _, _, .cons r t, h => by
    unfold toKs at h
    obtain ⟨k, h1, h⟩ := Option.bind_eq_some_iff.mp h
    obtain ⟨ks, h2, rfl⟩ := Option.map_eq_some_iff.mp h
    rw [toK_rep r h1, toKs_rep t h2]
    rfl
def dlook {κ : Type} [DecidableEq κ] (ks : List κ) (xs : List D) (k : κ) : Option D := ((ks.zip xs).find? fun p => decide (p.1 = k)).map (·.2)
theorem dlook_rep {κ : Type} [DecidableEq κ] {S : Hp} {k : κ} : ∀ {ks : List κ} {vs : List V} {xs : List D}, Reps K S vs xs → (valV (ks.zip vs) k = none ∧ dlook ks xs k = none) ∨ ∃ v d, valV (ks.zip vs) k = some v ∧ dlook ks xs k = some d ∧ Rep K S v d
  | [], vs, xs, _ => .inl ⟨by simp [valV], by simp [dlook]⟩
  | c :: ks, _, _, .nil => .inl ⟨by simp [valV], by simp [dlook]⟩
  | c :: ks, _, _, .cons (v := v) (d := d) r t => by
    by_cases e : c = k
    · exact .inr ⟨v, d, by simp [valV, e], by simp [dlook, e], r⟩
    · rcases dlook_rep (k := k) (ks := ks) t with ⟨h1, h2⟩ | ⟨v', d', h1, h2, h3⟩
      · refine .inl ⟨?_, ?_⟩
        · rw [← h1]; simp [valV, e]
        · rw [← h2]; simp [dlook, e]
      · refine .inr ⟨v', d', ?_, ?_, h3⟩
        · rw [← h1]; simp [valV, e]
        · rw [← h2]; simp [dlook, e]
/-- the items of what is a sequence -/
def seqD : D → Option (List D)
  | .lst xs => some xs
  | .tup xs => some xs
  | .ktup xs => some xs
  | .scr ns => some (ns.map D.int)
  | _ => none
theorem seqD_rep {H : Hp} {v : V} {d : D} {xs : List D} (r : Rep K H v d) (h : seqD d = some xs) : ∃ p vs, v = .ref p ∧ (SqL K H p vs ∨ SqT K H p vs) ∧ Reps K H vs xs := by
  cases r with
  | lst e q => cases h; exact ⟨_, _, rfl, .inl (SqL.of e), q⟩
  | tup e q => cases h; exact ⟨_, _, rfl, .inr (SqT.of e), q⟩
  | ktup e q => cases h; exact ⟨_, _, rfl, .inr e, q⟩
  | scr e => cases h; exact ⟨_, _, rfl, .inl e, Reps.ints _⟩
  | _ => cases h
def inD (x y : D) : Res Bool := match y with
  | .str z => match x with
    | .str a => match a.cps.toList with
      | [c] => .ok (decide (c ∈ z.cps.toList))
      | _ => .st
    | _ => .st
  | .dic ks xs => match toK x with
    | some k => .ok (dlook ks xs k).isSome
    | none => .st
  | .dit ks xs => match x with
    | .tup ds => match toKs ds with
      | some k => .ok (dlook ks xs k).isSome
      | none => .st
    | _ => .st
  | y => match seqD y with
    | some ds => if flatD x && ds.all flatD then .ok (ds.any fun y => eqF y x) else match y with
      | .lst ds => if SeqAt.shaped (toP x) && SeqAt.shaped (.list (toPs ds)) then .ok ((toPs ds).any fun z => PyData.eqv z (toP x)) else .st
      | _ => .st
    | none => .st
def rDIn (neg : Bool) : R2 := fun y x H Q => ∃ a o, x = .ref a ∧ DGet H a y o ∧ Q (.bl (if neg then !o.isSome else o.isSome)) H
theorem op_dIn {X : Cx} (hu : X.A.units + 1 < cLine) : OpR X (compareOp .In) (rDIn false) := by
  intro pins s σ H x y v u Q I rx ry h
  obtain ⟨a, o, rfl, g, q⟩ := h
  cases ry
  exact d_in hu I g rx fun s' I' => ⟨.bl _, H, I', rfl, q⟩
theorem op_dNotIn {X : Cx} (hu : X.A.units + 1 < cLine) : OpR X (compareOp .NotIn) (rDIn true) := by
  intro pins s σ H x y v u Q I rx ry h
  obtain ⟨a, o, rfl, g, q⟩ := h
  cases ry
  exact d_notIn hu I g rx fun s' I' => ⟨.bl _, H, I', rfl, q⟩
def rInU (K : PySem.W.Frag) : R2 := fun x y H Q => rInS x y H Q ∨ rDIn false x y H Q ∨ rIn K false x y H Q ∨ rInD K x y H Q
def rNotInU (K : PySem.W.Frag) : R2 := fun x y H Q => rNotInS x y H Q ∨ rDIn true x y H Q ∨ rIn K true x y H Q ∨ rNotInD K x y H Q
theorem op_inU {X : Cx} (hu : X.A.units + 65 < cLine) : OpR X (compareOp .In) (rInU X.K) := OpR.or op_inS (OpR.or (op_dIn (by omega)) (OpR.or op_in_seq (op_inD hu)))
theorem op_notInU {X : Cx} (hu : X.A.units + 65 < cLine) : OpR X (compareOp .NotIn) (rNotInU X.K) := OpR.or op_notInS (OpR.or (op_dNotIn (by omega)) (OpR.or op_notIn_seq (op_notInD hu)))
theorem inD_ok {H : Hp} {x y : V} {d e : D} {b : Bool} (rx : Rep K H x d) (ry : Rep K H y e) (h : inD d e = .ok b) :
    (∃ (c : Nat) (z : Str), x = .str ⟨#[c]⟩ ∧ y = .str z ∧ b = decide (c ∈ z.cps.toList)) ∨ (∃ a o, y = .ref a ∧ DGet H a x o ∧ b = o.isSome) ∨
    (∃ p xs, y = .ref p ∧ (SqL K H p xs ∨ SqT K H p xs) ∧ flatV x = true ∧ xs.all flatV = true ∧ b = inV x xs) ∨
    ∃ d ds, Dp K H x d ∧ Dp K H y (.list ds) ∧ SeqAt.shaped d = true ∧ SeqAt.shaped (.list ds) = true ∧ b = ds.any fun z => PyData.eqv z d := by
  unfold inD at h
  split at h
  · rename_i z
    split at h <;> first | cases h | skip
    rename_i a
    split at h <;> first | cases h | skip
    rename_i c hc
    cases rx; cases ry
    refine .inl ⟨c, z, ?_, rfl, rfl⟩
    obtain ⟨⟨l⟩⟩ := a
    simp only at hc
    subst hc
    rfl
  · rename_i ks xs
    split at h <;> first | cases h | skip
    rename_i k hk
    cases ry with
    | dic e l q =>
      refine .inr (.inl ⟨_, _, rfl, .inl ⟨_, k, e, toK_rep rx hk, rfl⟩, ?_⟩)
      rcases dlook_rep (k := k) (ks := ks) q with ⟨h1, h2⟩ | ⟨v', d', h1, h2, _⟩
      · rw [h1, h2]; rfl
      · rw [h1, h2]; rfl
  · rename_i ks xs
    split at h <;> first | cases h | skip
    rename_i ds
    split at h <;> first | cases h | skip
    rename_i k hk
    cases ry with
    | dit e l q =>
      cases rx with
      | tup e2 q2 =>
        refine .inr (.inl ⟨_, _, rfl, .inr ⟨_, k, _, e, rfl, by rw [e2, toKs_rep q2 hk], rfl⟩, ?_⟩)
        rcases dlook_rep (k := k) (ks := ks) q with ⟨h1, h2⟩ | ⟨v', d', h1, h2, _⟩
        · rw [h1, h2]; rfl
        · rw [h1, h2]; rfl
  · split at h
    · rename_i ds hs
      split at h
      · rename_i hf
        cases h
        simp only [Bool.and_eq_true] at hf
        obtain ⟨p, vs, rfl, hq, r⟩ := seqD_rep ry hs
        exact .inr (.inr (.inl ⟨p, vs, rfl, hq, flat_rep rx hf.1, flats_rep r hf.2, (any_rep rx hf.1 r hf.2).symm⟩))
      · split at h
        · rename_i ds' _ _ _
          split at h
          · rename_i hsh
            cases h
            simp only [Bool.and_eq_true] at hsh
            have : toP (.lst ds') = .list (toPs ds') := by unfold toP; rfl
            exact .inr (.inr (.inr ⟨_, _, rx.dpS hsh.1, by rw [← this]; exact ry.dpS (by rw [this]; exact hsh.2), hsh.1, hsh.2, rfl⟩))
          · cases h
        · cases h
    · cases h
theorem inD_ex {d e : D} {x : Xc} (h : inD d e = .ex x) : False := by
  unfold inD at h
  repeat' split at h
  all_goals cases h
def inB (a b : D) : Res D := (inD a b).map .bl
def notInB (a b : D) : Res D := (inD a b).map fun t => .bl (!t)
instance opX_in : OpX K (rInU K) inB where
  ok := fun {H v u d e Q z} rv ru h k => by
    obtain ⟨t, h1, rfl⟩ := Res.of_okm h
    rcases inD_ok rv ru h1 with ⟨c, z, rfl, rfl, e⟩ | ⟨a, o, rfl, g, e⟩ | ⟨p, xs, rfl, hq, f1, f2, e⟩ | ⟨d, ds, h1, h2, s1, s2, e⟩
    · exact .inl ⟨c, z, rfl, rfl, by rw [← e]; exact k _ fun S => .bl _⟩
    · exact .inr (.inl ⟨a, o, rfl, g, by rw [if_neg Bool.false_ne_true, ← e]; exact k _ fun S => .bl _⟩)
    · exact .inr (.inr (.inl ⟨p, xs, rfl, hq, f1, f2, by rw [if_neg Bool.false_ne_true, ← e]; exact k _ fun S => .bl _⟩))
    · exact .inr (.inr (.inr ⟨d, ds, h1, h2, s1, s2, by rw [← e]; exact k _ fun S => .bl _⟩))
  ex := fun h => inD_ex (Res.of_exm h)
instance opX_notIn : OpX K (rNotInU K) notInB where
  ok := fun {H v u d e Q z} rv ru h k => by
    obtain ⟨t, h1, rfl⟩ := Res.of_okm h
    rcases inD_ok rv ru h1 with ⟨c, z, rfl, rfl, e⟩ | ⟨a, o, rfl, g, e⟩ | ⟨p, xs, rfl, hq, f1, f2, e⟩ | ⟨d, ds, h1, h2, s1, s2, e⟩
    · exact .inl ⟨c, z, rfl, rfl, by rw [← e]; exact k _ fun S => .bl _⟩
    · exact .inr (.inl ⟨a, o, rfl, g, by rw [if_pos rfl, ← e]; exact k _ fun S => .bl _⟩)
    · exact .inr (.inr (.inl ⟨p, xs, rfl, hq, f1, f2, by rw [if_pos rfl, ← e]; exact k _ fun S => .bl _⟩))
    · exact .inr (.inr (.inr ⟨d, ds, h1, h2, s1, s2, by rw [← e]; exact k _ fun S => .bl _⟩))
  ex := fun h => inD_ex (Res.of_exm h)

/-! ### a < b < c -/
variable {E : XK} {ta tb tc : TE} {Fa Fb Fc : List Nat} {ma mb mc : En → Res D}
def mChain (f g : D → D → Res D) (ma mb mc : En → Res D) : En → Res W := fun e => (ma e).bind fun a => (mb e).bind fun b => (f a b).bind fun t => match t with
  | .bl true => (mc e).bind fun c => (g b c).map .sh
  | .bl false => .ok (.sh (.bl false))
  | _ => .st
instance semE_chain {r r' : R2} {f g : D → D → Res D} [ho : OpX K r f] [ho' : OpX K r' g] [ha : SemX K E ta Fa ma] [hb : SemX K E tb Fb mb] [hc : SemX K E tc Fc mc] : SemE K E (tChain r r' ta tb tc) (Fa ++ Fb ++ Fc) (mChain f g ma mb mc) where
  ok := fun {env σ S H Q w} x e k => by
    obtain ⟨a, e1, e⟩ := Res.of_ok e
    obtain ⟨b, e2, e⟩ := Res.of_ok e
    obtain ⟨t, e3, e⟩ := Res.of_ok e
    refine ha.ok x e1 fun v H1 g1 r1 => ?_
    have y1 := Gr.hp x.sub g1
    refine hb.ok (x.gr y1) e2 fun u H2 g2 r2 => ?_
    have y2 := y1.trans (Gr.hp y1.sub g2)
    refine ho.ok (r1.up g2) r2 e3 fun z hz => ?_
    split at e
    · obtain ⟨c, e4, e⟩ := Res.of_ok e
      obtain ⟨z2, e5, rfl⟩ := Res.of_okm e
      cases hz H2
      refine ⟨true, rfl, iteT ?_⟩
      refine hc.ok (x.gr y2) e4 fun w' H3 g3 r3 => ?_
      exact ho'.ok (r2.up g3) r3 e5 fun y h => k y S H3 [] (.sh (y2.trans (.hp y2.sub g3)) (h S))
    · cases e
      cases hz H2
      exact ⟨false, rfl, iteF (k _ S H2 [] (.sh y2 (.bl false)))⟩
    · cases e
  ex := fun {env σ S H Q w} x e k => by
    rcases Res.of_ex e with e1 | ⟨a, e1, e⟩
    · exact ha.ex x e1 k
    refine ha.ok x e1 fun v H1 g1 r1 => ?_
    have y1 := Gr.hp x.sub g1
    rcases Res.of_ex e with e2 | ⟨b, e2, e⟩
    · exact hb.ex (x.gr y1) e2 fun c d H' s q => k c d H' (g1.trans s) q
    refine hb.ok (x.gr y1) e2 fun u H2 g2 r2 => ?_
    have y2 := y1.trans (Gr.hp y1.sub g2)
    rcases Res.of_ex e with e3 | ⟨t, e3, e⟩
    · exact (ho.ex e3).elim
    refine ho.ok (r1.up g2) r2 e3 fun z hz => ?_
    split at e
    · cases hz H2
      refine ⟨true, rfl, iteT ?_⟩
      rcases Res.of_ex e with e4 | ⟨c, e4, e⟩
      · exact hc.ex (x.gr y2) e4 fun c d H' s q => k c d H' (y2.hh.trans s) q
      · exact (ho'.ex (Res.of_exm e)).elim
    · cases e
    · cases e
end
end Ly

set_option Elab.async false
set_option linter.all false
set_option maxRecDepth 100000
namespace Ly
open PySem L2 PyProof.Rows

/-! ### subscripts -/
section
variable {K : PySem.W.Frag}
theorem ixN_get {n : Nat} {i : Int} {j : Nat} (h : ixN n i = some j) : j < n := by
  unfold ixN at h
  split at h
  · split at h
    · cases h; omega
    · cases h
  · split at h
    · cases h; omega
    · cases h
theorem atI_rep {S : Hp} {vs : List V} {ds : List D} {i : Int} {d : D} (r : Reps K S vs ds) (h : atI ds i = some d) : ∃ v, atI vs i = some v ∧ Rep K S v d := by
  unfold atI at h ⊢
  rw [r.len]
  obtain ⟨j, h1, h2⟩ := Option.bind_eq_some_iff.mp h
  obtain ⟨v, h3, h4⟩ := r.get h2
  exact ⟨v, by rw [h1]; exact h3, h4⟩
def ixD (a b : D) : Res W := match a, b with
  | .lst xs, .int i => match atI xs i with
    | some d => .ok (.sh d)
    | none => .st
  | .tup xs, .int i => match atI xs i with
    | some d => .ok (.sh d)
    | none => .st
  | .ktup xs, .int i => match atI xs i with
    | some d => .ok (.sh d)
    | none => .st
  | .scr ns, .int i => match atI ns i with
    | some n => .ok (.sh (.int n))
    | none => .st
  | .str z, .int i => if small z.length then match atI z.cps.toList i with
    | some c => .ok (.sh (.str ⟨#[c]⟩))
    | none => .st
    else .st
  | .dic ks xs, k => match toK k with
    | some k => match dlook ks xs k with
      | some d => .ok (.sh d)
      | none => .st
    | none => .st
  | .dit ks xs, .tup k => match toKs k with
    | some k => match dlook ks xs k with
      | some d => .ok (.sh d)
      | none => .st
    | none => .st
  | _, _ => .st
def rIxD : R2 := fun x y H Q => ∃ a v, x = .ref a ∧ DGet H a y (some v) ∧ Q v H
theorem ix_dict {X : Cx} (hu : X.A.units + 1 < cLine) : IxR X rIxD := by
  intro value slice pins s σ H x y v u Q I rx ry h hs
  obtain ⟨a, w, rfl, g, q⟩ := h
  cases rx
  exact tail_any (dict_typeIs I g) PySem.F.slot_dict_getitem.lookup (d_getItem hu I g ry fun w' s' I' r' => ⟨w, H, I', r', q⟩) hs
def rIxU (K : PySem.W.Frag) : R2 := fun x y H Q => rIx K x y H Q ∨ rIxD x y H Q
theorem ix_U {X : Cx} (hu : X.A.units + 1 < cLine) : IxR X (rIxU X.K) := IxR.or ix_seq (ix_dict hu)
theorem atI_map {α β : Type} (f : α → β) (xs : List α) (i : Int) : atI (xs.map f) i = (atI xs i).map f := by
  unfold atI
  rw [List.length_map]
  cases ixN xs.length i with
  | none => rfl
  | some j => simp
instance opV_ix : OpV K (rIxU K) ixD where
  ok := fun {S H v u d e Q w} hs rv ru h k => by
    unfold ixD at h
    split at h
    · split at h <;> first | cases h | skip
      rename_i xs i d hd
      obtain ⟨p, vs, rfl, hp, r⟩ := rv.lst_inv hs
      cases ru.int_inv
      obtain ⟨z, h1, h2⟩ := atI_rep r hd
      exact .inl (.inl ⟨_, _, _, _, rfl, rfl, SqL.of hp, h1, k _ S H [] (.sh (.refl hs) h2)⟩)
    · split at h <;> first | cases h | skip
      rename_i xs i d hd
      obtain ⟨p, vs, rfl, hp, r⟩ := rv.tup_inv
      cases ru.int_inv
      obtain ⟨z, h1, h2⟩ := atI_rep r hd
      exact .inl (.inr (.inl ⟨_, _, _, _, rfl, rfl, SqT.of (hs _ _ hp), h1, k _ S H [] (.sh (.refl hs) h2)⟩))
    · split at h <;> first | cases h | skip
      rename_i xs i d hd
      obtain ⟨p, vs, rfl, hp, r⟩ := rv.ktup_inv
      cases ru.int_inv
      obtain ⟨z, h1, h2⟩ := atI_rep r hd
      exact .inl (.inr (.inl ⟨_, _, _, _, rfl, rfl, sqT_up hs hp, h1, k _ S H [] (.sh (.refl hs) h2)⟩))
    · split at h <;> first | cases h | skip
      rename_i ns i n hd
      obtain ⟨p, rfl, hp⟩ := rv.scr_inv
      cases ru.int_inv
      exact .inl (.inl ⟨_, _, _, .int n, rfl, rfl, hs.seq hp, by rw [atI_map, hd]; rfl, k _ S H [] (.sh (.refl hs) (.int n))⟩)
    · split at h <;> first | cases h | skip
      rename_i z i hz
      split at h <;> first | cases h | skip
      rename_i c hc
      cases rv.str_inv; cases ru.int_inv
      exact .inl (.inr (.inr ⟨_, _, _, rfl, rfl, small_le hz, hc, k _ S H [] (.sh (.refl hs) (.str _))⟩))
    · rename_i ks xs
      split at h <;> first | cases h | skip
      rename_i key hk
      split at h <;> first | cases h | skip
      rename_i d hd
      obtain ⟨p, vs, rfl, hp, hl, r⟩ := rv.dic_inv hs
      rcases dlook_rep (k := key) (ks := ks) r with ⟨h1, h2⟩ | ⟨v', d', h1, h2, h3⟩
      · rw [hd] at h2; cases h2
      · rw [hd] at h2; cases h2
        exact .inr ⟨_, v', rfl, .inl ⟨_, key, hp, toK_rep (ru.toX hs) hk, h1.symm⟩, k _ S H [] (.sh (.refl hs) h3)⟩
    · rename_i ks xs kk
      split at h <;> first | cases h | skip
      rename_i key hk
      split at h <;> first | cases h | skip
      rename_i d hd
      obtain ⟨p, vs, rfl, hp, hl, r⟩ := rv.dit_inv hs
      obtain ⟨q, us, rfl, hq, r2⟩ := ru.tup_inv
      rcases dlook_rep (k := key) (ks := ks) r with ⟨h1, h2⟩ | ⟨v', d', h1, h2, h3⟩
      · rw [hd] at h2; cases h2
      · rw [hd] at h2; cases h2
        exact .inr ⟨_, v', rfl, .inr ⟨_, key, _, hp, rfl, by rw [hs _ _ hq, toKs_rep r2 hk], h1.symm⟩, k _ S H [] (.sh (.refl hs) h3)⟩
    · cases h
  ex := fun h => by
    unfold ixD at h
    repeat' split at h
    all_goals cases h

/-! ### slices -/
class SemO (K : PySem.W.Frag) (E : XK) (t : TO) (F : outParam (List Nat)) (m : outParam (En → Res (Option Int))) : Prop where
  ok : ∀ {env σ S H Q o}, Vw K env σ S H → m env = .ok o → (∀ H', Same H H' → Q o H') → t σ H Q
  ex : ∀ {env σ S H Q x}, Vw K env σ S H → m env = .ex x → (∀ cls d H', Same H H' → XR K x cls d H' → E cls d H') → t σ H Q
def mNoPart : En → Res (Option Int) := fun _ => .ok none
def mPart (m : En → Res D) : En → Res (Option Int) := fun e => (m e).bind fun d => match d with
  | .int i => .ok (some i)
  | _ => .st
instance semO_none {E : XK} : SemO K E tNoPart [] mNoPart where
  ok := fun x e k => by cases e; exact k _ (Same.refl _)
  ex := fun x e k => by cases e
instance semO_some {E : XK} {ta : TE} {Fa : List Nat} {ma : En → Res D} [ha : SemX K E ta Fa ma] : SemO K E (tPart ta) Fa (mPart ma) where
  ok := fun {env σ S H Q o} x e k => by
    obtain ⟨d, e1, e2⟩ := Res.of_ok e
    split at e2
    · cases e2
      exact ha.ok x e1 fun v H' g r => by cases r; exact ⟨_, rfl, k H' g⟩
    · cases e2
  ex := fun {env σ S H Q o} x e k => by
    rcases Res.of_ex e with e1 | ⟨d, e1, e2⟩
    · exact ha.ex x e1 k
    · split at e2 <;> cases e2
def cutD {α : Type} (xs : List α) (lo hi : Option Int) : List α := (xs.drop (HT.sIx xs.length 0 lo)).take (HT.sIx xs.length xs.length hi - HT.sIx xs.length 0 lo)
theorem cut_rep {S : Hp} {vs : List V} {ds : List D} (r : Reps K S vs ds) (lo hi : Option Int) : Reps K S (cutV vs lo hi) (cutD ds lo hi) := by
  unfold cutV cutD
  rw [r.len]
  exact (r.drop _).take _
theorem cut_map {α β : Type} (f : α → β) (xs : List α) (lo hi : Option Int) : cutD (xs.map f) lo hi = (cutD xs lo hi).map f := by
  unfold cutD
  rw [List.length_map, List.map_take, List.map_drop]
def slD (a : D) (lo hi : Option Int) : Res W := match a with
  | .lst xs => .ok (.lst (cutD xs lo hi))
  | .scr ns => .ok (.lst ((cutD ns lo hi).map D.int))
  | .tup xs => if HT.sIx xs.length 0 lo = 0 ∧ HT.sIx xs.length xs.length hi = xs.length then .st else .ok (.sh (.tup (cutD xs lo hi)))
  | .str z => if small z.length then .ok (.sh (.str (cutS z lo hi))) else .st
  | _ => .st
def rSlU (K : PySem.W.Frag) : V → Option Int → Option Int → Hp → VK → Prop := fun x lo hi H Q => rSlL K x lo hi H Q ∨ rSlT K x lo hi H Q ∨ rSlS x lo hi H Q
theorem sl_U {X : Cx} : SlR X (rSlU X.K) := SlR.or sl_list (SlR.or sl_tup sl_str)
def mSl (ma : En → Res D) (ml mh : En → Res (Option Int)) : En → Res W := fun e => (ma e).bind fun a => (ml e).bind fun l => (mh e).bind fun h => slD a l h
theorem slD_ok {S H : Hp} {v : V} {a : D} {lo hi : Option Int} {w : W} {Q : VK} (hs : Same S H) (rv : View K S H v a) (h : slD a lo hi = .ok w) (k : ∀ z S' H' fp, New K S H S' H' z w fp → Q z H') : rSlU K v lo hi H Q := by
  unfold slD at h
  split at h
  · cases h
    obtain ⟨p, vs, rfl, hp, r⟩ := rv.lst_inv hs
    exact .inl ⟨_, _, rfl, SqL.of hp, fun l hl => k _ S _ _ (.lst (.refl hs) (hs.free hl) hl (cut_rep r lo hi))⟩
  · cases h
    obtain ⟨p, rfl, hp⟩ := rv.scr_inv
    refine .inl ⟨_, _, rfl, hs.seq hp, fun l hl => k _ S _ _ (.lst (.refl hs) (hs.free hl) hl ?_)⟩
    rw [show cutV _ lo hi = cutD _ lo hi from rfl, cut_map]
    exact Reps.ints _
  · split at h <;> first | cases h | skip
    rename_i xs hn
    obtain ⟨p, vs, rfl, hp, r⟩ := rv.tup_inv
    exact .inr (.inl ⟨_, _, rfl, SqT.of (hs _ _ hp), by rw [r.len]; exact hn, fun l hl => k _ _ _ _ (.tup (.refl hs) hl (cut_rep r lo hi))⟩)
  · split at h <;> first | cases h | skip
    rename_i z hz
    cases rv.str_inv
    exact .inr (.inr ⟨_, rfl, small_le hz, k _ S H [] (.sh (.refl hs) (.str _))⟩)
  · cases h
theorem slD_ex {a : D} {lo hi : Option Int} {x : Xc} (h : slD a lo hi = .ex x) : False := by
  unfold slD at h
  repeat' split at h
  all_goals cases h
instance semE_sl {E : XK} {ta : TE} {tl th : TO} {Fa Fl Fh : List Nat} {ma : En → Res D} {ml mh : En → Res (Option Int)} [ha : SemV K E ta Fa ma] [hl : SemO K E tl Fl ml] [hh : SemO K E th Fh mh] : SemE K E (tSl (rSlU K) ta tl th) (Fa ++ Fl ++ Fh) (mSl ma ml mh) where
  ok := fun {env σ S H Q w} x e k => by
    obtain ⟨a, e1, e⟩ := Res.of_ok e
    obtain ⟨l, e2, e⟩ := Res.of_ok e
    obtain ⟨h, e3, e⟩ := Res.of_ok e
    refine ha.ok x e1 fun v S1 H1 g1 r1 => ?_
    refine hl.ok (x.gr g1) e2 fun H2 g2 => ?_
    have y2 := Gr.hp g1.sub g2
    refine hh.ok ((x.gr g1).gr y2) e3 fun H3 g3 => ?_
    have y3 := y2.trans (.hp y2.sub g3)
    exact slD_ok y3.sub (r1.gr y3) e fun z S' H' fp n => k z S' H' fp (n.later (g1.trans y3))
  ex := fun {env σ S H Q w} x e k => by
    rcases Res.of_ex e with e1 | ⟨a, e1, e⟩
    · exact ha.ex x e1 k
    refine ha.ok x e1 fun v S1 H1 g1 r1 => ?_
    rcases Res.of_ex e with e2 | ⟨l, e2, e⟩
    · exact hl.ex (x.gr g1) e2 fun c d H' s q => k c d H' (g1.hh.trans s) q
    refine hl.ok (x.gr g1) e2 fun H2 g2 => ?_
    have y2 := Gr.hp g1.sub g2
    rcases Res.of_ex e with e3 | ⟨h, e3, e⟩
    · exact hh.ex ((x.gr g1).gr y2) e3 fun c d H' s q => k c d H' ((g1.hh.trans g2).trans s) q
    exact (slD_ex e).elim

/-! ### built-in calls -/
inductive Views (K : PySem.W.Frag) (S H : Hp) : List V → List D → Prop
  | nil : Views K S H [] []
  | cons {v : V} {vs : List V} {d : D} {ds : List D} : View K S H v d → Views K S H vs ds → Views K S H (v :: vs) (d :: ds)
theorem Views.gr {S H S' H' : Hp} (g : Gr S H S' H') : ∀ {vs : List V} {ds : List D}, Views K S H vs ds → Views K S' H' vs ds
  | _, _, .nil => .nil
  | _, _, .cons a b => .cons (a.gr g) (Views.gr g b)
class SemAV (K : PySem.W.Frag) (E : XK) (t : TA) (F : outParam (List Nat)) (m : outParam (En → Res (List D))) : Prop where
  ok : ∀ {env σ S H Q ds}, Vw K env σ S H → m env = .ok ds → (∀ vs S' H', Gr S H S' H' → Views K S' H' vs ds → Q vs H') → t σ H Q
  ex : ∀ {env σ S H Q x}, Vw K env σ S H → m env = .ex x → (∀ cls d H', Same H H' → XR K x cls d H' → E cls d H') → t σ H Q
instance semAV_nil {E : XK} : SemAV K E tNil [] mNil where
  ok := fun {env σ S H Q w} x e k => by cases e; exact k [] S H (.refl x.sub) .nil
  ex := fun x e k => by cases e
instance semAV_cons {E : XK} {ta : TE} {tr : TA} {Fa Fr : List Nat} {ma : En → Res D} {mr : En → Res (List D)} [ha : SemV K E ta Fa ma] [hr : SemAV K E tr Fr mr] : SemAV K E (tCons ta tr) (Fa ++ Fr) (mCons ma mr) where
  ok := fun {env σ S H Q w} x e k => by
    obtain ⟨d, e1, e2⟩ := Res.of_ok e
    obtain ⟨ds, e3, rfl⟩ := Res.of_okm e2
    refine ha.ok x e1 fun v S1 H1 g1 r1 => ?_
    exact hr.ok (x.gr g1) e3 fun vs S2 H2 g2 r2 => k _ S2 H2 (g1.trans g2) (.cons (r1.gr g2) r2)
  ex := fun {env σ S H Q w} x e k => by
    rcases Res.of_ex e with e1 | ⟨d, e1, e2⟩
    · exact ha.ex x e1 k
    · refine ha.ok x e1 fun v S1 H1 g1 r1 => ?_
      exact hr.ex (x.gr g1) (Res.of_exm e2) fun c d H' s q => k c d H' (g1.hh.trans s) q
class CalV (K : PySem.W.Frag) (r : List V → Hp → VK → Prop) (f : outParam (List D → Res W)) : Prop where
  ok : ∀ {S H vs ds Q w}, Same S H → Views K S H vs ds → f ds = .ok w → (∀ z S' H' fp, New K S H S' H' z w fp → Q z H') → r vs H Q
  ex : ∀ {ds x}, f ds = .ex x → False
def mCal (f : List D → Res W) (ma : En → Res (List D)) : En → Res W := fun e => (ma e).bind f
instance semE_cal {E : XK} {r : List V → Hp → VK → Prop} {f : List D → Res W} {t : TA} {Fa : List Nat} {ma : En → Res (List D)} [hf : CalV K r f] [ha : SemAV K E t Fa ma] : SemE K E (tCB r t) Fa (mCal f ma) where
  ok := fun {env σ S H Q w} x e k => by
    obtain ⟨ds, e1, e2⟩ := Res.of_ok e
    exact ha.ok x e1 fun vs S1 H1 g r => hf.ok g.sub r e2 fun z S' H' fp n => k z S' H' fp (n.later g)
  ex := fun {env σ S H Q w} x e k => by
    rcases Res.of_ex e with e1 | ⟨d, e1, e2⟩
    · exact ha.ex x e1 k
    · exact (hf.ex e2).elim
theorem CallR.or {X : Cx} {f : Value} {r r' : List V → Hp → VK → Prop} (h : CallR X f r) (h' : CallR X f r') : CallR X f (fun xs H Q => r xs H Q ∨ r' xs H Q) := by
  intro pins s σ H xs us Q I r q
  rcases q with q | q
  · exact h pins s σ H xs us Q I r q
  · exact h' pins s σ H xs us Q I r q
theorem views1 {S H : Hp} {vs : List V} {d : D} (r : Views K S H vs [d]) : ∃ v, vs = [v] ∧ View K S H v d := by
  cases r with
  | cons a b => cases b; exact ⟨_, rfl, a⟩
theorem views2 {S H : Hp} {vs : List V} {d e : D} (r : Views K S H vs [d, e]) : ∃ v u, vs = [v, u] ∧ View K S H v d ∧ View K S H u e := by
  cases r with
  | cons a b =>
    cases b with
    | cons c b => cases b; exact ⟨_, _, rfl, a, c⟩
/-! len -/
def rLen (K : PySem.W.Frag) : List V → Hp → VK → Prop := fun xs H Q => (∃ x n, xs = [x] ∧ LenV K x H n ∧ Q (.int n) H) ∨ ∃ a kvs, xs = [V.ref a] ∧ Rd H a (.dK kvs) ∧ Q (.int kvs.length) H
theorem call_lenRd {X : Cx} : CallR X (.builtin "len") (fun xs H Q => ∃ a kvs, xs = [V.ref a] ∧ Rd H a (.dK kvs) ∧ Q (.int kvs.length) H) := by
  intro pins s σ H xs us Q I r h
  obtain ⟨a, kvs, rfl, ha, q⟩ := h
  obtain ⟨u, rfl, ru⟩ := vals1 r
  cases ru
  exact d_len I ha fun t s' I' => ⟨.int kvs.length, H, I', ⟨t, rfl⟩, q⟩
theorem call_lenU {X : Cx} : CallR X (.builtin "len") (rLen X.K) := CallR.or call_len call_lenRd
def lenD : List D → Res W
  | [.str z] => if small z.length then .ok (.sh (.int z.length)) else .st
  | [.lst xs] => .ok (.sh (.int xs.length))
  | [.tup xs] => .ok (.sh (.int xs.length))
  | [.ktup xs] => .ok (.sh (.int xs.length))
  | [.scr xs] => .ok (.sh (.int xs.length))
  | [.dic ks xs] => .ok (.sh (.int ks.length))
  | _ => .st
instance calV_len : CalV K (rLen K) lenD where
  ok := fun {S H vs ds Q w} hs r h k => by
    unfold lenD at h
    split at h <;> first | cases h | skip
    · split at h <;> first | cases h | skip
      rename_i hz
      obtain ⟨v, rfl, r1⟩ := views1 r
      cases r1.str_inv
      exact .inl ⟨_, _, rfl, ⟨small_le hz, rfl⟩, k _ S H [] (.sh (.refl hs) (.int _))⟩
    · obtain ⟨v, rfl, r1⟩ := views1 r
      obtain ⟨p, us, rfl, hp, q⟩ := r1.lst_inv hs
      exact .inl ⟨_, _, rfl, .inl ⟨_, SqL.of hp, q.len.symm⟩, k _ S H [] (.sh (.refl hs) (.int _))⟩
    · obtain ⟨v, rfl, r1⟩ := views1 r
      obtain ⟨p, us, rfl, hp, q⟩ := r1.tup_inv
      exact .inl ⟨_, _, rfl, .inr ⟨_, SqT.of (hs _ _ hp), q.len.symm⟩, k _ S H [] (.sh (.refl hs) (.int _))⟩
    · obtain ⟨v, rfl, r1⟩ := views1 r
      obtain ⟨p, us, rfl, hp, q⟩ := r1.ktup_inv
      exact .inl ⟨_, _, rfl, .inr ⟨_, sqT_up hs hp, q.len.symm⟩, k _ S H [] (.sh (.refl hs) (.int _))⟩
    · obtain ⟨v, rfl, r1⟩ := views1 r
      obtain ⟨p, rfl, hp⟩ := r1.scr_inv
      exact .inl ⟨_, _, rfl, .inl ⟨_, hs.seq hp, (List.length_map ..).symm⟩, k _ S H [] (.sh (.refl hs) (.int _))⟩
    · obtain ⟨v, rfl, r1⟩ := views1 r
      rename_i ks xs
      obtain ⟨p, us, rfl, hp, hl, q⟩ := r1.dic_inv hs
      refine .inr ⟨_, _, rfl, hp, ?_⟩
      have : (ks.zip us).length = ks.length := by rw [List.length_zip, hl, Nat.min_self]
      rw [this]
      exact k _ S H [] (.sh (.refl hs) (.int _))
  ex := fun h => by
    unfold lenD at h
    repeat' split at h
    all_goals cases h
/-! abs, max, min of two -/
def rAbs : List V → Hp → VK → Prop := fun xs H Q => ∃ i, xs = [.int i] ∧ Q (.int (if i < 0 then -i else i)) H
theorem call_absU {X : Cx} : CallR X (.builtin "abs") rAbs := call_abs
def absD : List D → Res W
  | [.int i] => .ok (.sh (.int (if i < 0 then -i else i)))
  | _ => .st
instance calV_abs : CalV K rAbs absD where
  ok := fun {S H vs ds Q w} hs r h k => by
    unfold absD at h
    split at h <;> first | cases h | skip
    obtain ⟨v, rfl, r1⟩ := views1 r
    cases r1.int_inv
    exact ⟨_, rfl, k _ S H [] (.sh (.refl hs) (.int _))⟩
  ex := fun h => by unfold absD at h; split at h <;> cases h
def rMax2 : List V → Hp → VK → Prop := fun vs G Z => ∃ i j, vs = [.int i, .int j] ∧ Z (.int (if j > i then j else i)) G
def rMin2 : List V → Hp → VK → Prop := fun vs G Z => ∃ i j, vs = [.int i, .int j] ∧ Z (.int (if j < i then j else i)) G
theorem call_max2U {X : Cx} (hc : X.calm = true) : CallR X (.builtin "max") rMax2 := call_max2 hc
theorem call_min2U {X : Cx} (hc : X.calm = true) : CallR X (.builtin "min") rMin2 := call_min2 hc
def max2D : List D → Res W
  | [.int i, .int j] => .ok (.sh (.int (if j > i then j else i)))
  | _ => .st
def min2D : List D → Res W
  | [.int i, .int j] => .ok (.sh (.int (if j < i then j else i)))
  | _ => .st
instance calV_max2 : CalV K rMax2 max2D where
  ok := fun {S H vs ds Q w} hs r h k => by
    unfold max2D at h
    split at h <;> first | cases h | skip
    obtain ⟨v, u, rfl, r1, r2⟩ := views2 r
    cases r1.int_inv; cases r2.int_inv
    exact ⟨_, _, rfl, k _ S H [] (.sh (.refl hs) (.int _))⟩
  ex := fun h => by unfold max2D at h; split at h <;> cases h
instance calV_min2 : CalV K rMin2 min2D where
  ok := fun {S H vs ds Q w} hs r h k => by
    unfold min2D at h
    split at h <;> first | cases h | skip
    obtain ⟨v, u, rfl, r1, r2⟩ := views2 r
    cases r1.int_inv; cases r2.int_inv
    exact ⟨_, _, rfl, k _ S H [] (.sh (.refl hs) (.int _))⟩
  ex := fun h => by unfold min2D at h; split at h <;> cases h
/-! isinstance -/
def tyD : D → Option String
  | .non => some "NoneType" | .bl _ => some "bool" | .int _ => some "int" | .str _ => some "str"
  | .lst _ => some "list" | .scr _ => some "list" | .tup _ => some "tuple" | .ktup _ => some "tuple" | .dic _ _ => some "dict"
  | _ => none
def tyNames : List String := ["NoneType", "bool", "int", "str", "list", "tuple", "dict"]
def isTy (a n : String) : Option Bool := if n == "int" then some (a == "int" || a == "bool") else if n == "bool" || n == "str" || n == "list" || n == "tuple" || n == "dict" then some (a == n) else none
theorem isTy_kit {a n : String} {b : Bool} (ha : a ∈ tyNames) (h : isTy a n = some b) : kitB a n = some b := by
  have key : ∀ a ∈ tyNames, ∀ n ∈ ["int", "bool", "str", "list", "tuple", "dict"], kitB a n = isTy a n := by decide +kernel
  have hn : n ∈ ["int", "bool", "str", "list", "tuple", "dict"] := by
    unfold isTy at h
    split at h
    · rename_i e; simp at e; simp [e]
    · split at h
      · rename_i e; simp at e; rcases e with (((e | e) | e) | e) | e <;> simp [e]
      · cases h
  rw [key a ha n hn, h]
theorem tyD_in {d : D} {a : String} (h : tyD d = some a) : a ∈ tyNames := by
  cases d <;> cases h <;> decide
theorem tyD_rep {H : Hp} {v : V} {d : D} {a : String} (r : Rep K H v d) (h : tyD d = some a) : TyX K H v (.type a) := by
  cases r with
  | non => cases h; exact .base .non
  | bl b => cases h; exact .base (.bl b)
  | int i => cases h; exact .base (.int i)
  | str x => cases h; exact .base (.str x)
  | lst e q => cases h; exact .base (.lst e)
  | tup e q => cases h; exact .base (.tup e)
  | dic e l q =>
    cases h
    rcases e with e | ⟨o, e⟩
    · exact .base (.dK e)
    · exact .fDict e
  | scr e =>
    cases h
    rcases e with (e | ⟨o, e⟩) | ⟨o, its, n, e, c, _⟩
    · exact .base (.lst e)
    · exact .base (.frz e)
    · exact .kList e c
  | ktup e q =>
    cases h
    rcases e with (e | ⟨o, e⟩) | ⟨o, its, n, e, c, _⟩
    · exact .base (.tup e)
    · exact .fTuple e
    · exact .kTuple e c
  | _ => cases h
def isiD : List D → Res W
  | [x, .ty n] => match tyD x with
    | some a => match isTy a n with
      | some b => .ok (.sh (.bl b))
      | none => .st
    | none => .st
  | _ => .st
instance calV_isi : CalV K (rIsi K) isiD where
  ok := fun {S H vs ds Q w} hs r h k => by
    unfold isiD at h
    split at h <;> first | cases h | skip
    rename_i x n
    split at h <;> first | cases h | skip
    rename_i a ha
    split at h <;> first | cases h | skip
    rename_i b hb
    obtain ⟨v, u, rfl, r1, r2⟩ := views2 r
    have : u = .ty n := by
      cases r2 with
      | rep q => cases q; rfl
    subst this
    exact ⟨_, _, _, _, b, rfl, .ty n, tyD_rep (r1.toX hs) ha, kit_ty (isTy_kit (tyD_in ha) hb), k _ S H [] (.sh (.refl hs) (.bl b))⟩
  ex := fun h => by
    unfold isiD at h
    repeat' split at h
    all_goals cases h
/-! str(n), int(flag), int(text), list(xs) -/
def rStrI : List V → Hp → VK → Prop := fun xs H Q => ∃ i, xs = [.int i] ∧ i.natAbs.log2 < 1920 ∧ Q (.str (toString i)) H
end
end Ly

set_option Elab.async false
set_option linter.all false
set_option maxRecDepth 100000
namespace Ly
open PySem L2 PyProof.Rows

/-! ### what is walked -/
def iU (K : PySem.W.Frag) (te : TE) : TI := fun σ H R => te σ H fun x H1 => (∃ a, x = .ref a ∧ (∃ xs, SqL K H1 a xs) ∧ R (Itl K a) H1) ∨ (∃ a, x = .ref a ∧ (∃ xs, SqT K H1 a xs) ∧ R (Itt K a) H1) ∨ ∃ z, x = .str z ∧ R (Its z) H1
theorem pi_U {X : Cx} {tg e : Expr} {te : TE} (he : PE X e te) : PI X tg e (iU X.K te) := ⟨fun ps z σ H R J hw => thn (he.run ps z σ H _ J hw) fun v z1 hv => by
  obtain ⟨y, H1, J1, ry, c⟩ := hv
  have new := fun (o : Obj) (ho : o.isFreed = false) => Heap.get?_push_size z1.heap (o := o) ho
  rcases c with ⟨a, rfl, ⟨xs, hx⟩, c⟩ | ⟨a, rfl, ⟨xs, hx⟩, c⟩ | ⟨x, rfl, c⟩
  · cases ry
    obtain ⟨_, _, pl, _⟩ := J1.list hx
    exact wpAny_pyIter_list pl.isList (pi_one (tk := z1.toks) J1 _ (turn_list a _) ⟨_, new _ rfl, rfl, rfl⟩ c)
  · cases ry
    obtain ⟨its, _, pl, _⟩ := J1.tuple hx
    exact wpAny_pyIter_tuple (show Heap.IsTuple z1.heap a its.toArray from pl) (pi_one (tk := z1.toks) J1 _ (turn_tuple a _) ⟨_, new _ rfl, rfl, rfl⟩ c)
  · obtain ⟨u, rfl⟩ := ry
    by_cases small : x.cps.all (· < 128) = true
    · exact wpAny_pyIter_ascii small (pi_one (tk := z1.toks) J1 _ (turn_str _ x u _ (.inl rfl)) ⟨_, new _ rfl, rfl, rfl⟩ c)
    · exact wpAny_pyIter_wide (Bool.eq_false_iff.mpr small) (pi_one (tk := z1.toks) J1 _ (turn_str _ x u _ (.inr rfl)) ⟨_, new _ rfl, rfl, rfl⟩ c)⟩
/-- one sign -/
def sign (c : Nat) : D := .str ⟨#[c]⟩
/-- the items of a thing that is walked -/
def itemsD : D → Res (List D)
  | .lst xs => .ok xs
  | .tup xs => .ok xs
  | .ktup xs => .ok xs
  | .scr ns => .ok (ns.map D.int)
  | .str z => .ok (z.cps.toList.map sign)
  | _ => .st
/-- walked for an expression's sake: nothing that stands is changed meanwhile -/
theorem wipe_sub (σ : L2.St) (vs : List Nat) : ∀ us : List Nat, (∀ i ∈ us, i ∈ vs) → wipe (wipe σ us) vs = wipe σ vs
  | [], _ => rfl
  | u :: us, h => by
    rw [show wipe σ (u :: us) = (wipe σ us).set u none from rfl, wipe_set (h u List.mem_cons_self)]
    exact wipe_sub σ vs us fun i hi => h i (List.mem_cons_of_mem _ hi)
theorem wipe_wipe (σ : L2.St) (vs : List Nat) : wipe (wipe σ vs) vs = wipe σ vs := wipe_sub σ vs vs fun _ h => h
class SemIV (K : PySem.W.Frag) (E : XK) (wi : TI) (F : outParam (List Nat)) (m : outParam (En → Res (List D))) : Prop where
  ok : ∀ {env σ S H R ds}, Vw K env σ S H → m env = .ok ds → (∀ J S' H', Gr S H S' H' → JOk K S' H' J ds → R J H') → wi σ H R
  ex : ∀ {env σ S H R x}, Vw K env σ S H → m env = .ex x → (∀ cls d H', Same H H' → XR K x cls d H' → E cls d H') → wi σ H R
section
variable {K : PySem.W.Frag} {E : XK}
theorem JOk.list {S P : Hp} {a : Addr} {vs : List V} {ds : List D} (h : SqL K P a vs) (r : Reps K S vs ds) : JOk K S P (Itl K a) ds := fun S' H' s1 s2 s3 i => by
  have hq := s3.seq h
  refine ⟨fun d hd => ?_, fun hd => ⟨vs, hq, by rw [r.len]; exact List.getElem?_eq_none_iff.mp hd⟩⟩
  obtain ⟨v, hv, rv⟩ := r.get hd
  refine ⟨⟨vs, v, hq, hv⟩, fun x H2 y => ?_⟩
  obtain ⟨rfl, y⟩ := y
  have := y vs hq
  rw [hv] at this
  cases this
  exact ⟨S', .refl s2, rv.up s1⟩
theorem JOk.tup {S P : Hp} {a : Addr} {vs : List V} {ds : List D} (h : SqT K P a vs) (r : Reps K S vs ds) : JOk K S P (Itt K a) ds := fun S' H' s1 s2 s3 i => by
  have hq := sqT_up s3 h
  refine ⟨fun d hd => ?_, fun hd => ⟨vs, hq, by rw [r.len]; exact List.getElem?_eq_none_iff.mp hd⟩⟩
  obtain ⟨v, hv, rv⟩ := r.get hd
  refine ⟨⟨vs, v, hq, hv⟩, fun x H2 y => ?_⟩
  obtain ⟨rfl, y⟩ := y
  have := y vs hq
  rw [hv] at this
  cases this
  exact ⟨S', .refl s2, rv.up s1⟩
theorem JOk.str {S P : Hp} {z : Str} : JOk K S P (Its z) (z.cps.toList.map sign) := fun S' H' s1 s2 s3 i => by
  refine ⟨fun d hd => ?_, fun hd => ?_⟩
  · rw [List.getElem?_map] at hd
    obtain ⟨c, hc, rfl⟩ := Option.map_eq_some_iff.mp hd
    have hi := (List.getElem?_eq_some_iff.mp hc).1
    refine ⟨(by simpa using hi : i < z.cps.size), fun x H2 y => ?_⟩
    obtain ⟨rfl, c', hc', rfl⟩ := y
    have : c' = c := by
      have e : z.cps[i]? = z.cps.toList[i]? := by simp
      rw [e, hc] at hc'
      exact (Option.some.inj hc').symm
    subst this
    exact ⟨S', .refl s2, .str _⟩
  · have := List.getElem?_eq_none_iff.mp hd
    show z.cps.size ≤ i
    simpa using this
theorem items_J {S P H : Hp} {v : V} {d : D} {ds : List D} {R : It → Hp → Prop} (hs : Same S P) (hp : Same P H) (r : View K S P v d) (h : itemsD d = .ok ds) (k : ∀ J, JOk K S P J ds → R J H) :
    (∃ a, v = .ref a ∧ (∃ xs, SqL K H a xs) ∧ R (Itl K a) H) ∨ (∃ a, v = .ref a ∧ (∃ xs, SqT K H a xs) ∧ R (Itt K a) H) ∨ ∃ z, v = .str z ∧ R (Its z) H := by
  unfold itemsD at h
  split at h <;> first | cases h | skip
  · obtain ⟨p, vs, rfl, e, q⟩ := r.lst_inv hs
    exact .inl ⟨p, rfl, ⟨_, SqL.of (hp _ _ e)⟩, k _ (.list (SqL.of e) q)⟩
  · obtain ⟨p, vs, rfl, e, q⟩ := r.tup_inv
    exact .inr (.inl ⟨p, rfl, ⟨_, SqT.of (hp _ _ (hs _ _ e))⟩, k _ (.tup (SqT.of (hs _ _ e)) q)⟩)
  · obtain ⟨p, vs, rfl, e, q⟩ := r.ktup_inv
    exact .inr (.inl ⟨p, rfl, ⟨_, sqT_up hp (sqT_up hs e)⟩, k _ (.tup (sqT_up hs e) q)⟩)
  · obtain ⟨p, rfl, e⟩ := r.scr_inv
    exact .inl ⟨p, rfl, ⟨_, hp.seq (hs.seq e)⟩, k _ (.list (hs.seq e) (Reps.ints _))⟩
  · cases r.str_inv
    exact .inr (.inr ⟨_, rfl, k _ .str⟩)
theorem itemsD_ex {d : D} {x : Xc} (h : itemsD d = .ex x) : False := by
  unfold itemsD at h
  split at h <;> cases h
def mItems (m : En → Res D) : En → Res (List D) := fun e => (m e).bind itemsD
instance semI_U {te : TE} {F : List Nat} {m : En → Res W} [h : SemE K E te F m] : SemI K E (iU K te) F (mItems (mD m)) where
  ok := fun {env σ S H R ds} x e k => by
    obtain ⟨d, e1, e2⟩ := Res.of_ok e
    exact h.okD x e1 fun v S' H' g r => items_J (Same.refl S') g.sub (.rep r) e2 fun J j => k J S' H' g j
  ex := fun {env σ S H R ds} x e k => by
    rcases Res.of_ex e with e1 | ⟨d, e1, e2⟩
    · exact h.ex x (Res.of_exm e1) k
    · exact (itemsD_ex e2).elim
instance semIV_U {te : TE} {F : List Nat} {m : En → Res D} [h : SemV K E te F m] : SemIV K E (iU K te) F (mItems m) where
  ok := fun {env σ S H R ds} x e k => by
    obtain ⟨d, e1, e2⟩ := Res.of_ok e
    exact h.ok x e1 fun v S' H' g r => items_J g.sub (Same.refl H') r e2 fun J j => k J S' H' g j
  ex := fun {env σ S H R ds} x e k => by
    rcases Res.of_ex e with e1 | ⟨d, e1, e2⟩
    · exact h.ex x e1 k
    · exact (itemsD_ex e2).elim
/-! range -/
def rangeD (lo : Int) (n : Nat) : List D := (List.range n).map fun (i : Nat) => D.int (lo + (i : Int))
theorem JOk.rng {S P : Hp} {lo : Int} {n : Nat} : JOk K S P (Itr lo n) (rangeD lo n) := fun S' H' s1 s2 s3 i => by
  unfold rangeD
  refine ⟨fun d hd => ?_, fun hd => ?_⟩
  · rw [List.getElem?_map] at hd
    obtain ⟨c, hc, rfl⟩ := Option.map_eq_some_iff.mp hd
    obtain ⟨hl, hc⟩ := List.getElem?_eq_some_iff.mp hc
    rw [List.length_range] at hl
    rw [List.getElem_range] at hc
    subst hc
    refine ⟨hl, fun x H2 y => ?_⟩
    obtain ⟨rfl, rfl⟩ := y
    exact ⟨S', .refl s2, .int _⟩
  · have := List.getElem?_eq_none_iff.mp hd
    show n ≤ i
    simpa using this
def big62 (i : Int) : Bool := decide (-(2 ^ 62) ≤ i) && decide (i < 2 ^ 62)
def rng1D : List D → Res (List D)
  | [.int j] => if big62 j then .ok (rangeD 0 j.toNat) else .st
  | _ => .st
def rng2D : List D → Res (List D)
  | [.int i, .int j] => if big62 i && big62 j then .ok (rangeD i (j - i).toNat) else .st
  | _ => .st
theorem semI_rng1 {ta : TA} {F : List Nat} {m : En → Res (List D)} (h : SemA K E ta F m) {env : En} {σ : L2.St} {S H : Hp} {R : It → Hp → Prop} {ds : List D} (x : Vw K env σ S H) (e : (m env).bind rng1D = .ok ds)
    (k : ∀ J S' H', Gr S H S' H' → (∀ P, JOk K S' P J ds) → R J H') : iRng1 ta σ H R := by
  obtain ⟨vs, e1, e2⟩ := Res.of_ok e
  refine h.ok x e1 fun us S' H' g r => ?_
  unfold rng1D at e2
  split at e2 <;> first | cases e2 | skip
  split at e2 <;> first | cases e2 | skip
  rename_i hb
  simp only [big62, Bool.and_eq_true, decide_eq_true_eq] at hb
  cases r with
  | cons a b =>
    cases b; cases a
    exact ⟨_, rfl, hb.1, hb.2, k _ S' H' g fun P => .rng⟩
theorem semI_rng2 {ta : TA} {F : List Nat} {m : En → Res (List D)} (h : SemA K E ta F m) {env : En} {σ : L2.St} {S H : Hp} {R : It → Hp → Prop} {ds : List D} (x : Vw K env σ S H) (e : (m env).bind rng2D = .ok ds)
    (k : ∀ J S' H', Gr S H S' H' → (∀ P, JOk K S' P J ds) → R J H') : iRng2 ta σ H R := by
  obtain ⟨vs, e1, e2⟩ := Res.of_ok e
  refine h.ok x e1 fun us S' H' g r => ?_
  unfold rng2D at e2
  split at e2 <;> first | cases e2 | skip
  split at e2 <;> first | cases e2 | skip
  rename_i hb
  simp only [big62, Bool.and_eq_true, decide_eq_true_eq] at hb
  cases r with
  | cons a b =>
    cases b with
    | cons c d =>
      cases d; cases a; cases c
      exact ⟨_, _, rfl, ⟨hb.1.1, hb.1.2, hb.2.1, hb.2.2⟩, k _ S' H' g fun P => .rng⟩
theorem rng1D_ex {ds : List D} {x : Xc} (h : rng1D ds = .ex x) : False := by
  unfold rng1D at h
  repeat' split at h
  all_goals cases h
theorem rng2D_ex {ds : List D} {x : Xc} (h : rng2D ds = .ex x) : False := by
  unfold rng2D at h
  repeat' split at h
  all_goals cases h
def mRng1 (m : En → Res (List D)) : En → Res (List D) := fun e => (m e).bind rng1D
def mRng2 (m : En → Res (List D)) : En → Res (List D) := fun e => (m e).bind rng2D
instance semI_r1 {ta : TA} {F : List Nat} {m : En → Res (List D)} [h : SemA K E ta F m] : SemI K E (iRng1 ta) F (mRng1 m) where
  ok := fun x e k => semI_rng1 h x e fun J S' H' g j => k J S' H' g (j S')
  ex := fun {env σ S H R ds} x e k => by
    rcases Res.of_ex e with e1 | ⟨d, e1, e2⟩
    · exact h.ex x e1 k
    · exact (rng1D_ex e2).elim
instance semIV_r1 {ta : TA} {F : List Nat} {m : En → Res (List D)} [h : SemA K E ta F m] : SemIV K E (iRng1 ta) F (mRng1 m) where
  ok := fun x e k => semI_rng1 h x e fun J S' H' g j => k J S' H' g (j H')
  ex := fun {env σ S H R ds} x e k => by
    rcases Res.of_ex e with e1 | ⟨d, e1, e2⟩
    · exact h.ex x e1 k
    · exact (rng1D_ex e2).elim
instance semI_r2 {ta : TA} {F : List Nat} {m : En → Res (List D)} [h : SemA K E ta F m] : SemI K E (iRng2 ta) F (mRng2 m) where
  ok := fun x e k => semI_rng2 h x e fun J S' H' g j => k J S' H' g (j S')
  ex := fun {env σ S H R ds} x e k => by
    rcases Res.of_ex e with e1 | ⟨d, e1, e2⟩
    · exact h.ex x e1 k
    · exact (rng2D_ex e2).elim
instance semIV_r2 {ta : TA} {F : List Nat} {m : En → Res (List D)} [h : SemA K E ta F m] : SemIV K E (iRng2 ta) F (mRng2 m) where
  ok := fun x e k => semI_rng2 h x e fun J S' H' g j => k J S' H' g (j H')
  ex := fun {env σ S H R ds} x e k => by
    rcases Res.of_ex e with e1 | ⟨d, e1, e2⟩
    · exact h.ex x e1 k
    · exact (rng2D_ex e2).elim
/-! enumerate -/
def enumD : Nat → List D → List D
  | _, [] => []
  | i, d :: ds => .tup [.int (i : Int), d] :: enumD (i + 1) ds
theorem enumD_get : ∀ {ds : List D} {i j : Nat} {d : D}, (enumD j ds)[i]? = some d → ∃ x, ds[i]? = some x ∧ d = .tup [.int ((j + i : Nat) : Int), x]
  | [], _, _, _, h => by simp [enumD] at h
  | e :: ds, 0, j, d, h => by
    unfold enumD at h
    simp at h
    exact ⟨e, rfl, by rw [← h]; rfl⟩
  | e :: ds, i + 1, j, d, h => by
    unfold enumD at h
    rw [List.getElem?_cons_succ] at h
    obtain ⟨x, h1, h2⟩ := enumD_get h
    exact ⟨x, by simpa using h1, by rw [h2]; congr 4; omega⟩
theorem enumD_len : ∀ (ds : List D) (j : Nat), (enumD j ds).length = ds.length
  | [], _ => rfl
  | e :: ds, j => by unfold enumD; rw [List.length_cons, enumD_len ds, List.length_cons]
theorem JOk.enum {S P : Hp} {a : Addr} {vs : List V} {ds : List D} (h : SqL K P a vs) (r : Reps K S vs ds) : JOk K S P (Ite K a) (enumD 0 ds) := fun S' H' s1 s2 s3 i => by
  have hq := s3.seq h
  refine ⟨fun d hd => ?_, fun hd => ⟨vs, hq, by rw [r.len, ← enumD_len ds 0]; exact List.getElem?_eq_none_iff.mp hd⟩⟩
  obtain ⟨x, hx, rfl⟩ := enumD_get hd
  obtain ⟨v, hv, rv⟩ := r.get hx
  refine ⟨⟨vs, v, hq, hv⟩, fun u H2 y => ?_⟩
  obtain ⟨T, v', rfl, hT, rfl, y⟩ := y
  have := y vs hq
  rw [hv] at this
  cases this
  refine ⟨_, .new s2 hT, .tup upd_same ?_⟩
  have s4 : Same S' (upd S' T (.tup [.int (i : Nat), v])) := fun a o q => by rw [upd_ne (ne_of_none q (s2.free hT))]; exact q
  rw [Nat.zero_add]
  exact .cons (.int _) (.cons ((rv.up s1).up s4) .nil)
def enumItems : List D → Res (List D)
  | [.lst xs] => .ok (enumD 0 xs)
  | [.scr ns] => .ok (enumD 0 (ns.map D.int))
  | _ => .st
theorem enum_ex {ds : List D} {x : Xc} (h : enumItems ds = .ex x) : False := by
  unfold enumItems at h
  split at h <;> cases h
def mEnum (m : En → Res (List D)) : En → Res (List D) := fun e => (m e).bind enumItems
instance semI_enum {ta : TA} {F : List Nat} {m : En → Res (List D)} [h : SemA K E ta F m] : SemI K E (iEnum K ta) F (mEnum m) where
  ok := fun {env σ S H R ds} x e k => by
    obtain ⟨vs, e1, e2⟩ := Res.of_ok e
    refine h.ok x e1 fun us S' H' g r => ?_
    unfold enumItems at e2
    split at e2 <;> first | cases e2 | skip
    · cases r with
      | cons a b =>
        cases b
        cases a with
        | lst e q => exact ⟨_, _, rfl, SqL.of (g.sub _ _ e), k _ S' H' g (.enum (SqL.of e) q)⟩
    · cases r with
      | cons a b =>
        cases b
        cases a with
        | scr e => exact ⟨_, _, rfl, g.sub.seq e, k _ S' H' g (.enum e (Reps.ints _))⟩
  ex := fun {env σ S H R ds} x e k => by
    rcases Res.of_ex e with e1 | ⟨d, e1, e2⟩
    · exact h.ex x e1 k
    · exact (enum_ex e2).elim
instance semIV_enum {ta : TA} {F : List Nat} {m : En → Res (List D)} [h : SemAV K E ta F m] : SemIV K E (iEnum K ta) F (mEnum m) where
  ok := fun {env σ S H R ds} x e k => by
    obtain ⟨vs, e1, e2⟩ := Res.of_ok e
    refine h.ok x e1 fun us S' H' g r => ?_
    unfold enumItems at e2
    split at e2 <;> first | cases e2 | skip
    · obtain ⟨v, rfl, r1⟩ := views1 r
      obtain ⟨p, vs, rfl, e, q⟩ := r1.lst_inv g.sub
      exact ⟨_, _, rfl, SqL.of e, k _ S' H' g (.enum (SqL.of e) q)⟩
    · obtain ⟨v, rfl, r1⟩ := views1 r
      obtain ⟨p, rfl, e⟩ := r1.scr_inv
      exact ⟨_, _, rfl, g.sub.seq e, k _ S' H' g (.enum (g.sub.seq e) (Reps.ints _))⟩
  ex := fun {env σ S H R ds} x e k => by
    rcases Res.of_ex e with e1 | ⟨d, e1, e2⟩
    · exact h.ex x e1 k
    · exact (enum_ex e2).elim

/-! ### list comprehensions -/
def mTrue : En → Res Bool := fun _ => .ok true
instance semT_yes : SemT K E tYes [] mTrue where
  ok := fun x e k => by cases e; exact k _ (Same.refl _)
  ex := fun x e k => by cases e
def wipeE (env : En) : List Nat → En
  | [] => env
  | v :: vs => (wipeE env vs).set v none
theorem Vw.unset {env : En} {σ : L2.St} {S H : Hp} (x : Vw K env σ S H) (i : Nat) : Vw K (env.set i none) (σ.set i none) S H := ⟨by rw [List.length_set, List.length_set]; exact x.len, x.sub, fun j w e => by
  rcases get_set e with ⟨_, e1, _⟩ | ⟨ne, e1⟩
  · cases e1
  · obtain ⟨z, fp, a, b, c⟩ := x.at_ j w e1
    exact ⟨z, fp, by rw [List.getElem?_set_ne ne]; exact a, b, c⟩⟩
theorem Vw.wiped {env : En} {σ : L2.St} {S H : Hp} (x : Vw K env σ S H) : ∀ vs : List Nat, Vw K (wipeE env vs) (wipe σ vs) S H
  | [] => x
  | v :: vs => (x.wiped vs).unset v
def runC (mg : D → En → Res En) (mt : En → Res Bool) (me : En → Res D) : List D → En → Res (List D)
  | [], _ => .ok []
  | d :: ds, env => (mg d env).bind fun e => (mt e).bind fun b => if b = true then (me e).bind fun y => (runC mg mt me ds env).map fun ys => y :: ys else runC mg mt me ds env
def noEx {α : Type} : Res α → Res α
  | .ok a => .ok a
  | _ => .st
def mLc (ts vs : List Nat) (mi : En → Res (List D)) (mg : D → En → Res En) (mt : En → Res Bool) (me : En → Res D) : En → Res W := fun env => if ts.all (fun i => vs.contains i) then
  (mi env).bind fun ds => (noEx (runC mg mt me ds (wipeE env vs))).bind fun ys => if small ys.length then .ok (.lst ys) else .st
  else .st
instance semE_lc {wi : TI} {g : TG} {tt : TT} {te : TE} {vs ts Fi Ft Fe : List Nat} {mi : En → Res (List D)} {mg : D → En → Res En} {mt : En → Res Bool} {me : En → Res W} [hi : SemIV K E wi Fi mi] [hg : SemG K g ts mg] [ht : SemT K E0 tt Ft mt] [he : SemE K E0 te Fe me] :
    SemE K E (tLc wi g tt te vs) (Fi ++ Ft ++ Fe) (mLc ts vs mi mg mt (mD me)) where
  ok := fun {env σ S H Q w} x e k => by
    unfold mLc at e
    split at e
    · rename_i hts
      have hts' : ∀ i ∈ ts, i ∈ vs := fun i h => by
        have := List.all_eq_true.mp hts i h
        simpa using this
      obtain ⟨ds, e1, e⟩ := Res.of_ok e
      obtain ⟨ys, e2, e⟩ := Res.of_ok e
      split at e
      · rename_i hsm
        cases e
        have e3 : runC mg mt (mD me) ds (wipeE env vs) = .ok ys := by
          unfold noEx at e2
          split at e2
          · cases e2; assumption
          · cases e2
        refine hi.ok x e1 fun J S1 H1 g1 jok => ?_
        intro D hD
        have hSD : S1 D = none := g1.sub.free hD
        have x1 := x.gr g1
        refine ⟨fun i m H => m = ds.length - i ∧ ∃ S us acc rest, Gr S1 H1 S H ∧ S D = none ∧ H D = some (.lst us) ∧ Reps K S us acc ∧ runC mg mt (mD me) (ds.drop i) (wipeE env vs) = .ok rest ∧ acc ++ rest = ys,
          ⟨_, rfl, S1, [], [], ys, (Gr.refl g1.sub).trans (.hp g1.sub fun a o q => by rw [upd_ne (ne_of_none q hD)]; exact q), hSD, upd_same, .nil, by rw [List.drop_zero]; exact e3, rfl⟩, ?_⟩
        rintro i m H2 ⟨rfl, S2, us, acc, rest, g2, hS2, hH2, r2, e4, e5⟩
        obtain ⟨j1, j2⟩ := jok S2 H2 g2.ss g2.sub g2.hh i
        cases hd : ds[i]? with
        | none =>
          have hl : ds.length ≤ i := List.getElem?_eq_none_iff.mp hd
          rw [List.drop_eq_nil_of_le hl] at e4
          have e4' : rest = [] := by unfold runC at e4; cases e4; rfl
          subst e4'
          rw [List.append_nil] at e5
          subst e5
          refine .inl ⟨j2 hd, k _ S2 H2 [D] ⟨g1.trans g2, .lst hH2 r2, by simp, fun p hp => ?_⟩⟩
          rw [List.mem_singleton.mp hp]
          exact ⟨g1.hh.free hD, hS2⟩
        | some d =>
          obtain ⟨hlt, hdd⟩ := List.getElem?_eq_some_iff.mp hd
          have hdrop : ds.drop i = d :: ds.drop (i + 1) := by rw [List.drop_eq_getElem_cons hlt, hdd]
          rw [hdrop] at e4
          unfold runC at e4
          obtain ⟨en, f1, e4⟩ := Res.of_ok e4
          obtain ⟨b, f2, e4⟩ := Res.of_ok e4
          obtain ⟨go, yld⟩ := j1 d hd
          refine .inr ⟨go, fun H' => ∃ S us acc rest, Gr S1 H1 S H' ∧ S D = none ∧ H' D = some (.lst us) ∧ Reps K S us acc ∧ runC mg mt (mD me) (ds.drop (i + 1)) (wipeE env vs) = .ok rest ∧ acc ++ rest = ys, fun H' z => ⟨_, by omega, rfl, z⟩, fun y H' hy => ?_⟩
          obtain ⟨S3, g3, r3⟩ := yld y H' hy
          have hHD : isMu (H2 D) = true := by rw [hH2]; rfl
          have hS3 : S3 D = none := g3.gone hS2 hHD
          refine hg.vw (((x1.gr g2).gr g3).wiped vs) r3 f1 fun σ2 x4 wq => ⟨by rw [wq vs hts']; exact wipe_wipe _ _, ?_⟩
          refine ht.ok x4 f2 fun H4 g4 => ?_
          have y4 := Gr.hp g3.sub g4
          cases b with
          | false =>
            rw [if_neg Bool.false_ne_true] at e4 ⊢
            exact ⟨S3, us, acc, rest, (g2.trans g3).trans y4, hS3, g4 _ _ (g3.hh _ _ hH2), r2.up g3.ss, e4, e5⟩
          | true =>
            rw [if_pos rfl] at e4 ⊢
            obtain ⟨dy, f3, e4⟩ := Res.of_ok e4
            obtain ⟨rest', f4, rfl⟩ := Res.of_okm e4
            refine he.okD (x4.gr y4) f3 fun v S5 H5 g5 r5 => ?_
            have hD5 : H5 D = some (.lst us) := g5.hh _ _ (g4 _ _ (g3.hh _ _ hH2))
            have hS5 : S5 D = none := g5.gone hS3 (by rw [g4 _ _ (g3.hh _ _ hH2)]; rfl)
            have hlen : us.length < sizeLine := by
              rw [r2.len]
              have := congrArg List.length e5
              rw [List.length_append] at this
              have h2 := small_line hsm
              omega
            refine ⟨us, hD5, hlen, S5, us ++ [v], acc ++ [dy], rest', ?_, hS5, upd_same, ?_, f4, by rw [← e5]; simp⟩
            · have gg := ((g2.trans g3).trans y4).trans g5
              exact ⟨gg.ss, fun a o q => by rw [upd_ne (ne_of_none q hD)]; exact gg.hh a o q, fun a o q => by rw [upd_ne (ne_of_none q hS5)]; exact gg.sub a o q, gg.nw⟩
            · exact ((r2.up g3.ss).up g5.ss).app (.cons r5 .nil)
      · cases e
    · cases e
  ex := fun {env σ S H Q w} x e k => by
    unfold mLc at e
    split at e
    · rcases Res.of_ex e with e1 | ⟨ds, e1, e⟩
      · exact hi.ex x e1 k
      · rcases Res.of_ex e with e1 | ⟨ds, e1, e⟩
        · unfold noEx at e1
          split at e1 <;> cases e1
        · split at e <;> cases e
    · cases e
end
end Ly

set_option Elab.async false
set_option linter.all false
set_option maxRecDepth 100000
namespace Ly
open PySem L2 PyProof.Rows

/-! ### defs -/
/-- a def that answers as f tells of data: n parameters -/
def spM (K : PySem.W.Frag) (n : Nat) (f : List D → Res W) : Sp := fun vs H Q E => vs.length = n ∧ ∃ S ds, Same S H ∧ Reps K S vs ds ∧ match f ds with
  | .ok w => ∀ v S' H' fp, New K S H S' H' v w fp → Q v H'
  | .ex x => ∀ cls d H', Same H H' → XR K x cls d H' → E cls d H'
  | .st => False
def slots (n : Nat) (ds : List D) : En := ds.map (fun d => some (W.sh d)) ++ List.replicate (n - ds.length) none
def runD (n : Nat) (m : En → Res Fl) : List D → Res W := fun ds => (m (slots n ds)).bind fun r => match r with
  | .rt w => .ok w
  | .nx _ => .ok (.sh .non)
  | _ => .st
theorem reps_start {K : PySem.W.Frag} {S H : Hp} (Mu : List Nat) (N : List Str) {vs : List V} {ds : List D} (hs : Same S H) (r : Reps K S vs ds) (hl : vs.length ≤ N.length) : StOk K ⟨Mu, [], fun _ h => nomatch h⟩ H S (slots N.length ds) (L2.start N vs) S H := by
  have hlen := r.len
  refine ⟨by simp [slots, L2.start, hlen], (fun v h => nomatch h), hs, Same.refl H, Same.refl S, fun a o e => .inl e, fun _ => [], fun i w e => ?_, fun i p hp => absurd hp List.not_mem_nil, fun i j p hp => absurd hp List.not_mem_nil⟩
  unfold slots at e
  by_cases hi : i < ds.length
  · rw [List.getElem?_append_left (by simpa using hi), List.getElem?_map] at e
    obtain ⟨d, hd, e⟩ := Option.map_eq_some_iff.mp e
    cases e
    obtain ⟨v, hv, rv⟩ := r.get hd
    refine ⟨v, ?_, .sh rv, List.nodup_nil⟩
    unfold L2.start
    rw [List.getElem?_append_left (by simpa [hlen] using hi), List.getElem?_map, hv]
    rfl
  · rw [List.getElem?_append_right (by simpa using hi), List.getElem?_replicate] at e
    split at e <;> cases e
section
variable {P : Program} {w : World} {K : PySem.W.Frag} {mg : Str → Option Value} {base : Heap}
/-- THE RULE for a def: its body's rules, the meaning of that term, and what it comes to -/
theorem fn_sem {x qual : Str} {st : Stmt} {f : Addr} {fd : FuncData} {N ps : List Str} {k : Nat} (F : Fun K x qual st f fd) (Sc : FnScope N ps (defScope st)) (g : List D → Res W) (Mu : List Nat) (m : En → Res Fl)
    (hb : ∀ (cdv : Value) (A : Around) (outer : List Env) (s : Shared) (H : Hp) (E : XK), Room k (A.deeper (envOfC qual (defScope st) s.heap.objs.size f cdv)) →
      ∃ t, PSs (cxOf (L2.CX P w) P w K mg base N qual (defScope st) f cdv A outer s H E) (defBody st) t ∧ SemS K Mu E t m)
    (hg : ∀ ds, g ds ≠ .st → runD N.length m ds = g ds) : FnOk P w K mg base (L2.CX P w) (k + 1) f fd ps (spM K ps.length g) := by
  have hpl : ps.length ≤ N.length := by have := congrArg List.length Sc.pre; rw [List.length_take] at this; omega
  refine F.okX Sc (fun vs H Q E h => h.1) fun cdv A outer s H vs Q E hr h => ?_
  obtain ⟨t, h1, h2⟩ := hb cdv A outer s H E hr
  refine ⟨t, h1, ?_⟩
  obtain ⟨hl, S, ds, hs, r, q⟩ := h
  have hne : g ds ≠ .st := fun e => by rw [e] at q; exact q
  have e := hg ds hne
  rw [← e] at q
  refine h2.run rfl (reps_start Mu N hs r (by omega)) ?_
  unfold runD at q
  cases em : m (slots N.length ds) with
  | ex z => rw [em] at q; exact q
  | st => rw [em] at q; exact q
  | ok fl =>
    rw [em] at q
    cases fl with
    | nx en => exact fun σ' S' H' y _ => q .non S' H' [] (.sh ⟨y.ex0, y.base, y.sub, y.nw⟩ .non)
    | rt w => exact fun v S' H' fp y => q v S' H' fp ⟨⟨y.ex0, y.base, y.sub, y.nw⟩, y.own, y.nd, y.new⟩
    | bk en => exact q.elim
    | ct en => exact q.elim
/-- a known def: what it answers, once for all -/
theorem FnOk.fit {CX : CXT} {k n : Nat} {f : Addr} {fd : FuncData} {ps : List Str} {g g' : List D → Res W} (F : FnOk P w K mg base CX k f fd ps (spM K n g)) (h : ∀ ds, g' ds ≠ .st → g ds = g' ds) : FnOk P w K mg base CX k f fd ps (spM K n g') :=
  F.imp fun vs H Q E q => by
    obtain ⟨hl, S, ds, hs, r, q⟩ := q
    refine ⟨hl, S, ds, hs, r, ?_⟩
    have hne : g' ds ≠ .st := fun e => by rw [e] at q; exact q
    rw [h ds hne]
    exact q
end

/-! ### calls of defs -/
mutual
/-- data that hold nothing that changes -/
def immD : D → Bool
  | .non => true
  | .bl _ => true
  | .int _ => true
  | .str _ => true
  | .tup xs => immDs xs
  | _ => false
def immDs : List D → Bool
  | [] => true
  | d :: ds => immD d && immDs ds
end
def flatW : W → Bool
  | .sh d => immD d
  | .lst xs => immDs xs
  | .dic _ xs => immDs xs
  | _ => false
def onlyFlat : Res W → Res W
  | .ok w => if flatW w then .ok w else .st
  | r => r
def asked (n : Nat) (f : List D → Res W) : List D → Res W := fun ds => if ds.length = n then f ds else .st
def mCall (n : Nat) (f : List D → Res W) (ma mx : En → Res (List D)) : En → Res W := fun e => match ma e with
  | .ok ds => asked n f ds
  | .ex x => .ex x
  | .st => (mx e).bind fun ds => onlyFlat (asked n f ds)
section
variable {K : PySem.W.Frag} {E : XK}
theorem asked_ok {n : Nat} {f : List D → Res W} {ds : List D} {r : Res W} (h : asked n f ds = r) (hr : r ≠ .st) : ds.length = n ∧ f ds = r := by
  unfold asked at h
  split at h
  · exact ⟨by assumption, h⟩
  · exact (hr h.symm).elim
mutual
/-- the tuples of such data -/
theorem Rep.tups {S : Hp} : ∀ (d : D) {v : V}, Rep K S v d → immD d = true → ∃ ts : List Addr, (∀ t ∈ ts, ∃ us, S t = some (.tup us)) ∧ ∀ S2 : Hp, (∀ t ∈ ts, S2 t = S t) → Rep K S2 v d
  | .non, _, r, _ => by cases r; exact ⟨[], fun t h => (by cases h), fun _ _ => .non⟩
  | .bl b, _, r, _ => by cases r; exact ⟨[], fun t h => (by cases h), fun _ _ => .bl b⟩
  | .int b, _, r, _ => by cases r; exact ⟨[], fun t h => (by cases h), fun _ _ => .int b⟩
  | .str b, _, r, _ => by cases r; exact ⟨[], fun t h => (by cases h), fun _ _ => .str b⟩
  | .tup xs, _, r, h => by
    cases r with
    | tup e q =>
      rename_i a vs
      unfold immD at h
      obtain ⟨ts, h1, h2⟩ := Reps.tups xs q h
      refine ⟨a :: ts, fun t ht => ?_, fun S2 k => ?_⟩
      · rcases List.mem_cons.mp ht with rfl | ht
        · exact ⟨vs, e⟩
        · exact h1 t ht
      · exact .tup (by rw [k a List.mem_cons_self]; exact e) (h2 S2 fun t ht => k t (List.mem_cons_of_mem _ ht))
  | .lst _, _, _, h => by cases h
  | .ktup _, _, _, h => by cases h
  | .dic _ _, _, _, h => by cases h
  | .dit _ _, _, _, h => by cases h
  | .obj _ _ _, _, _, h => by cases h
  | .scr _, _, _, h => by cases h
  | .ty _, _, _, h => by cases h
  | .cls _, _, _, h => by cases h
theorem Reps.tups {S : Hp} : ∀ (ds : List D) {vs : List V}, Reps K S vs ds → immDs ds = true → ∃ ts : List Addr, (∀ t ∈ ts, ∃ us, S t = some (.tup us)) ∧ ∀ S2 : Hp, (∀ t ∈ ts, S2 t = S t) → Reps K S2 vs ds
  | [], _, r, _ => by cases r; exact ⟨[], fun t h => (by cases h), fun _ _ => .nil⟩
  | d :: ds, _, r, h => by
    cases r with
    | cons a b =>
      unfold immDs at h
      rw [Bool.and_eq_true] at h
      obtain ⟨t1, h1, h2⟩ := Rep.tups d a h.1
      obtain ⟨t2, h3, h4⟩ := Reps.tups ds b h.2
      refine ⟨t1 ++ t2, fun t ht => ?_, fun S2 k => .cons (h2 S2 fun t ht => k t (List.mem_append_left _ ht)) (h4 S2 fun t ht => k t (List.mem_append_right _ ht))⟩
      rcases List.mem_append.mp ht with ht | ht
      · exact h1 t ht
      · exact h3 t ht
end
theorem New.flat {S H S' H' : Hp} {v : V} {w : W} {fp : List Addr} (n : New K H H S' H' v w fp) (hf : flatW w = true) (hs : Same S H) : ∃ S1, New K S H S1 H' v w fp := by
  have key : ∀ ts : List Addr, (∀ t ∈ ts, ∃ us, S' t = some (.tup us)) → (∀ S2 : Hp, (∀ t ∈ ts, S2 t = S' t) → Own K S2 H' v w fp) → ∃ S1, New K S H S1 H' v w fp := by
    intro ts h1 h2
    have hat : ∀ t ∈ ts, frz S H' ts t = S' t := fun t ht => by
      obtain ⟨us, e⟩ := h1 t ht
      rw [frz_at ht, e]
      exact n.gr.sub t _ e
    have hh := n.gr.hh
    refine ⟨frz S H' ts, ⟨⟨fun a o e => ?_, hh, fun a o e => ?_, fun a o e => ?_⟩, h2 _ hat, n.nd, fun p hp => ⟨(n.new p hp).1, ?_⟩⟩⟩
    · by_cases z : a ∈ ts
      · rw [frz_at z]; exact hh a o (hs a o e)
      · rw [frz_out z]; exact e
    · by_cases z : a ∈ ts
      · rw [frz_at z] at e; exact e
      · rw [frz_out z] at e; exact hh a o (hs a o e)
    · by_cases z : a ∈ ts
      · obtain ⟨us, eu⟩ := h1 a z
        rw [hat a z, eu] at e
        cases e
        exact .inr (.inr rfl)
      · rw [frz_out z] at e; exact .inl e
    · by_cases z : p ∈ ts
      · obtain ⟨us, eu⟩ := h1 p z
        rw [(n.new p hp).2] at eu
        cases eu
      · rw [frz_out z]
        exact hs.free (n.new p hp).1
  have o := n.own
  cases w with
  | sh d =>
    cases o with
    | sh r =>
      obtain ⟨ts, h1, h2⟩ := Rep.tups d r hf
      exact key ts h1 fun S2 k => .sh (h2 S2 k)
  | lst xs =>
    cases o with
    | lst e q =>
      obtain ⟨ts, h1, h2⟩ := Reps.tups xs q hf
      exact key ts h1 fun S2 k => .lst e (h2 S2 k)
  | dic ks xs =>
    cases o with
    | dic e l q =>
      obtain ⟨ts, h1, h2⟩ := Reps.tups xs q hf
      exact key ts h1 fun S2 k => .dic e l (h2 S2 k)
  | _ => cases hf
instance semE_call {n : Nat} {f : List D → Res W} {t : TA} {Fa Fx : List Nat} {ma mx : En → Res (List D)} [ha : SemA K E t Fa ma] [hx : SemAX K E t Fx mx] : SemE K E (tCall (spM K n f) [] E t) Fx (mCall n f ma mx) where
  ok := fun {env σ S H Q w} x e k => by
    unfold mCall at e
    split at e
    · rename_i ds e1
      refine ha.ok x e1 fun vs S' H' g r => ?_
      obtain ⟨hl, e2⟩ := asked_ok e (by simp)
      refine ⟨by rw [List.append_nil, r.len]; exact hl, S', ds, g.sub, by rw [List.append_nil]; exact r, ?_⟩
      rw [e2]
      exact fun v S2 H2 fp nw => k v S2 H2 fp (nw.later g)
    · cases e
    · obtain ⟨ds, e1, e2⟩ := Res.of_ok e
      refine hx.ok x e1 fun vs H' g r => ?_
      unfold onlyFlat at e2
      split at e2
      · rename_i w' e3
        split at e2
        · rename_i hf
          cases e2
          obtain ⟨hl, e4⟩ := asked_ok e3 (by simp)
          refine ⟨by rw [List.append_nil, r.len]; exact hl, H', ds, Same.refl H', by rw [List.append_nil]; exact r, ?_⟩
          rw [e4]
          intro v S2 H2 fp nw
          have y := Gr.hp x.sub g
          obtain ⟨S3, n3⟩ := nw.flat hf y.sub
          exact k v S3 H2 fp (n3.later y)
        · cases e2
      · rename_i h1
        exact (h1 _ e2).elim
  ex := fun {env σ S H Q z} x e k => by
    unfold mCall at e
    split at e
    · rename_i ds e1
      refine ha.ok x e1 fun vs S' H' g r => ?_
      obtain ⟨hl, e2⟩ := asked_ok e (by simp)
      refine ⟨by rw [List.append_nil, r.len]; exact hl, S', ds, g.sub, by rw [List.append_nil]; exact r, ?_⟩
      rw [e2]
      exact fun c d H2 s q => k c d H2 (g.hh.trans s) q
    · rename_i z' e1
      cases e
      exact ha.ex x e1 k
    · rcases Res.of_ex e with e1 | ⟨ds, e1, e2⟩
      · exact hx.ex x e1 k
      · refine hx.ok x e1 fun vs H' g r => ?_
        unfold onlyFlat at e2
        split at e2
        · split at e2 <;> cases e2
        · obtain ⟨hl, e4⟩ := asked_ok e2 (by simp)
          refine ⟨by rw [List.append_nil, r.len]; exact hl, H', ds, Same.refl H', by rw [List.append_nil]; exact r, ?_⟩
          rw [e4]
          exact fun c d H2 s q => k c d H2 (g.trans s) q

/-! ### truth -/
def truD : D → Res Bool
  | .non => .ok false
  | .bl b => .ok b
  | .int i => .ok (i != 0)
  | .str z => if small z.length then .ok ((z.length : Int) != 0) else .st
  | .lst xs => .ok (!xs.isEmpty)
  | .tup xs => .ok (!xs.isEmpty)
  | .dic ks _ => .ok (!ks.isEmpty)
  | _ => .st
theorem isEmpty_len {α β : Type} {xs : List α} {ys : List β} (h : xs.length = ys.length) : xs.isEmpty = ys.isEmpty := by
  cases xs <;> cases ys <;> simp_all
theorem zip_len {α β : Type} {ks : List α} {vs : List β} (l : vs.length = ks.length) : ks.length = (ks.zip vs).length := by rw [List.length_zip, l, Nat.min_self]
def TruW (K : PySem.W.Frag) (x : V) (H : Hp) (k : Bool) : Prop := TruV K x H k ∨ ∃ p kvs, x = .ref p ∧ Rd H p (.dK kvs) ∧ k = !kvs.isEmpty
theorem truD_rep {H : Hp} {v : V} {d : D} {b : Bool} (r : Rep K H v d) (h : truD d = .ok b) : TruW K v H b := by
  cases r with
  | non => cases h; exact .inl rfl
  | bl b => cases h; exact .inl rfl
  | int i => cases h; exact .inl rfl
  | str x =>
    simp only [truD] at h
    split at h
    · rename_i hz; cases h; exact .inl ⟨small_le hz, rfl⟩
    · cases h
  | lst e q => cases h; exact .inl (.inl ⟨_, SqL.of e, by rw [isEmpty_len q.len]⟩)
  | tup e q => cases h; exact .inl (.inr (.inl ⟨_, SqT.of e, by rw [isEmpty_len q.len]⟩))
  | dic e l q => cases h; exact .inr ⟨_, _, rfl, e, by rw [isEmpty_len (zip_len l)]⟩
  | _ => cases h
theorem truD_ex {d : D} {x : Xc} (h : truD d = .ex x) : False := by
  unfold truD at h
  repeat' split at h
  all_goals cases h
def mTru (m : En → Res D) : En → Res Bool := fun e => (m e).bind truD
def tTruW (K : PySem.W.Frag) (ta : TE) : TT := fun σ H Q => ta σ H fun x H' => ∃ k, TruW K x H' k ∧ Q k H'
theorem pt_tru {X : Cx} {a : Expr} {ta : TE} (ha : PE X a ta) (he : ∀ whole, isTrue a X.env whole = (do let v ← whole; standAt a.pos; holding [v] (truthy v)) := by intro _; rfl) : PT X a (tTruW X.K ta) := by
  refine ⟨fun pins s σ H Q I h => ?_⟩
  refine isTrue_plain (thn (ha.run pins s σ H _ I h) fun v s1 ⟨x, H1, I1, r1, k, q1, q2⟩ => ?_) (he _)
  rcases q1 with q1 | ⟨p, kvs, rfl, q1, rfl⟩
  · exact tru_ok pins s1 σ H1 x v Q I1 r1 ⟨k, q1, q2⟩
  · obtain rfl : v = Value.ref p := r1
    exact d_truth I1 q1 fun s2 I2 => ⟨H1, I2, q2⟩
instance semT_tru {ta : TE} {F : List Nat} {m : En → Res D} [ha : SemX K E ta F m] : SemT K E (tTruW K ta) F (mTru m) where
  ok := fun {env σ S H Q b} x e k => by
    obtain ⟨d, e1, e2⟩ := Res.of_ok e
    exact ha.ok x e1 fun v H' g r => ⟨b, truD_rep r e2, k H' g⟩
  ex := fun {env σ S H Q b} x e k => by
    rcases Res.of_ex e with e1 | ⟨d, e1, e2⟩
    · exact ha.ex x e1 k
    · exact (truD_ex e2).elim
/-! a value by truth: not x -/
def mUn (f : D → Res D) (m : En → Res D) : En → Res W := fun e => (m e).bind fun d => (f d).map .sh
class UnX (K : PySem.W.Frag) (r : V → Hp → VK → Prop) (f : outParam (D → Res D)) : Prop where
  ok : ∀ {H v d Q z}, Rep K H v d → f d = .ok z → (∀ y, (∀ S, Rep K S y z) → Q y H) → r v H Q
  ex : ∀ {d x}, f d = .ex x → False
instance semE_un {r : V → Hp → VK → Prop} {f : D → Res D} {ta : TE} {F : List Nat} {m : En → Res D} [hf : UnX K r f] [ha : SemX K E ta F m] : SemE K E (tUn r ta) F (mUn f m) where
  ok := fun {env σ S H Q w} x e k => by
    obtain ⟨d, e1, e2⟩ := Res.of_ok e
    obtain ⟨z, e3, rfl⟩ := Res.of_okm e2
    exact ha.ok x e1 fun v H' g r => hf.ok r e3 fun y h => k y S H' [] (.sh (.hp x.sub g) (h S))
  ex := fun {env σ S H Q w} x e k => by
    rcases Res.of_ex e with e1 | ⟨d, e1, e2⟩
    · exact ha.ex x e1 k
    · exact (hf.ex (Res.of_exm e2)).elim
instance unX_neg : UnX K (rU fun i => .int (-i)) negD where
  ok := fun {H v d Q z} r h k => by
    unfold negD at h
    split at h <;> first | cases h | skip
    cases r
    exact ⟨_, rfl, k _ fun S => .int _⟩
  ex := fun h => by unfold negD at h; split at h <;> cases h

/-! ### methods of texts -/
/-- o.m(e) of a text -/
class M1V (K : PySem.W.Frag) (r : V → List V → Hp → VK → Prop) (f : outParam (Str → D → Res W)) : Prop where
  ok : ∀ {S H a u e Q w}, Same S H → View K S H u e → f a e = .ok w → (∀ z S' H' fp, New K S H S' H' z w fp → Q z H') → r (.str a) [u] H Q
  ex : ∀ {a e x}, f a e = .ex x → False
def mM1 (f : Str → D → Res W) (ma mb : En → Res D) : En → Res W := fun e => (ma e).bind fun a => match a with
  | .str a => (mb e).bind fun b => f a b
  | _ => .st
instance semE_m1 {r : V → List V → Hp → VK → Prop} {f : Str → D → Res W} {ta tb : TE} {Fa Fb : List Nat} {ma mb : En → Res D} [hf : M1V K r f] [ha : SemX K E ta Fa ma] [hb : SemV K E tb Fb mb] : SemE K E (tM1 r ta tb) (Fa ++ Fb) (mM1 f ma mb) where
  ok := fun {env σ S H Q w} x e k => by
    obtain ⟨a, e1, e⟩ := Res.of_ok e
    split at e
    · obtain ⟨b, e2, e⟩ := Res.of_ok e
      refine ha.ok x e1 fun v H1 g1 r1 => ?_
      cases r1
      refine ⟨⟨_, rfl⟩, ?_⟩
      have y := Gr.hp x.sub g1
      exact hb.ok (x.gr y) e2 fun u S2 H2 g2 r2 => hf.ok g2.sub r2 e fun z S' H' fp n => k z S' H' fp (n.later (y.trans g2))
    · cases e
  ex := fun {env σ S H Q w} x e k => by
    rcases Res.of_ex e with e1 | ⟨a, e1, e⟩
    · exact ha.ex x e1 k
    · split at e
      · refine ha.ok x e1 fun v H1 g1 r1 => ?_
        cases r1
        refine ⟨⟨_, rfl⟩, ?_⟩
        have y := Gr.hp x.sub g1
        rcases Res.of_ex e with e2 | ⟨b, e2, e⟩
        · exact hb.ex (x.gr y) e2 fun c d H' s q => k c d H' (g1.trans s) q
        · exact (hf.ex e).elim
      · cases e
def rJoin (K : PySem.W.Frag) : V → List V → Hp → VK → Prop := fun x xs H Q => ∃ a p, ∃ ys : List Str, x = .str a ∧ xs = [.ref p] ∧ (SqL K H p (ys.map V.str) ∨ SqT K H p (ys.map V.str)) ∧
      (ys.map (·.length)).sum + ys.length * a.length ≤ 16777216 ∧ Q (.str (Txt.join a ys)) H
theorem pe_joinU {X : Cx} {o e : Expr} {to te : TE} {apos pos : Pos} (ho : PE X o to) (he : PE X e te) (hs : starEach [e] X.env = [(false, eval e X.env)] := by rfl) (hbase : attributeBase o "join" X.env (eval o X.env) = eval o X.env := by rfl) (hline : (apos.endLine == pos.line) = true := by rfl) :
    PE X (.Call (.Attribute o "join" apos) [e] [] pos) (tM1 (rJoin X.K) to te) := pe_join ho he hs hbase hline
def strsD : List D → Option (List Str)
  | [] => some []
  | .str x :: ds => (strsD ds).map fun xs => x :: xs
  | _ :: _ => none
theorem strsD_rep {S : Hp} : ∀ {vs : List V} {ds : List D} {xs : List Str}, Reps K S vs ds → strsD ds = some xs → vs = xs.map V.str
  | _, _, _, .nil, h => by cases h; rfl
  | _, _, _, .cons r t, h => by
    unfold strsD at h
    split at h
    · rename_i e; cases e
    · rename_i x ds e
      cases e
      obtain ⟨xs, h1, rfl⟩ := Option.map_eq_some_iff.mp h
      cases r
      rw [strsD_rep t h1]
      rfl
    · cases h
def joinD (a : Str) : D → Res W
  | .lst xs => match strsD xs with
    | some ys => if small ((ys.map (·.length)).sum + ys.length * a.length) then .ok (.sh (.str (Txt.join a ys))) else .st
    | none => .st
  | _ => .st
instance m1_join : M1V K (rJoin K) joinD where
  ok := fun {S H a u e Q w} hs r h k => by
    unfold joinD at h
    split at h <;> first | cases h | skip
    rename_i xs
    split at h <;> first | cases h | skip
    rename_i ys hy
    split at h <;> first | cases h | skip
    rename_i hz
    obtain ⟨p, vs, rfl, hp, q⟩ := r.lst_inv hs
    have := strsD_rep q hy
    subst this
    exact ⟨a, p, ys, rfl, rfl, .inl (SqL.of hp), by have := of_decide_eq_true hz; omega, k _ S H [] (.sh (.refl hs) (.str _))⟩
  ex := fun h => by
    unfold joinD at h
    repeat' split at h
    all_goals cases h

/-! ### displays of dicts -/
def mDicK : En → Res W := fun _ => .ok (.dic [] [])
def mDicT : En → Res W := fun _ => .ok (.dit [] [])
instance semE_dnewK : SemE K E tDNewK [] mDicK where
  ok := fun {env σ S H Q w} x e k => by
    cases e
    intro p hp
    exact k _ S _ [p] ⟨.hp x.sub fun a o q => by rw [upd_ne (ne_of_none q hp)]; exact q, .dic (ks := []) (vs := []) upd_same rfl .nil, by simp, fun q hq => by rw [List.mem_singleton.mp hq]; exact ⟨hp, x.sub.free hp⟩⟩
  ex := fun x e k => by cases e
instance semE_dnewT : SemE K E tDNewT [] mDicT where
  ok := fun {env σ S H Q w} x e k => by
    cases e
    intro p hp
    exact k _ S _ [p] ⟨.hp x.sub fun a o q => by rw [upd_ne (ne_of_none q hp)]; exact q, .dit (ks := []) (vs := []) upd_same rfl .nil, by simp, fun q hq => by rw [List.mem_singleton.mp hq]; exact ⟨hp, x.sub.free hp⟩⟩
  ex := fun x e k => by cases e
/-- the pairs of a display -/
class SemPP (K : PySem.W.Frag) (E : XK) (trs : List (TE × TE)) (F : outParam (List Nat)) (m : outParam (En → Res (List (D × D)))) : Prop where
  ok : ∀ {env σ S H Q ps}, Vw K env σ S H → m env = .ok ps → (∀ us vs S' H', Gr S H S' H' → Reps K S' us (ps.map (·.1)) → Reps K S' vs (ps.map (·.2)) → Q (us.zip vs) H') → tPairs trs σ H Q
  ex : ∀ {env σ S H Q x}, Vw K env σ S H → m env = .ex x → (∀ cls d H', Same H H' → XR K x cls d H' → E cls d H') → tPairs trs σ H Q
def mPNil : En → Res (List (D × D)) := fun _ => .ok []
def mPCons (mk mv : En → Res D) (mr : En → Res (List (D × D))) : En → Res (List (D × D)) := fun e => (mk e).bind fun k => (mv e).bind fun v => (mr e).map fun ps => (k, v) :: ps
instance semPP_nil : SemPP K E [] [] mPNil where
  ok := fun {env σ S H Q ps} x e k => by cases e; exact k [] [] S H (.refl x.sub) .nil .nil
  ex := fun x e k => by cases e
instance semPP_cons {tk tv : TE} {trs : List (TE × TE)} {Fk Fv Fr : List Nat} {mk mv : En → Res W} {mr : En → Res (List (D × D))} [hk : SemE K E tk Fk mk] [hv : SemE K E tv Fv mv] [hr : SemPP K E trs Fr mr] : SemPP K E ((tk, tv) :: trs) (Fk ++ Fv ++ Fr) (mPCons (mD mk) (mD mv) mr) where
  ok := fun {env σ S H Q w} x e k => by
    obtain ⟨a, e1, e⟩ := Res.of_ok e
    obtain ⟨b, e2, e⟩ := Res.of_ok e
    obtain ⟨ps, e3, rfl⟩ := Res.of_okm e
    refine hk.okD x e1 fun v S1 H1 g1 r1 => ?_
    refine hv.okD (x.gr g1) e2 fun u S2 H2 g2 r2 => ?_
    refine hr.ok ((x.gr g1).gr g2) e3 fun us vs S3 H3 g3 r3 r4 => ?_
    exact k (v :: us) (u :: vs) S3 H3 ((g1.trans g2).trans g3) (.cons ((r1.up g2.ss).up g3.ss) r3) (.cons (r2.up g3.ss) r4)
  ex := fun {env σ S H Q w} x e k => by
    rcases Res.of_ex e with e1 | ⟨a, e1, e⟩
    · exact hk.ex x (Res.of_exm e1) k
    refine hk.okD x e1 fun v S1 H1 g1 r1 => ?_
    rcases Res.of_ex e with e2 | ⟨b, e2, e⟩
    · exact hv.ex (x.gr g1) (Res.of_exm e2) fun c d H' s q => k c d H' (g1.hh.trans s) q
    refine hv.okD (x.gr g1) e2 fun u S2 H2 g2 r2 => ?_
    exact hr.ex ((x.gr g1).gr g2) (Res.of_exm e) fun c d H' s q => k c d H' ((g1.hh.trans g2.hh).trans s) q
theorem putK_out {κ : Type} [DecidableEq κ] {v : V} {k : κ} : ∀ {kvs : List (κ × V)}, k ∉ kvs.map (·.1) → putK kvs k v = kvs ++ [(k, v)] := fun {kvs} h => by
  apply putK_new
  unfold valV
  rw [Option.map_eq_none_iff, List.find?_eq_none]
  intro p hp he
  exact h (List.mem_map.mpr ⟨p, hp, of_decide_eq_true he⟩)
theorem merge_nodup : ∀ {more acc : List (Key × V)}, ((acc ++ more).map (·.1)).Nodup → mergeK acc more = acc ++ more
  | [], acc, _ => by show acc = acc ++ []; rw [List.append_nil]
  | p :: r, acc, h => by
    show mergeK (putK acc p.1 p.2) r = _
    have h1 : p.1 ∉ acc.map (·.1) := by
      rw [List.map_append, List.map_cons, List.nodup_append] at h
      exact fun z => h.2.2 _ z _ List.mem_cons_self rfl
    rw [putK_out h1, merge_nodup (by rw [List.append_assoc]; exact h)]
    simp
theorem keys_kV : ∀ {ds : List D} {vs : List V} {ks : List Key} {S : Hp}, Reps K S vs ds → toKs ds = some ks → vs = ks.map kV := fun r h => toKs_rep r h
theorem zip_map_fst {α β : Type} : ∀ {as : List α} {bs : List β}, as.length = bs.length → (as.zip bs).map (·.1) = as
  | [], [], _ => rfl
  | a :: as, b :: bs, h => by rw [List.zip_cons_cons, List.map_cons, zip_map_fst (by simpa using h)]
theorem zip_kV : ∀ (ks : List Key) (vs : List V), (ks.map kV).zip vs = (ks.zip vs).map fun kv => (kV kv.1, kv.2)
  | [], _ => by simp
  | _ :: _, [] => by simp
  | a :: as, b :: bs => by simp [zip_kV as bs]
def mDisp (mp : En → Res (List (D × D))) : En → Res W := fun e => (mp e).bind fun ps => match toKs (ps.map (·.1)) with
  | some ks => if ks.Nodup ∧ ps.length ≤ 15 then .ok (.dic ks (ps.map (·.2))) else .st
  | none => .st
instance semE_disp {trs : List (TE × TE)} {F : List Nat} {mp : En → Res (List (D × D))} [hp : SemPP K E trs F mp] : SemE K E (tDisp trs) F (mDisp mp) where
  ok := fun {env σ S H Q w} x e k => by
    obtain ⟨ps, e1, e⟩ := Res.of_ok e
    split at e
    · rename_i ks hks
      split at e
      · rename_i hc
        cases e
        intro p hpn
        have g0 : Gr S H S (upd H p (.dK [])) := .hp x.sub fun a o q => by rw [upd_ne (ne_of_none q hpn)]; exact q
        refine hp.ok (x.gr g0) e1 fun us vs S1 H1 g1 r1 r2 => ?_
        have e2 := toKs_rep r1 hks
        have hl : ks.length = vs.length := by
          have a1 := r1.len
          have a2 := r2.len
          rw [e2, List.length_map, List.length_map] at a1
          rw [List.length_map] at a2
          omega
        have hlps : ks.length = ps.length := by
          have a1 := r1.len
          rw [e2, List.length_map, List.length_map] at a1
          exact a1
        have hS : S1 p = none := g1.gone (x.sub.free hpn) (by rw [upd_same]; rfl)
        refine ⟨g1.hh _ _ upd_same, ks.zip vs, ?_, ?_, ?_⟩
        · rw [e2]
          exact zip_kV ks vs
        · rw [List.length_zip]; omega
        · rw [merge_nodup (by rw [List.nil_append, zip_map_fst hl]; exact hc.1), List.nil_append]
          have hh : Same H (upd H1 p (.dK (ks.zip vs))) := fun a o q => by
            rw [upd_ne (ne_of_none q hpn)]
            exact (g0.trans g1).hh a o q
          have gg := g0.trans g1
          exact k _ S1 _ [p] ⟨⟨gg.ss, hh, fun a o q => by rw [upd_ne (ne_of_none q hS)]; exact gg.sub a o q, gg.nw⟩, .dic upd_same hl.symm r2, by simp, fun q hq => by rw [List.mem_singleton.mp hq]; exact ⟨hpn, hS⟩⟩
      · cases e
    · cases e
  ex := fun {env σ S H Q w} x e k => by
    rcases Res.of_ex e with e1 | ⟨ps, e1, e⟩
    · intro p hpn
      have g0 : Gr S H S (upd H p (.dK [])) := .hp x.sub fun a o q => by rw [upd_ne (ne_of_none q hpn)]; exact q
      exact hp.ex (x.gr g0) e1 fun c d H' s q => k c d H' (g0.hh.trans s) q
    · split at e
      · split at e <;> cases e
      · cases e
end
end Ly

set_option Elab.async false
set_option linter.all false
set_option maxRecDepth 100000
namespace Ly
open PySem L2 PyProof.Rows
theorem room65 {k : Nat} {A : Around} (r : Room k A) : A.units + 65 < cLine := by have := r.un; omega
theorem passD {P : Program} {w : World} {K : PySem.W.Frag} {mg : Str → Option Value} {base : Heap} {N : List Str} {qual : Str} {scope : Scope} {f : Addr} {cd : Value} {A : Around} {outer : List Env} {s : Shared} {H : Hp} {E : XK} :
    Passes (L2.CX P w) (cxOf (L2.CX P w) P w K mg base N qual scope f cd A outer s H E) E := passes_call (W := fun cls d _ H => E cls d H) (takes_of rfl rfl rfl rfl) fun _ _ _ _ h => h
/-! the rules with the written part told -/
section
variable {X : Cx} (K : PySem.W.Frag) (hK : X.K = K)
include hK
theorem ke_eq (hu : X.A.units + 64 < cLine) : OpR X (compareOp .Eq) (rEqU K) := by subst hK; exact op_eqU hu
theorem ke_ne (hu : X.A.units + 64 < cLine) : OpR X (compareOp .NotEq) (rNeU K) := by subst hK; exact op_neU hu
theorem ke_in (hu : X.A.units + 65 < cLine) : OpR X (compareOp .In) (rInU K) := by subst hK; exact op_inU hu
theorem ke_notIn (hu : X.A.units + 65 < cLine) : OpR X (compareOp .NotIn) (rNotInU K) := by subst hK; exact op_notInU hu
theorem ke_add : OpR X (binaryOp .Add) (rAddU K) := by subst hK; exact op_addU
theorem ke_mul : OpR X (binaryOp .Mult) (rMulU K) := by subst hK; exact op_mulU
theorem ke_ix (hu : X.A.units + 1 < cLine) : IxR X (rIxU K) := by subst hK; exact ix_U hu
theorem ke_sl : SlR X (rSlU K) := by subst hK; exact sl_U
theorem ke_len : CallR X (.builtin "len") (rLen K) := by subst hK; exact call_lenU
theorem ke_isi : CallR X (.builtin "isinstance") (rIsi K) := by subst hK; exact call_isi
theorem kt_tru {a : Expr} {ta : TE} (ha : PE X a ta) (he : ∀ whole, isTrue a X.env whole = (do let v ← whole; standAt a.pos; holding [v] (truthy v)) := by intro _; rfl) : PT X a (tTruW K ta) := by subst hK; exact pt_tru ha he
theorem kp_join {o e : Expr} {to te : TE} {apos pos : Pos} (ho : PE X o to) (he : PE X e te) (hs : starEach [e] X.env = [(false, eval e X.env)] := by rfl) (hbase : attributeBase o "join" X.env (eval o X.env) = eval o X.env := by rfl) (hline : (apos.endLine == pos.line) = true := by rfl) :
    PE X (.Call (.Attribute o "join" apos) [e] [] pos) (tM1 (rJoin K) to te) := by subst hK; exact pe_joinU ho he hs hbase hline
theorem ki_U {tg e : Expr} {te : TE} (he : PE X e te) : PI X tg e (iU K te) := by subst hK; exact pi_U he
theorem ki_enum {e : Expr} {ta : TA} {p pos tpos : Pos} {elts : List Expr} {kk : Nat} (hg : Gl X "enumerate") (hm : X.mg "enumerate" = none) (ha : PA X [e] ta) (hs : starEach [e] X.env = [(false, eval e X.env)] := by rfl) :
    PI X (.Tuple elts kk tpos) (.Call (.Name "enumerate" p) [e] [] pos) (iEnum K ta) := by subst hK; exact pi_enum hg hm ha hs
theorem kg_tup {es : List Expr} {k : Nat} {t : TGs} {n : Nat} {pos : Pos} (hc : X.calm = true) (h : PGs X es t)
    (hn : (assignEach es X.env).length = n := by rfl) (hst : (assignEach es X.env).findIdx? (·.1) = none := by rfl) : PG X (.Tuple es k pos) (gTup K n t) := by subst hK; exact pg_tup hc h hn hst
end
end Ly

set_option Elab.async false
set_option linter.all false
set_option maxRecDepth 100000
/-! LyS: mirrors, evaluated step by step (simp). -/
namespace Ly
open PySem L2 PyProof.Rows
section
variable {f : D → D → Res W} {fx : D → D → Res D} {e : En} {i : Nat} {w : W} {d : D} {F : List Nat} {n : Nat}
@[simp] theorem a_mD (m : En → Res W) : mD m e = (m e).map W.toD := rfl
@[simp] theorem a_mK : mK d e = .ok (.sh d) := rfl
@[simp] theorem a_mVar : mVar i e = match e[i]? with
  | some (some (.sh d)) => .ok (.sh d)
  | _ => .st := rfl
@[simp] theorem a_mVarV : mVarV i e = match e[i]? with
  | some (some (.obj _ _ _)) => .st
  | some (some (.nst _)) => .st
  | some (some (.ntp _)) => .st
  | some (some w) => .ok w.toD
  | _ => .st := rfl
@[simp] theorem a_mVarX : mVarX i e = match e[i]? with
  | some (some w) => .ok w.toD
  | _ => .st := rfl
@[simp] theorem a_mOp (ma mb : En → Res D) : mOp f ma mb e = (ma e).bind fun a => (mb e).bind fun b => f a b := rfl
@[simp] theorem a_mOpX (ma mb : En → Res D) : mOpX fx ma mb e = (ma e).bind fun a => (mb e).bind fun b => (fx a b).map .sh := rfl
@[simp] theorem a_mTest (ma : En → Res D) : mTest ma e = (ma e).bind fun d => match d with
  | .bl b => .ok b
  | _ => .st := rfl
@[simp] theorem a_mAnd (ma mb : En → Res Bool) : mAnd ma mb e = (ma e).bind fun b => if b = true then mb e else .ok false := rfl
@[simp] theorem a_mOr (ma mb : En → Res Bool) : mOr ma mb e = (ma e).bind fun b => if b = true then .ok true else mb e := rfl
@[simp] theorem a_mNot (ma : En → Res Bool) : mNot ma e = (ma e).map (!·) := rfl
@[simp] theorem a_mBl (m : En → Res Bool) : mBl m e = (m e).map fun b => .sh (.bl b) := rfl
@[simp] theorem a_mAndV (ma mb : En → Res D) : mAndV ma mb e = (mAnd (mTest ma) (mTest mb) e).map fun b => .sh (.bl b) := rfl
@[simp] theorem a_mOrV (ma mb : En → Res D) : mOrV ma mb e = (mOr (mTest ma) (mTest mb) e).map fun b => .sh (.bl b) := rfl
@[simp] theorem a_mNotV (ma : En → Res D) : mNotV ma e = (mNot (mTest ma) e).map fun b => .sh (.bl b) := rfl
@[simp] theorem a_mIf (mc : En → Res Bool) (ma mb : En → Res W) : mIf mc ma mb e = (mc e).bind fun b => if b = true then ma e else mb e := rfl
@[simp] theorem a_mNil : mNil e = .ok [] := rfl
@[simp] theorem a_mCons (m : En → Res D) (mr : En → Res (List D)) : mCons m mr e = (m e).bind fun d => (mr e).map fun ds => d :: ds := rfl
@[simp] theorem a_mLst (ma : En → Res (List D)) : mLst ma e = (ma e).bind fun ds => if small ds.length then .ok (.lst ds) else .st := rfl
@[simp] theorem a_mTup (ma : En → Res (List D)) : mTup ma e = (ma e).bind fun ds => if small ds.length then .ok (.sh (.tup ds)) else .st := rfl
@[simp] theorem a_mAsg (Mu : List Nat) (me : En → Res W) : mAsg Mu F i me e = if free0 Mu i then (me (fz F e)).map fun w => .nx ((fz F e).set i (some (keepW Mu i w))) else .st := rfl
@[simp] theorem a_free0 (Mu : List Nat) : free0 Mu i = !Mu.contains (1000 + i) := rfl
@[simp] theorem a_mAsgT (Mu ts : List Nat) (me : En → Res W) (mg : D → En → Res En) : mAsgT Mu ts F me mg e = if ts.all (free0 Mu) then (mD me (fz F e)).bind fun d => (mg d (fz F e)).map .nx else .st := rfl
@[simp] theorem a_mName : mName i d e = .ok (e.set i (some (.sh d))) := rfl
@[simp] theorem a_mGNil0 : mGNil [] e = .ok e := rfl
@[simp] theorem a_mGCons (m : D → En → Res En) (mr : List D → En → Res En) (d : D) (ds : List D) : mGCons m mr (d :: ds) e = (m d e).bind fun e => mr ds e := rfl
@[simp] theorem a_mGTup (m : List D → En → Res En) (xs : List D) : mGTup n m (.tup xs) e = if xs.length = n then m xs e else .st := rfl
@[simp] theorem a_mSeq (a b : En → Res Fl) : mSeq a b e = (a e).bind fun r => match r with
  | .nx e => b e
  | r => .ok r := rfl
@[simp] theorem a_mNext : mNext e = .ok (.nx e) := rfl
@[simp] theorem a_mBreak : mBreak e = .ok (.bk e) := rfl
@[simp] theorem a_mCont : mCont e = .ok (.ct e) := rfl
@[simp] theorem a_mIfS (mc : En → Res Bool) (ma mb : En → Res Fl) : mIfS F mc ma mb e = (mc (fz F e)).bind fun b => if b = true then ma (fz F e) else mb (fz F e) := rfl
@[simp] theorem a_mDrop (me : En → Res W) : mDrop F me e = (me (fz F e)).map fun _ => .nx (fz F e) := rfl
@[simp] theorem a_mRet (me : En → Res W) : mRet F me e = (me (fz F e)).map .rt := rfl
@[simp] theorem a_mRetVar : mRetVar i e = match e[i]? with
  | some (some w) => .ok (.rt w)
  | _ => .st := rfl
@[simp] theorem a_mRetN : mRetN e = .ok (.rt (.sh .non)) := rfl
@[simp] theorem a_mFor (Mu ts : List Nat) (mi : En → Res (List D)) (mg : D → En → Res En) (mb : En → Res Fl) : mFor Mu ts F mi mg mb e = if ts.all (free0 Mu) then (mi (fz F e)).bind fun ds => runL mg mb ds (fz F e) else .st := rfl
@[simp] theorem a_mAppend (ma : En → Res (List D)) : mAppend F i ma e = match (fz F e)[i]? with
  | some (some (.lst xs)) => (ma (fz F e)).bind fun ds => match ds with
    | [d] => if small xs.length then .ok (.nx ((fz F e).set i (some (.lst (xs ++ [d]))))) else .st
    | _ => .st
  | _ => .st := rfl
@[simp] theorem a_mItems (m : En → Res D) : mItems m e = (m e).bind itemsD := rfl
@[simp] theorem a_mRng1 (m : En → Res (List D)) : mRng1 m e = (m e).bind rng1D := rfl
@[simp] theorem a_mRng2 (m : En → Res (List D)) : mRng2 m e = (m e).bind rng2D := rfl
@[simp] theorem a_mEnum (m : En → Res (List D)) : mEnum m e = (m e).bind enumItems := rfl
@[simp] theorem a_mTrue : mTrue e = .ok true := rfl
@[simp] theorem a_mLc (ts vs : List Nat) (mi : En → Res (List D)) (mg : D → En → Res En) (mt : En → Res Bool) (me : En → Res D) : mLc ts vs mi mg mt me e = if ts.all (fun i => vs.contains i) then
  (mi e).bind fun ds => (noEx (runC mg mt me ds (wipeE e vs))).bind fun ys => if small ys.length then .ok (.lst ys) else .st
  else .st := rfl
@[simp] theorem a_mCal (f : List D → Res W) (ma : En → Res (List D)) : mCal f ma e = (ma e).bind f := rfl
@[simp] theorem a_mCall (f : List D → Res W) (ma mx : En → Res (List D)) : mCall n f ma mx e = match ma e with
  | .ok ds => asked n f ds
  | .ex x => .ex x
  | .st => (mx e).bind fun ds => onlyFlat (asked n f ds) := rfl
@[simp] theorem a_asked (f : List D → Res W) (ds : List D) : asked n f ds = if ds.length = n then f ds else .st := rfl
@[simp] theorem a_mChain (f g : D → D → Res D) (ma mb mc : En → Res D) : mChain f g ma mb mc e = (ma e).bind fun a => (mb e).bind fun b => (f a b).bind fun t => match t with
  | .bl true => (mc e).bind fun c => (g b c).map .sh
  | .bl false => .ok (.sh (.bl false))
  | _ => .st := rfl
@[simp] theorem a_mSl (ma : En → Res D) (ml mh : En → Res (Option Int)) : mSl ma ml mh e = (ma e).bind fun a => (ml e).bind fun l => (mh e).bind fun h => slD a l h := rfl
@[simp] theorem a_mNoPart : mNoPart e = .ok none := rfl
@[simp] theorem a_mPart (m : En → Res D) : mPart m e = (m e).bind fun d => match d with
  | .int i => .ok (some i)
  | _ => .st := rfl
@[simp] theorem a_mTru (m : En → Res D) : mTru m e = (m e).bind truD := rfl
@[simp] theorem a_mUn (f : D → Res D) (m : En → Res D) : mUn f m e = (m e).bind fun d => (f d).map .sh := rfl
@[simp] theorem a_mM1 (f : Str → D → Res W) (ma mb : En → Res D) : mM1 f ma mb e = (ma e).bind fun a => match a with
  | .str a => (mb e).bind fun b => f a b
  | _ => .st := rfl
@[simp] theorem a_mDicK : mDicK e = .ok (.dic [] []) := rfl
@[simp] theorem a_mDicT : mDicT e = .ok (.dit [] []) := rfl
@[simp] theorem a_mPNil : mPNil e = .ok [] := rfl
@[simp] theorem a_mPCons (mk mv : En → Res D) (mr : En → Res (List (D × D))) : mPCons mk mv mr e = (mk e).bind fun k => (mv e).bind fun v => (mr e).map fun ps => (k, v) :: ps := rfl
@[simp] theorem a_mDisp (mp : En → Res (List (D × D))) : mDisp mp e = (mp e).bind fun ps => match toKs (ps.map (·.1)) with
  | some ks => if ks.Nodup ∧ ps.length ≤ 15 then .ok (.dic ks (ps.map (·.2))) else .st
  | none => .st := rfl
@[simp] theorem a_runD (m : En → Res Fl) (ds : List D) : runD n m ds = (m (slots n ds)).bind fun r => match r with
  | .rt w => .ok w
  | .nx _ => .ok (.sh .non)
  | _ => .st := rfl
@[simp] theorem a_fz0 : fz [] e = e := rfl
@[simp] theorem a_fzc (F : List Nat) : fz (i :: F) e = fz F (fz1 i e) := rfl
@[simp] theorem a_fz1 : fz1 i e = match e[i]? with
  | some (some w) => e.set i (some (.sh w.toD))
  | _ => e := rfl
@[simp] theorem a_keepW (Mu : List Nat) : keepW Mu i w = if Mu.contains i then w else .sh w.toD := rfl
@[simp] theorem a_toD1 : (W.sh d).toD = d := by unfold W.toD; rfl
@[simp] theorem a_toD2 (xs : List D) : (W.lst xs).toD = .lst xs := by unfold W.toD; rfl
@[simp] theorem a_toD3 (ks : List Key) (xs : List D) : (W.dic ks xs).toD = .dic ks xs := by unfold W.toD; rfl
@[simp] theorem a_toD4 (ks : List (List Key)) (xs : List D) : (W.dit ks xs).toD = .dit ks xs := by unfold W.toD; rfl
@[simp] theorem a_slots (ds : List D) : slots n ds = ds.map (fun d => some (W.sh d)) ++ List.replicate (n - ds.length) none := rfl
@[simp] theorem a_wipe0 : wipeE e [] = e := rfl
@[simp] theorem a_wipec (vs : List Nat) : wipeE e (i :: vs) = (wipeE e vs).set i none := rfl
@[simp] theorem a_noEx_ok {α : Type} (a : α) : noEx (.ok a) = .ok a := rfl
@[simp] theorem a_onlyFlat (w : W) : onlyFlat (.ok w) = if flatW w then .ok w else .st := rfl
@[simp] theorem a_flatW (d : D) : flatW (.sh d) = immD d := rfl
@[simp] theorem a_flatWl (xs : List D) : flatW (.lst xs) = immDs xs := rfl
@[simp] theorem a_flatWd (ks : List Key) (xs : List D) : flatW (.dic ks xs) = immDs xs := rfl
@[simp] theorem immD_bl (b : Bool) : immD (.bl b) = true := rfl
@[simp] theorem immD_int (n : Int) : immD (.int n) = true := rfl
@[simp] theorem immD_str (z : Str) : immD (.str z) = true := rfl
@[simp] theorem immD_non : immD .non = true := rfl
@[simp] theorem immD_tup (xs : List D) : immD (.tup xs) = immDs xs := rfl
@[simp] theorem immDs_nil : immDs [] = true := rfl
@[simp] theorem immDs_cons (d : D) (ds : List D) : immDs (d :: ds) = (immD d && immDs ds) := rfl
@[simp] theorem immDs_map {α : Type} (f : α → D) (xs : List α) : immDs (xs.map f) = xs.all fun x => immD (f x) := by
  induction xs with
  | nil => rfl
  | cons x r ih => rw [List.map_cons, List.all_cons, ← ih]; rfl
@[simp] theorem a_small {n : Nat} (h : n ≤ 10000000) : small n = true := decide_eq_true h
@[simp] theorem a_runL0 (mg : D → En → Res En) (mb : En → Res Fl) : runL mg mb [] e = .ok (.nx e) := rfl
theorem a_runLc (mg : D → En → Res En) (mb : En → Res Fl) (d : D) (ds : List D) : runL mg mb (d :: ds) e = (mg d e).bind fun e => (mb e).bind fun r => match r with
    | .nx e => runL mg mb ds e
    | .ct e => runL mg mb ds e
    | .bk e => .ok (.nx e)
    | .rt w => .ok (.rt w) := rfl
@[simp] theorem a_runC0 (mg : D → En → Res En) (mt : En → Res Bool) (me : En → Res D) : runC mg mt me [] e = .ok [] := rfl
theorem a_runCc (mg : D → En → Res En) (mt : En → Res Bool) (me : En → Res D) (d : D) (ds : List D) : runC mg mt me (d :: ds) e = (mg d e).bind fun e' => (mt e').bind fun b => if b = true then (me e').bind fun y => (runC mg mt me ds e).map fun ys => y :: ys else runC mg mt me ds e := rfl
/-! operators on what they take -/
@[simp] theorem v_addi (a b : Int) : addD (.int a) (.int b) = .ok (.sh (.int (a + b))) := rfl
@[simp] theorem v_adds (a b : Str) : addD (.str a) (.str b) = if small (a.length + b.length) then .ok (.sh (.str (a ++ b))) else .st := rfl
@[simp] theorem v_addl (a b : List D) : addD (.lst a) (.lst b) = if small (a.length + b.length) then .ok (.lst (a ++ b)) else .st := rfl
@[simp] theorem v_sub (a b : Int) : subD (.int a) (.int b) = .ok (.int (a - b)) := rfl
@[simp] theorem v_mod (a b : Int) : modD (.int a) (.int b) = if 0 < b then .ok (.int (a % b)) else .st := rfl
@[simp] theorem v_fdiv (a b : Int) : fdivD (.int a) (.int b) = if 0 < b ∧ b < big60 then .ok (.int (a / b)) else .st := rfl
@[simp] theorem v_pow (a b : Int) : powD (.int a) (.int b) = if 0 ≤ b ∧ b ≤ 1000000 ∧ -(2 ^ 64) < a ∧ a < 2 ^ 64 then .ok (.int (a ^ b.toNat)) else .st := rfl
@[simp] theorem v_muli (a b : Int) : mulD (.int a) (.int b) = if (-(2 ^ 64) < a ∧ a < 2 ^ 64) ∨ (-(2 ^ 64) < b ∧ b < 2 ^ 64) then .ok (.sh (.int (a * b))) else .st := rfl
@[simp] theorem v_mull (a : List D) (k : Int) : mulD (.lst a) (.int k) = if small (a.length * k.toNat) && decide (-1000000 ≤ k) && decide (k ≤ 1000000) then .ok (.lst (List.replicate k.toNat a).flatten) else .st := rfl
@[simp] theorem v_eqi (a b : Int) : eqB (.int a) (.int b) = .ok (.bl (decide (a = b))) := rfl
@[simp] theorem v_eqs (a b : Str) : eqB (.str a) (.str b) = .ok (.bl (decide (a = b))) := rfl
@[simp] theorem v_eqb (a b : Bool) : eqB (.bl a) (.bl b) = .ok (.bl (decide (a = b))) := rfl
@[simp] theorem v_nei (a b : Int) : neB (.int a) (.int b) = .ok (.bl (!decide (a = b))) := rfl
@[simp] theorem v_nes (a b : Str) : neB (.str a) (.str b) = .ok (.bl (!decide (a = b))) := rfl
@[simp] theorem v_lti (a b : Int) : ltD (.int a) (.int b) = .ok (.bl (decide (a < b))) := rfl
@[simp] theorem v_lei (a b : Int) : leD (.int a) (.int b) = .ok (.bl (decide (a ≤ b))) := rfl
@[simp] theorem v_gti (a b : Int) : gtD (.int a) (.int b) = .ok (.bl (decide (b < a))) := rfl
@[simp] theorem v_gei (a b : Int) : geD (.int a) (.int b) = .ok (.bl (decide (b ≤ a))) := rfl
@[simp] theorem v_lts (a b : Str) : ltD (.str a) (.str b) = .ok (.bl (strLt a b)) := rfl
@[simp] theorem v_les (a b : Str) : leD (.str a) (.str b) = .ok (.bl (!strLt b a)) := rfl
@[simp] theorem v_abs (i : Int) : absD [.int i] = .ok (.sh (.int (if i < 0 then -i else i))) := rfl
@[simp] theorem v_max2 (i j : Int) : max2D [.int i, .int j] = .ok (.sh (.int (if j > i then j else i))) := rfl
@[simp] theorem v_min2 (i j : Int) : min2D [.int i, .int j] = .ok (.sh (.int (if j < i then j else i))) := rfl
@[simp] theorem v_lens (z : Str) : lenD [.str z] = if small z.length then .ok (.sh (.int z.length)) else .st := rfl
@[simp] theorem v_lenl (xs : List D) : lenD [.lst xs] = .ok (.sh (.int xs.length)) := rfl
@[simp] theorem v_lent (xs : List D) : lenD [.tup xs] = .ok (.sh (.int xs.length)) := rfl
@[simp] theorem v_lenr (xs : List Int) : lenD [.scr xs] = .ok (.sh (.int xs.length)) := rfl
@[simp] theorem v_trub (b : Bool) : truD (.bl b) = .ok b := rfl
@[simp] theorem v_iteml (xs : List D) : itemsD (.lst xs) = .ok xs := rfl
@[simp] theorem v_itemt (xs : List D) : itemsD (.tup xs) = .ok xs := rfl
@[simp] theorem v_itemr (xs : List Int) : itemsD (.scr xs) = .ok (xs.map D.int) := rfl
@[simp] theorem v_items (z : Str) : itemsD (.str z) = .ok (z.cps.toList.map sign) := rfl
@[simp] theorem v_enuml (xs : List D) : enumItems [.lst xs] = .ok (enumD 0 xs) := rfl
@[simp] theorem v_enumr (xs : List Int) : enumItems [.scr xs] = .ok (enumD 0 (xs.map D.int)) := rfl
@[simp] theorem v_sll (xs : List D) (lo hi : Option Int) : slD (.lst xs) lo hi = .ok (.lst (cutD xs lo hi)) := rfl
@[simp] theorem v_slr (ns : List Int) (lo hi : Option Int) : slD (.scr ns) lo hi = .ok (.lst ((cutD ns lo hi).map D.int)) := rfl
@[simp] theorem v_sls (z : Str) (lo hi : Option Int) : slD (.str z) lo hi = if small z.length then .ok (.sh (.str (cutS z lo hi))) else .st := rfl
@[simp] theorem v_ixl (xs : List D) (i : Int) : ixD (.lst xs) (.int i) = match atI xs i with
    | some d => .ok (.sh d)
    | none => .st := rfl
@[simp] theorem v_ixt (xs : List D) (i : Int) : ixD (.tup xs) (.int i) = match atI xs i with
    | some d => .ok (.sh d)
    | none => .st := rfl
@[simp] theorem v_ixr (xs : List Int) (i : Int) : ixD (.scr xs) (.int i) = match atI xs i with
    | some n => .ok (.sh (.int n))
    | none => .st := rfl
@[simp] theorem v_ixs (z : Str) (i : Int) : ixD (.str z) (.int i) = if small z.length then match atI z.cps.toList i with
    | some c => .ok (.sh (.str ⟨#[c]⟩))
    | none => .st
    else .st := rfl
@[simp] theorem v_isi (x : D) (n : String) : isiD [x, .ty n] = match tyD x with
    | some a => match isTy a n with
      | some b => .ok (.sh (.bl b))
      | none => .st
    | none => .st := rfl
end
/-! loops by what holds -/
/-- a for that goes through -/
theorem runL_goes {mg : D → En → Res En} {mb : En → Res Fl} (I : Nat → En → Prop) : ∀ (ds : List D) (k : Nat) (env : En), I k env →
    (∀ i d env, ds[i]? = some d → I (k + i) env → ∃ e e', mg d env = .ok e ∧ (mb e = .ok (.nx e') ∨ mb e = .ok (.ct e')) ∧ I (k + i + 1) e') →
    ∃ env', runL mg mb ds env = .ok (.nx env') ∧ I (k + ds.length) env'
  | [], k, env, h, _ => ⟨env, rfl, h⟩
  | d :: ds, k, env, h, step => by
    obtain ⟨e, e', h1, h2, h3⟩ := step 0 d env rfl h
    obtain ⟨env', h4, h5⟩ := runL_goes I ds (k + 1) e' h3 fun i x env hx hi => by
      have q := step (i + 1) x env (by simpa using hx) (by rw [show k + (i + 1) = k + 1 + i by omega]; exact hi)
      rw [show k + (i + 1) + 1 = k + 1 + i + 1 by omega] at q
      exact q
    refine ⟨env', ?_, by rw [List.length_cons, show k + (ds.length + 1) = k + 1 + ds.length by omega]; exact h5⟩
    rw [a_runLc, h1, Res.bind_ok]
    rcases h2 with h2 | h2 <;> rw [h2, Res.bind_ok] <;> exact h4
/-- a comprehension, item by item -/
theorem runC_map {mg : D → En → Res En} {mt : En → Res Bool} {me : En → Res D} {env : En} {α : Type} (g : α → D) (f : α → D) : ∀ (xs : List α), (∀ x ∈ xs, ∃ e, mg (g x) env = .ok e ∧ mt e = .ok true ∧ me e = .ok (f x)) →
    runC mg mt me (xs.map g) env = .ok (xs.map f)
  | [], _ => rfl
  | x :: xs, h => by
    obtain ⟨e, h1, h2, h3⟩ := h x List.mem_cons_self
    rw [List.map_cons, a_runCc, h1, Res.bind_ok, h2, Res.bind_ok, if_pos rfl, h3, Res.bind_ok, runC_map g f xs fun y hy => h y (List.mem_cons_of_mem _ hy)]
    rfl
theorem runC_filter {mg : D → En → Res En} {mt : En → Res Bool} {me : En → Res D} {env : En} {α : Type} (g : α → D) (p : α → Bool) (f : α → D) : ∀ (xs : List α), (∀ x ∈ xs, ∃ e, mg (g x) env = .ok e ∧ mt e = .ok (p x) ∧ (p x = true → me e = .ok (f x))) →
    runC mg mt me (xs.map g) env = .ok ((xs.filter p).map f)
  | [], _ => rfl
  | x :: xs, h => by
    obtain ⟨e, h1, h2, h3⟩ := h x List.mem_cons_self
    rw [List.map_cons, a_runCc, h1, Res.bind_ok, h2, Res.bind_ok, runC_filter g p f xs fun y hy => h y (List.mem_cons_of_mem _ hy)]
    cases hp : p x with
    | true => rw [if_pos rfl, h3 hp, List.filter_cons_of_pos hp]; rfl
    | false => rw [if_neg Bool.false_ne_true, List.filter_cons_of_neg (by rw [hp]; exact Bool.false_ne_true)]
theorem v_join {a : Str} {xs : List D} {ys : List Str} (h : strsD xs = some ys) (hz : (ys.map fun z => z.length).sum + ys.length * a.length ≤ 10000000) : joinD a (.lst xs) = .ok (.sh (.str (Txt.join a ys))) := by
  simp only [joinD]
  rw [h]
  show (if small _ = true then _ else _) = _
  rw [if_pos (a_small hz)]
end Ly

set_option Elab.async false
set_option linter.all false
set_option maxRecDepth 100000
namespace Ly
open PySem L2 PyProof.Rows

/-! ### texts in order -/
def leS (a b : Str) : Bool := !strLt b a
def sortS (xs : List Str) : List Str := xs.mergeSort leS
theorem leS_iff {a b : Str} : leS a b = true ↔ a.cps.toList ≤ b.cps.toList := by
  unfold leS strLt
  simp only [Bool.not_eq_true', decide_eq_false_iff_not]
  exact List.not_lt
theorem leS_trans (a b c : Str) (h : leS a b = true) (h' : leS b c = true) : leS a c = true := leS_iff.mpr (List.le_trans (leS_iff.mp h) (leS_iff.mp h'))
theorem leS_total (a b : Str) : (leS a b || leS b a) = true := by
  rcases List.le_total a.cps.toList b.cps.toList with h | h
  · rw [leS_iff.mpr h]; rfl
  · rw [leS_iff.mpr h, Bool.or_true]
theorem leS_anti {a b : Str} (h : leS a b = true) (h' : leS b a = true) : a = b := by
  have e := List.le_antisymm (leS_iff.mp h) (leS_iff.mp h')
  obtain ⟨⟨a⟩⟩ := a
  obtain ⟨⟨b⟩⟩ := b
  cases e
  rfl
theorem risingS_pw : ∀ (p : Str) (l : List Str), risingS p l = true → (p :: l).Pairwise fun a b => leS a b = true
  | p, [], _ => by simp
  | p, x :: r, h => by
    unfold risingS at h
    rw [Bool.and_eq_true] at h
    have ih := risingS_pw x r h.2
    have h1 : leS p x = true := by
      have := h.1
      rw [ltCps_eq] at this
      exact this
    refine List.pairwise_cons.mpr ⟨fun y hy => ?_, ih⟩
    rcases List.mem_cons.mp hy with rfl | hy
    · exact h1
    · exact leS_trans _ _ _ h1 (List.rel_of_pairwise_cons ih hy)
theorem sortS_pw (xs : List Str) : (sortS xs).Pairwise fun a b => leS a b = true := List.pairwise_mergeSort leS_trans leS_total xs
theorem sortS_of {xs ys : List Str} (hp : ys.Perm xs) (hs : sortedS ys = true) : ys = sortS xs := by
  have h1 : ys.Pairwise fun a b => leS a b = true := by
    cases ys with
    | nil => simp
    | cons x r => exact risingS_pw x r hs
  exact List.Perm.eq_of_pairwise (le := fun a b => leS a b = true) (fun a b _ _ h h' => leS_anti h h') h1 (sortS_pw xs) (hp.trans (List.mergeSort_perm xs leS).symm)

/-! ### keys as data -/
def kD : Key → D
  | .inl i => .int i
  | .inr z => .str z
theorem kD_rep {K : PySem.W.Frag} {S : Hp} (k : Key) : Rep K S (kV k) (kD k) := by
  cases k with
  | inl i => exact .int i
  | inr z => exact .str z
theorem kDs_rep {K : PySem.W.Frag} {S : Hp} : ∀ ks : List Key, Reps K S (ks.map kV) (ks.map kD)
  | [] => .nil
  | k :: ks => .cons (kD_rep k) (kDs_rep ks)
/-! put -/
section
variable {κ : Type} [DecidableEq κ]
def putKs (ks : List κ) (k : κ) : List κ := if k ∈ ks then ks else ks ++ [k]
def putXs {α : Type} (ks : List κ) (xs : List α) (k : κ) (x : α) : List α := if k ∈ ks then List.zipWith (fun k' x' => if k' = k then x else x') ks xs else xs ++ [x]
theorem zip_same : ∀ (ks : List κ) (vs : List V) (k : κ) (v : V), vs.length = ks.length → (ks.zip vs).map (fun kv => if kv.1 = k then (kv.1, v) else kv) = ks.zip (List.zipWith (fun k' x' => if k' = k then v else x') ks vs)
  | [], [], _, _, _ => rfl
  | a :: ks, b :: vs, k, v, h => by
    rw [List.zip_cons_cons, List.map_cons, List.zipWith_cons_cons, List.zip_cons_cons, zip_same ks vs k v (by simpa using h)]
    by_cases e : a = k
    · simp [e]
    · simp [e]
theorem zip_any : ∀ (ks : List κ) (vs : List V) (k : κ), vs.length = ks.length → ((ks.zip vs).any fun kv => decide (kv.1 = k)) = decide (k ∈ ks)
  | [], [], _, _ => by simp
  | a :: ks, b :: vs, k, h => by
    rw [List.zip_cons_cons, List.any_cons, zip_any ks vs k (by simpa using h)]
    by_cases e : a = k
    · simp [e]
    · have e' : k ≠ a := fun z => e z.symm
      simp [e, e']
theorem putK_zip (ks : List κ) (vs : List V) (k : κ) (v : V) (h : vs.length = ks.length) : putK (ks.zip vs) k v = (putKs ks k).zip (putXs ks vs k v) := by
  unfold putK putKs putXs
  rw [zip_any ks vs k h]
  by_cases e : k ∈ ks
  · simp only [e, decide_true, if_true]
    exact zip_same ks vs k v h
  · simp only [e, decide_false, if_false, Bool.false_eq_true]
    rw [List.zip_append h.symm]
    rfl
theorem put_len {α : Type} (ks : List κ) (xs : List α) (k : κ) (x : α) (h : xs.length = ks.length) : (putXs ks xs k x).length = (putKs ks k).length := by
  unfold putKs putXs
  by_cases e : k ∈ ks
  · simp [e, h]
  · simp [e, h]
theorem put_rep {K : PySem.W.Frag} {S : Hp} {v : V} {d : D} (r : Rep K S v d) (ks : List κ) (k : κ) {vs : List V} {xs : List D} (q : Reps K S vs xs) : Reps K S (putXs ks vs k v) (putXs ks xs k d) := by
  unfold putXs
  by_cases e : k ∈ ks
  · simp only [e, if_true]
    clear e
    induction ks generalizing vs xs with
    | nil => exact .nil
    | cons a ks ih =>
      cases q with
      | nil => exact .nil
      | cons q1 q2 =>
        rw [List.zipWith_cons_cons, List.zipWith_cons_cons]
        by_cases z : a = k
        · simp only [z, if_true]; exact .cons r (ih q2)
        · simp only [z, if_false]; exact .cons q1 (ih q2)
  · simp only [e, if_false]
    exact q.app (.cons r .nil)
end
def putDic (k : D) (x : D) : W → Res W
  | .dic ks xs => match toK k with
    | some key => if small ks.length then .ok (.dic (putKs ks key) (putXs ks xs key x)) else .st
    | none => .st
  | .dit ks xs => match k with
    | .tup ds => match toKs ds with
      | some key => if small ks.length then .ok (.dit (putKs ks key) (putXs ks xs key x)) else .st
      | none => .st
    | _ => .st
  | _ => .st
def mDPut (F : List Nat) (i : Nat) (mk mv : En → Res D) : En → Res Fl := fun env => (mv (fz F env)).bind fun x => match (fz F env)[i]? with
  | some (some w) => (mk (fz F env)).bind fun k => (putDic k x w).map fun w' => .nx ((fz F env).set i (some w'))
  | _ => .st
theorem putDic_ex {k x : D} {w : W} {z : Xc} (h : putDic k x w = .ex z) : False := by
  unfold putDic at h
  repeat' split at h
  all_goals cases h
theorem putDic_ok {K : PySem.W.Frag} {f : Fm} {B S0 S H : Hp} {env : En} {σ : L2.St} {i : Nat} {w w' : W} {u y v : V} {k d : D} {nx : L2.St → Hp → Prop} (x : StOk K f B S0 env σ S H) (e : env[i]? = some (some w)) (a : σ[i]? = some (some u)) (rk : Rep K S y k) (rv : Rep K S v d) (h : putDic k d w = .ok w')
    (q : ∀ H', StOk K f B S0 (env.set i (some w')) σ S H' → nx σ H') : ∃ a H4, u = .ref a ∧ DPut H a y v H4 ∧ nx σ H4 := by
  obtain ⟨u', fp', a', b', c'⟩ := x.vw.at_ i _ e
  rw [a] at a'
  cases a'
  unfold putDic at h
  split at h
  · split at h <;> first | cases h | skip
    rename_i key hkey
    split at h <;> first | cases h | skip
    rename_i hs
    cases b' with
    | dic hp hl hr =>
      refine ⟨_, _, rfl, .inl ⟨_, key, hp, toK_rep rk hkey, by rw [List.length_zip, hl, Nat.min_self]; exact small_line hs, rfl⟩, ?_⟩
      rw [putK_zip _ _ _ _ hl]
      refine q _ (x.mut e (fun fq o => ?_) a (.dic upd_same (put_len _ _ _ _ hl) (put_rep rv _ _ hr)))
      cases o; rfl
  · split at h <;> first | cases h | skip
    rename_i ds
    split at h <;> first | cases h | skip
    rename_i key hkey
    split at h <;> first | cases h | skip
    rename_i hs
    cases b' with
    | dit hp hl hr =>
      cases rk with
      | tup e3 q3 =>
        refine ⟨_, _, rfl, .inr ⟨_, key, _, hp, rfl, by rw [x.sub _ _ e3, toKs_rep q3 hkey], by rw [List.length_zip, hl, Nat.min_self]; exact small_line hs, rfl⟩, ?_⟩
        rw [putK_zip _ _ _ _ hl]
        refine q _ (x.mut e (fun fq o => ?_) a (.dit upd_same (put_len _ _ _ _ hl) (put_rep rv _ _ hr)))
        cases o; rfl
  · cases h
section
variable {K : PySem.W.Frag} {Mu : List Nat} {E : XK}
instance semS_dput {i : Nat} {tk tv : TE} {Fk Fv : List Nat} {mk mv : En → Res W} [hv : SemE K E tv Fv mv] [hk : SemE K E tk Fk mk] : SemS K Mu E (sDPut (tVar i) tk tv) (mDPut (Fv ++ Fk) i (mD mk) (mD mv)) where
  run := fun {f B S0 D env σ S H} hm x p => by
    obtain ⟨S1, x1, s1⟩ := x.fz (Fv ++ Fk)
    unfold mDPut at p
    cases ev : mD mv (fz (Fv ++ Fk) env) with
    | ex z => rw [ev] at p; exact hv.ex x1.vw (Res.of_exm ev) (xr_up x1.base p)
    | st => rw [ev] at p; exact p.elim
    | ok d =>
      rw [ev] at p
      simp only [Res.bind_ok] at p
      refine hv.okD x1.vw ev fun v S2 H2 g2 r2 => ?_
      have x2 := x1.gr g2
      split at p
      · rename_i w e
        obtain ⟨u, fp, a, b, c⟩ := x2.vw.at_ i _ e
        refine ⟨u, a, ?_⟩
        cases ek : mD mk (fz (Fv ++ Fk) env) with
        | st => rw [ek] at p; exact p.elim
        | ex z => rw [ek] at p; exact hk.ex x2.vw (Res.of_exm ek) (xr_up x2.base p)
        | ok kd =>
          rw [ek] at p
          simp only [Res.bind_ok] at p
          refine hk.okD x2.vw ek fun y S3 H3 g3 r3 => ?_
          cases ep : putDic kd d w with
          | st => rw [ep] at p; exact p.elim
          | ex z => exact (putDic_ex ep).elim
          | ok w' =>
            rw [ep] at p
            exact putDic_ok (x2.gr g3) e a r3 (r2.up g3.ss) ep fun H' x' => p _ _ _ x' ((s1.trans g2.ss).trans g3.ss)
      · exact p.elim
/-! d.clear() -/
def mDClear (i : Nat) : En → Res Fl := fun env => match env[i]? with
  | some (some (.dic ks xs)) => .ok (.nx (env.set i (some (.dic [] []))))
  | _ => .st
instance semS_dclear {i : Nat} : SemS K Mu E (tDrop (tBM0 K "dict" rDClear (tVar i))) (mDClear i) where
  run := fun {f B S0 D env σ S H} hm x p => by
    unfold mDClear at p
    split at p
    · rename_i ks xs e
      obtain ⟨u, fp, a, b, c⟩ := x.vw.at_ i _ e
      cases b with
      | dic hp hl hr =>
        refine ⟨_, a, .inr (.inr (.inl ⟨rfl, .inl ⟨_, hp⟩⟩)), _, _, rfl, rfl, hp, ?_⟩
        refine p _ _ _ (x.mut e (fun fq o => ?_) a (.dic (ks := []) (vs := []) upd_same rfl .nil)) (Same.refl S)
        cases o; rfl
    · exact p.elim
/-! xs.clear() -/
def mLClear (i : Nat) : En → Res Fl := fun env => match env[i]? with
  | some (some (.lst xs)) => .ok (.nx (env.set i (some (.lst []))))
  | _ => .st
instance semS_lclear {i : Nat} : SemS K Mu E (tDrop (tBM0 K "list" rClear (tVar i))) (mLClear i) where
  run := fun {f B S0 D env σ S H} hm x p => by
    unfold mLClear at p
    split at p
    · rename_i xs e
      obtain ⟨u, fp, a, b, c⟩ := x.vw.at_ i _ e
      cases b with
      | lst hp hr =>
        refine ⟨_, a, .inl ⟨rfl, _, SqL.of hp⟩, _, _, rfl, rfl, hp, ?_⟩
        refine p _ _ _ (x.mut e (fun fq o => ?_) a (.lst upd_same .nil)) (Same.refl S)
        cases o; rfl
    · exact p.elim
/-! what is never reached -/
def mNever : En → Res Fl := fun _ => .st
instance semS_never : SemS K Mu E tNever mNever where
  run := fun _ _ p => p.elim
end

/-! ### built-in calls: sorted, str, int, dict, list -/
section
variable {K : PySem.W.Frag}
def rSortedDc : List V → Hp → VK → Prop := fun xs H Q => ∃ (a : Addr) (kvs : List (Key × V)) (ks : List Str), xs = [.ref a] ∧ Rd H a (.dK kvs) ∧ kvs.map (·.1) = ks.map Sum.inr ∧ ks.length < 64 ∧
    ∀ ys p, ys.Perm ks → sortedS ys = true → H p = none → Q (.ref p) (upd H p (.lst (ys.map V.str)))
def rSortU (K : PySem.W.Frag) : List V → Hp → VK → Prop := fun xs H Q => rSortedI K xs H Q ∨ rSortedS K xs H Q ∨ rSortedDc xs H Q
theorem call_sortU {X : Cx} (hc : X.calm = true) (hK : X.K = K) : CallR X (.builtin "sorted") (rSortU K) := by
  subst hK
  exact CallR.or cr_sortedI (CallR.or cr_sortedS (call_sortedD hc))
def keyTexts : List Key → Option (List Str)
  | [] => some []
  | .inr z :: ks => (keyTexts ks).map fun zs => z :: zs
  | .inl _ :: _ => none
theorem keyTexts_of : ∀ {ks : List Key} {zs : List Str}, keyTexts ks = some zs → ks = zs.map Sum.inr
  | [], _, h => by cases h; rfl
  | .inr z :: ks, _, h => by
    unfold keyTexts at h
    obtain ⟨zs, h1, rfl⟩ := Option.map_eq_some_iff.mp h
    rw [keyTexts_of h1]
    rfl
  | .inl _ :: _, _, h => by cases h
def intsD : List D → Option (List Int)
  | [] => some []
  | .int x :: ds => (intsD ds).map fun xs => x :: xs
  | _ :: _ => none
theorem intsD_rep {S : Hp} : ∀ {vs : List V} {ds : List D} {xs : List Int}, Reps K S vs ds → intsD ds = some xs → vs = xs.map V.int
  | _, _, _, .nil, h => by cases h; rfl
  | _, _, _, .cons r t, h => by
    unfold intsD at h
    split at h
    · rename_i e; cases e
    · rename_i x ds e
      cases e
      obtain ⟨xs, h1, rfl⟩ := Option.map_eq_some_iff.mp h
      cases r
      rw [intsD_rep t h1]
      rfl
    · cases h
def sortI (ns : List Int) : List Int := ns.mergeSort fun a b => decide (a ≤ b)
theorem sortI_of {xs ys : List Int} (hp : ys.Perm xs) (hs : ys.Pairwise (· ≤ ·)) : ys = sortI xs := by
  have h2 : (sortI xs).Pairwise fun a b => decide (a ≤ b) = true := List.pairwise_mergeSort (fun a b c h h' => by simp at h h' ⊢; omega) (fun a b => by simp; omega) xs
  exact List.Perm.eq_of_pairwise (le := fun a b => decide (a ≤ b) = true) (fun a b _ _ h h' => by simp at h h'; omega) (hs.imp fun h => by simpa using h) h2 (hp.trans (List.mergeSort_perm xs _).symm)
theorem strs_reps {S : Hp} : ∀ zs : List Str, Reps K S (zs.map V.str) (zs.map D.str)
  | [] => .nil
  | z :: zs => .cons (.str z) (strs_reps zs)
def sortDL (xs : List D) : Res W := match intsD xs with
  | some ns => .ok (.lst ((sortI ns).map D.int))
  | none => match strsD xs with
    | some zs => if zs.length < 64 then .ok (.lst ((sortS zs).map D.str)) else .st
    | none => .st
def sortD : List D → Res W
  | [.lst xs] => sortDL xs
  | [.dic ks xs] => match keyTexts ks with
    | some zs => if zs.length < 64 then .ok (.lst ((sortS zs).map D.str)) else .st
    | none => .st
  | _ => .st
instance calV_sort : CalV K (rSortU K) sortD where
  ok := fun {S H vs ds Q w} hs r h k => by
    unfold sortD at h
    split at h <;> first | cases h | skip
    · rename_i xs
      obtain ⟨v, rfl, r1⟩ := views1 r
      obtain ⟨p, us, rfl, hp, q⟩ := r1.lst_inv hs
      unfold sortDL at h
      split at h
      · rename_i ns hn
        cases h
        have := intsD_rep q hn
        subst this
        refine .inl ⟨p, ns, rfl, SqL.of hp, fun ys l h1 h2 hl => ?_⟩
        rw [sortI_of h1 h2]
        exact k _ S _ _ (.lst (.refl hs) (hs.free hl) hl (Reps.ints _))
      · split at h <;> first | cases h | skip
        rename_i zs hz
        split at h <;> first | cases h | skip
        rename_i h64
        have := strsD_rep q hz
        subst this
        refine .inr (.inl ⟨p, zs, rfl, SqL.of hp, h64, fun ys l h1 h2 hl => ?_⟩)
        rw [sortS_of h1 h2]
        exact k _ S _ _ (.lst (.refl hs) (hs.free hl) hl (strs_reps _))
    · split at h <;> first | cases h | skip
      rename_i zs hz
      split at h <;> first | cases h | skip
      rename_i h64
      obtain ⟨v, rfl, r1⟩ := views1 r
      obtain ⟨p, us, rfl, hp, hl0, q⟩ := r1.dic_inv hs
      refine .inr (.inr ⟨p, _, zs, rfl, hp, by rw [zip_map_fst hl0.symm]; exact keyTexts_of hz, h64, fun ys l h1 h2 hl => ?_⟩)
      rw [sortS_of h1 h2]
      exact k _ S _ _ (.lst (.refl hs) (hs.free hl) hl (strs_reps _))
  ex := fun h => by
    unfold sortD at h
    split at h <;> first | cases h | skip
    · unfold sortDL at h
      repeat' split at h
      all_goals cases h
    · repeat' split at h
      all_goals cases h
/-! str, int -/
def rStrU : List V → Hp → VK → Prop := fun xs H Q => (∃ i, xs = [.int i] ∧ i.natAbs.log2 < 1920 ∧ Q (.str (toString i)) H) ∨ ∃ a, xs = [.str a] ∧ Q (.str a) H
theorem call_strU {X : Cx} : CallR X (.type "str") rStrU := CallR.or call_str_int SkE.call_str_str
def strD : List D → Res W
  | [.int i] => if i.natAbs.log2 < 1920 then .ok (.sh (.str (toString i))) else .st
  | [.str a] => .ok (.sh (.str a))
  | _ => .st
instance calV_str : CalV K rStrU strD where
  ok := fun {S H vs ds Q w} hs r h k => by
    unfold strD at h
    split at h <;> first | cases h | skip
    · split at h <;> first | cases h | skip
      rename_i hz
      obtain ⟨v, rfl, r1⟩ := views1 r
      cases r1.int_inv
      exact .inl ⟨_, rfl, hz, k _ S H [] (.sh (.refl hs) (.str _))⟩
    · obtain ⟨v, rfl, r1⟩ := views1 r
      cases r1.str_inv
      exact .inr ⟨_, rfl, k _ S H [] (.sh (.refl hs) (.str _))⟩
  ex := fun h => by
    unfold strD at h
    repeat' split at h
    all_goals cases h
def rIntU : List V → Hp → VK → Prop := fun xs H Q => ((∃ i, xs = [.int i] ∧ Q (.int i) H) ∨ ∃ k, xs = [.bl k] ∧ Q (.int (if k then 1 else 0)) H) ∨ ∃ a n, xs = [.str a] ∧ PySem.intText? a = some n ∧ a.length ≤ 640 ∧ Q (.int n) H
theorem call_intU {X : Cx} : CallR X (.type "int") rIntU := CallR.or call_int1 call_int_str
def intD : List D → Res W
  | [.int i] => .ok (.sh (.int i))
  | [.bl k] => .ok (.sh (.int (if k then 1 else 0)))
  | [.str a] => match PySem.intText? a with
    | some n => if a.length ≤ 640 then .ok (.sh (.int n)) else .st
    | none => .st
  | _ => .st
instance calV_int : CalV K rIntU intD where
  ok := fun {S H vs ds Q w} hs r h k => by
    unfold intD at h
    split at h <;> first | cases h | skip
    · obtain ⟨v, rfl, r1⟩ := views1 r
      cases r1.int_inv
      exact .inl (.inl ⟨_, rfl, k _ S H [] (.sh (.refl hs) (.int _))⟩)
    · obtain ⟨v, rfl, r1⟩ := views1 r
      cases r1.bl_inv
      exact .inl (.inr ⟨_, rfl, k _ S H [] (.sh (.refl hs) (.int _))⟩)
    · split at h <;> first | cases h | skip
      rename_i n hn
      split at h <;> first | cases h | skip
      rename_i hz
      obtain ⟨v, rfl, r1⟩ := views1 r
      cases r1.str_inv
      exact .inr ⟨_, n, rfl, hn, hz, k _ S H [] (.sh (.refl hs) (.int _))⟩
  ex := fun h => by
    unfold intD at h
    repeat' split at h
    all_goals cases h
/-! list -/
def rListU (K : PySem.W.Frag) : List V → Hp → VK → Prop := fun xs H Q => (∃ p ys, xs = [.ref p] ∧ (SqL K H p ys ∨ SqT K H p ys) ∧ ∀ l, H l = none → Q (.ref l) (upd H l (.lst ys))) ∨
  ∃ (a : Addr) (kvs : List (Key × V)), xs = [.ref a] ∧ Rd H a (.dK kvs) ∧ ∀ p, H p = none → Q (.ref p) (upd H p (.lst (kvs.map fun kv => kV kv.1)))
theorem call_listU {X : Cx} (hc : X.calm = true) (hK : X.K = K) : CallR X (.type "list") (rListU K) := by
  subst hK
  exact CallR.or call_list_of (call_listD hc)
def listD : List D → Res W
  | [.lst xs] => .ok (.lst xs)
  | [.tup xs] => .ok (.lst xs)
  | [.ktup xs] => .ok (.lst xs)
  | [.scr ns] => .ok (.lst (ns.map D.int))
  | [.dic ks xs] => .ok (.lst (ks.map kD))
  | _ => .st
theorem zip_kVs {ks : List Key} {vs : List V} (h : vs.length = ks.length) : ((ks.zip vs).map fun kv => kV kv.1) = ks.map kV := by
  rw [show (fun kv : Key × V => kV kv.1) = kV ∘ (·.1) from rfl, ← List.map_map, zip_map_fst h.symm]
instance calV_list : CalV K (rListU K) listD where
  ok := fun {S H vs ds Q w} hs r h k => by
    unfold listD at h
    split at h <;> first | cases h | skip
    all_goals obtain ⟨v, rfl, r1⟩ := views1 r
    · obtain ⟨p, us, rfl, hp, q⟩ := r1.lst_inv hs
      exact .inl ⟨p, us, rfl, .inl (SqL.of hp), fun l hl => k _ S _ _ (.lst (.refl hs) (hs.free hl) hl q)⟩
    · obtain ⟨p, us, rfl, hp, q⟩ := r1.tup_inv
      exact .inl ⟨p, us, rfl, .inr (SqT.of (hs _ _ hp)), fun l hl => k _ S _ _ (.lst (.refl hs) (hs.free hl) hl q)⟩
    · obtain ⟨p, us, rfl, hp, q⟩ := r1.ktup_inv
      exact .inl ⟨p, us, rfl, .inr (sqT_up hs hp), fun l hl => k _ S _ _ (.lst (.refl hs) (hs.free hl) hl q)⟩
    · obtain ⟨p, rfl, hp⟩ := r1.scr_inv
      exact .inl ⟨p, _, rfl, .inl (hs.seq hp), fun l hl => k _ S _ _ (.lst (.refl hs) (hs.free hl) hl (Reps.ints _))⟩
    · obtain ⟨p, us, rfl, hp, hl0, q⟩ := r1.dic_inv hs
      refine .inr ⟨p, _, rfl, hp, fun l hl => ?_⟩
      rw [zip_kVs hl0]
      exact k _ S _ _ (.lst (.refl hs) (hs.free hl) hl (kDs_rep _))
  ex := fun h => by
    unfold listD at h
    split at h <;> cases h
end
end Ly

set_option Elab.async false
set_option linter.all false
set_option maxRecDepth 100000
namespace Ly
open PySem L2 PyProof.Rows
section
variable {K : PySem.W.Frag}

/-! ### dict(..) -/
def rDictU (K : PySem.W.Frag) : List V → Hp → VK → Prop := fun xs H Q => (∃ (a : Addr) (ps : List Addr) (kvs : List (Key × V)), xs = [.ref a] ∧ SqL K H a (ps.map V.ref) ∧ Paired (fun p kv => SqT K H p [kV kv.1, kv.2]) ps kvs ∧
    ∀ p, H p = none → Q (.ref p) (upd H p (.dK (mergeK [] kvs)))) ∨ ∃ (a : Addr) (kvs : List (Key × V)), xs = [.ref a] ∧ Rd H a (.dK kvs) ∧ ∀ p, H p = none → Q (.ref p) (upd H p (.dK kvs))
theorem call_dictU {X : Cx} (hc : X.calm = true) (hK : X.K = K) : CallR X (.type "dict") (rDictU K) := by
  subst hK
  exact CallR.or (call_dictP hc) call_dictD
def pairD : D → Option (Key × D)
  | .tup [k, x] => (toK k).map fun key => (key, x)
  | _ => none
def pairsD : List D → Option (List (Key × D))
  | [] => some []
  | d :: ds => (pairD d).bind fun p => (pairsD ds).map fun ps => p :: ps
def mergeD : List Key → List D → List (Key × D) → List Key × List D
  | ks, xs, [] => (ks, xs)
  | ks, xs, (k, x) :: r => mergeD (putKs ks k) (putXs ks xs k x) r
theorem pairsD_rep {S : Hp} : ∀ {us : List V} {xs : List D} {ps : List (Key × D)}, Reps K S us xs → pairsD xs = some ps →
    ∃ (as : List Addr) (kvs : List (Key × V)), us = as.map V.ref ∧ Paired (fun p (kv : Key × V) => S p = some (.tup [kV kv.1, kv.2])) as kvs ∧ kvs.map (·.1) = ps.map (·.1) ∧ Reps K S (kvs.map (·.2)) (ps.map (·.2))
  | _, _, _, .nil, h => by cases h; exact ⟨[], [], rfl, .nil, rfl, .nil⟩
  | _, _, _, .cons r t, h => by
    unfold pairsD at h
    obtain ⟨p, h1, h⟩ := Option.bind_eq_some_iff.mp h
    obtain ⟨ps, h2, rfl⟩ := Option.map_eq_some_iff.mp h
    obtain ⟨as, kvs, rfl, e2, e3, e4⟩ := pairsD_rep t h2
    unfold pairD at h1
    split at h1
    · rename_i k x
      obtain ⟨key, hk, rfl⟩ := Option.map_eq_some_iff.mp h1
      cases r with
      | tup e q =>
        cases q with
        | cons q1 q2 =>
          cases q2 with
          | cons q2 q3 =>
            cases q3
            have := toK_rep q1 hk
            subst this
            refine ⟨_ :: as, (key, _) :: kvs, rfl, .cons e e2, ?_, .cons q2 e4⟩
            rw [List.map_cons, List.map_cons, e3]
    · cases h1
theorem mergeK_zip {S : Hp} : ∀ (ps : List (Key × D)) (kvs : List (Key × V)) (ks : List Key) (vs : List V) (xs : List D), kvs.map (·.1) = ps.map (·.1) → Reps K S (kvs.map (·.2)) (ps.map (·.2)) → vs.length = ks.length → Reps K S vs xs →
    ∃ ws, mergeK (ks.zip vs) kvs = (mergeD ks xs ps).1.zip ws ∧ ws.length = (mergeD ks xs ps).1.length ∧ Reps K S ws (mergeD ks xs ps).2
  | [], [], ks, vs, xs, _, _, hl, hr => ⟨vs, rfl, hl, hr⟩
  | (k, x) :: ps, (k', v) :: kvs, ks, vs, xs, h1, h2, hl, hr => by
    rw [List.map_cons, List.map_cons] at h1
    have h1a : k' = k := (List.cons.inj h1).1
    have h1b := (List.cons.inj h1).2
    subst h1a
    rw [List.map_cons, List.map_cons] at h2
    cases h2 with
    | cons r t =>
      have e : mergeK (ks.zip vs) ((k', v) :: kvs) = mergeK ((putKs ks k').zip (putXs ks vs k' v)) kvs := by
        show mergeK (putK (ks.zip vs) k' v) kvs = _
        rw [putK_zip _ _ _ _ hl]
      rw [e]
      exact mergeK_zip ps kvs _ _ _ h1b t (put_len _ _ _ _ hl) (put_rep r _ _ hr)
def dictD : List D → Res W
  | [.lst xs] => match pairsD xs with
    | some ps => .ok (.dic (mergeD [] [] ps).1 (mergeD [] [] ps).2)
    | none => .st
  | [.dic ks xs] => .ok (.dic ks xs)
  | _ => .st
theorem New.dic {S H : Hp} {p : Addr} {ks : List Key} {vs : List V} {xs : List D} (hs : Same S H) (hn : H p = none) (hl : vs.length = ks.length) (r : Reps K S vs xs) : New K S H S (upd H p (.dK (ks.zip vs))) (.ref p) (.dic ks xs) [p] :=
  ⟨.hp hs fun a o e => by rw [upd_ne (ne_of_none e hn)]; exact e, .dic upd_same hl r, by simp, fun q hq => by rw [List.mem_singleton.mp hq]; exact ⟨hn, hs.free hn⟩⟩
theorem paired_imp {α β : Type} {F G : α → β → Prop} (h : ∀ a b, F a b → G a b) : ∀ {xs : List α} {ys : List β}, Paired F xs ys → Paired G xs ys
  | _, _, .nil => .nil
  | _, _, .cons r t => .cons (h _ _ r) (paired_imp h t)
instance calV_dict : CalV K (rDictU K) dictD where
  ok := fun {S H vs ds Q w} hs r h k => by
    unfold dictD at h
    split at h <;> first | cases h | skip
    · split at h <;> first | cases h | skip
      rename_i xs ps hps
      obtain ⟨v, rfl, r1⟩ := views1 r
      obtain ⟨p, us, rfl, hp, q⟩ := r1.lst_inv hs
      obtain ⟨as, kvs, rfl, e2, e3, e4⟩ := pairsD_rep q hps
      obtain ⟨ws, f1, f2, f3⟩ := mergeK_zip ps kvs [] [] [] e3 e4 rfl .nil
      refine .inl ⟨p, as, kvs, rfl, SqL.of hp, paired_imp (fun a b e => SqT.of (hs _ _ e)) e2, fun l hl => ?_⟩
      rw [show ([] : List (Key × V)) = ([] : List Key).zip ([] : List V) from rfl, f1]
      exact k _ S _ _ (.dic hs hl f2 f3)
    · obtain ⟨v, rfl, r1⟩ := views1 r
      obtain ⟨p, us, rfl, hp, hl0, q⟩ := r1.dic_inv hs
      exact .inr ⟨p, _, rfl, hp, fun l hl => k _ S _ _ (.dic hs hl hl0 q)⟩
  ex := fun h => by
    unfold dictD at h
    repeat' split at h
    all_goals cases h

/-! ### list(d.items()), d an own dict of a slot -/
def itemsP : List Key → List D → List D
  | k :: ks, x :: xs => .tup [kD k, x] :: itemsP ks xs
  | _, _ => []
theorem itemsP_rep {S' : Hp} : ∀ {ks : List Key} {vs : List V} {xs : List D} {ts : List Addr}, vs.length = ks.length → Reps K S' vs xs → Paired (fun (t : Addr) (q : Key × V) => S' t = some (.tup [kV q.1, q.2])) ts (ks.zip vs) → Reps K S' (ts.map V.ref) (itemsP ks xs)
  | [], [], _, _, _, .nil, .nil => .nil
  | k :: ks, v :: vs, _, _, h, .cons r t, p => by
    rw [List.zip_cons_cons] at p
    cases p with
    | cons e p => exact .cons (.tup e (.cons (kD_rep k) (.cons r .nil))) (itemsP_rep (by simpa using h) t p)
def mItemsL (i : Nat) : En → Res W := fun e => match e[i]? with
  | some (some (.dic ks xs)) => .ok (.lst (itemsP ks xs))
  | _ => .st
instance semE_itemsL {E : XK} {i : Nat} : SemE K E (LiI.tListItems (tVar i)) [] (mItemsL i) where
  ok := fun {env σ S H Q w} x e k => by
    unfold mItemsL at e
    split at e
    · rename_i ks xs h
      cases e
      obtain ⟨v, fp, a, b, c⟩ := x.at_ _ _ h
      cases b with
      | dic hp hl hr =>
        refine ⟨_, a, _, _, rfl, hp, fun H' p ts k1 k2 k3 k4 k5 k6 => ?_⟩
        have g0 : Gr S H S H' := .hp x.sub k1
        have nS : ∀ t ∈ ts, S t = none := fun t ht => x.sub.free (k3 t ht)
        refine k (.ref p) (frz S H' ts) H' [p] ⟨g0.frz fun t ht => ⟨k3 t ht, nS t ht⟩, .lst k5 (itemsP_rep hl (hr.up (frz_same nS)) ?_), by simp, fun q hq => ?_⟩
        · have : ∀ (us : List Addr) (kvs : List (Key × V)), (∀ t ∈ us, t ∈ ts) → Paired (fun (t : Addr) (q : Key × V) => H' t = some (.tup [kV q.1, q.2])) us kvs → Paired (fun (t : Addr) (q : Key × V) => frz S H' ts t = some (.tup [kV q.1, q.2])) us kvs := by
            intro us kvs hm hp
            induction hp with
            | nil => exact .nil
            | cons r t ih => exact .cons (by rw [frz_at (hm _ List.mem_cons_self)]; exact r) (ih fun t ht => hm t (List.mem_cons_of_mem _ ht))
          exact this ts _ (fun t ht => ht) k6
        · rw [List.mem_singleton.mp hq]
          exact ⟨k2, by rw [frz_out k4]; exact x.sub.free k2⟩
    · cases e
  ex := fun x e k => by
    unfold mItemsL at e
    split at e <;> cases e

/-! ### xs[::-1] -/
def revD : D → Res W
  | .lst xs => .ok (.lst xs.reverse)
  | .scr ns => .ok (.lst (ns.map D.int).reverse)
  | _ => .st
def mRev (m : En → Res D) : En → Res W := fun e => (m e).bind revD
theorem Reps.rev {S : Hp} : ∀ {vs : List V} {ds : List D}, Reps K S vs ds → Reps K S vs.reverse ds.reverse
  | _, _, .nil => .nil
  | _, _, .cons r t => by
    rw [List.reverse_cons, List.reverse_cons]
    exact (Reps.rev t).app (.cons r .nil)
instance semE_rev {E : XK} {te : TE} {F : List Nat} {m : En → Res D} [h : SemV K E te F m] : SemE K E (tRevL K te) F (mRev m) where
  ok := fun {env σ S H Q w} x e k => by
    obtain ⟨d, e1, e2⟩ := Res.of_ok e
    refine h.ok x e1 fun v S1 H1 g r => ?_
    unfold revD at e2
    split at e2 <;> cases e2
    · obtain ⟨p, vs, rfl, hp, q⟩ := r.lst_inv g.sub
      exact ⟨_, _, rfl, SqL.of hp, fun l hl => k _ S1 _ _ (.lst g (g.sub.free hl) hl q.rev)⟩
    · obtain ⟨p, rfl, hp⟩ := r.scr_inv
      exact ⟨_, _, rfl, g.sub.seq hp, fun l hl => k _ S1 _ _ (.lst g (g.sub.free hl) hl (Reps.ints _).rev)⟩
  ex := fun {env σ S H Q w} x e k => by
    rcases Res.of_ex e with e1 | ⟨d, e1, e2⟩
    · exact h.ex x e1 k
    · unfold revD at e2
      split at e2 <;> cases e2

/-! ### dicts compared -/
def shp (d : D) : Bool := SeqAt.shaped (toP d)
def dicHits : List Key → List D → List Key → List D → Bool
  | k :: ks, x :: xs, ls, ys => match dlook ls ys k with
    | some y => PyData.eqv (toP x) (toP y) && dicHits ks xs ls ys
    | none => false
  | _, _, _, _ => true
def dicEq (ks : List Key) (xs : List D) (ls : List Key) (ys : List D) : Bool := ks.length == ls.length && dicHits ks xs ls ys
def rEqDc (K : PySem.W.Frag) (f : Bool → Bool) : R2 := fun x y H Q => ∃ a b ks vs xs ls us ys, x = .ref a ∧ y = .ref b ∧ Rd H a (.dK (ks.zip vs)) ∧ Rd H b (.dK (ls.zip us)) ∧ vs.length = ks.length ∧ us.length = ls.length ∧ Reps K H vs xs ∧ Reps K H us ys ∧ xs.all shp = true ∧ ys.all shp = true ∧ Q (.bl (f (dicEq ks xs ls ys))) H
theorem dlook_in {κ : Type} [DecidableEq κ] {k : κ} {y : D} : ∀ {ls : List κ} {ys : List D}, dlook ls ys k = some y → y ∈ ys
  | [], _, h => by simp [dlook] at h
  | _ :: _, [], h => by simp [dlook] at h
  | a :: ls, z :: ys, h => by
    unfold dlook at h
    rw [List.zip_cons_cons, List.find?_cons] at h
    split at h
    · simp at h; rw [h]; exact List.mem_cons_self
    · exact List.mem_cons_of_mem _ (dlook_in (k := k) h)
theorem hits_of {X : Cx} {pins : List (Addr × Obj)} {σ : L2.St} {H : Hp} {s : Shared} (I : Inv X pins σ H s) {A : Around} (hu : A.units + 64 < cLine) {ls : List Key} {us : List V} {ys : List D} {kb : List (Key × Value)} (rb : KV (ls.zip us) kb) (ru : Reps X.K H us ys) (hy : ys.all shp = true) :
    ∀ (ks : List Key) (vs : List V) (xs : List D) (ka : List (Key × Value)), vs.length = ks.length → KV (ks.zip vs) ka → Reps X.K H vs xs → xs.all shp = true → PySem.W.KeqHits A s kb ka (dicHits ks xs ls ys)
  | [], [], [], [], _, _, _, _ => .nil
  | [], [], [], _ :: _, _, r, _, _ => by cases r
  | k :: ks, v :: vs, _, ka, hl, ra, .cons rx rt, hx => by
    rename_i x xs
    rw [List.zip_cons_cons] at ra
    cases ra with
    | cons r t =>
      rename_i q qs
      obtain ⟨key, u⟩ := q
      obtain ⟨r1, r2⟩ := r
      simp only at r1 r2
      subst r1
      rw [List.all_cons, Bool.and_eq_true] at hx
      have ih := hits_of I hu rb ru hy ks vs xs qs (by simpa using hl) t rt hx.2
      unfold dicHits
      rcases dlook_rep (k := k) (ks := ls) ru with ⟨h1, h2⟩ | ⟨v', d', h1, h2, h3⟩
      · rw [h2]
        have := rb.val k
        rw [h1] at this
        exact .miss this.none_of
      · rw [h2]
        have := rb.val k
        rw [h1] at this
        obtain ⟨z, e1, e2⟩ := this.some_of
        have sx : SeqAt.shaped (toP x) = true := hx.1
        have sd : SeqAt.shaped (toP d') = true := List.all_eq_true.mp hy d' (dlook_in h2)
        obtain ⟨as, ra'⟩ := Dp.reads I _ _ _ (rx.dpS sx) r2
        obtain ⟨bs, rb'⟩ := Dp.reads I _ _ _ (h3.dpS sd) e2
        exact .hit e1 (SeqAt.eqAt_reads _ _ A s u z as bs ra' rb' (SeqAt.canLay_of_shaped sx) (SeqAt.canLay_of_shaped sd) (SeqAt.room_of_shaped sx hu)) ih
theorem op_eqDc {X : Cx} (hK : X.K = K) (hu : X.A.units + 65 < cLine) : OpR X (compareOp .Eq) (rEqDc K id) := by
  subst hK
  intro pins s σ H x y v u Q I rx ry h
  obtain ⟨a, b, ks, vs, xs, ls, us, ys, rfl, rfl, ha, hb, l1, l2, r1, r2, hx, hy, q⟩ := h
  obtain rfl : v = Value.ref a := rx
  obtain rfl : u = Value.ref b := ry
  obtain ⟨_, y1, va, ra, da⟩ := dk_rd I.hok ha
  obtain ⟨_, y2, vb, rb, db⟩ := dk_rd I.hok hb
  have e : (va.length == vb.length) = (ks.length == ls.length) := by
    rw [← ra.length, ← rb.length, List.length_zip, List.length_zip, l1, l2, Nat.min_self, Nat.min_self]
  refine PySem.W.keq_eq (knd := mixKind X.prog X.w) (r := dicHits ks xs ls ys) y1 y2 da db (by omega) (fun _ => hits_of I (by show X.A.units + 1 + 64 < cLine; omega) rb r2 hy ks vs xs va l1 ra r1 hx) ?_
  rw [e]
  exact ⟨.bl _, H, I, rfl, q⟩
theorem op_neDc {X : Cx} (hK : X.K = K) (hu : X.A.units + 65 < cLine) : OpR X (compareOp .NotEq) (rEqDc K (!·)) := by
  subst hK
  intro pins s σ H x y v u Q I rx ry h
  obtain ⟨a, b, ks, vs, xs, ls, us, ys, rfl, rfl, ha, hb, l1, l2, r1, r2, hx, hy, q⟩ := h
  obtain rfl : v = Value.ref a := rx
  obtain rfl : u = Value.ref b := ry
  obtain ⟨_, y1, va, ra, da⟩ := dk_rd I.hok ha
  obtain ⟨_, y2, vb, rb, db⟩ := dk_rd I.hok hb
  have e : (va.length == vb.length) = (ks.length == ls.length) := by
    rw [← ra.length, ← rb.length, List.length_zip, List.length_zip, l1, l2, Nat.min_self, Nat.min_self]
  refine PySem.W.keq_ne (knd := mixKind X.prog X.w) (r := dicHits ks xs ls ys) y1 y2 da db (by omega) (fun _ => hits_of I (by show X.A.units + 1 + 64 < cLine; omega) rb r2 hy ks vs xs va l1 ra r1 hx) ?_
  rw [e]
  exact ⟨.bl _, H, I, rfl, q⟩
def rEqW (K : PySem.W.Frag) : R2 := fun x y H Q => rEqU K x y H Q ∨ rEqDc K id x y H Q
def rNeW (K : PySem.W.Frag) : R2 := fun x y H Q => rNeU K x y H Q ∨ rEqDc K (!·) x y H Q
theorem kx_eq {X : Cx} (K : PySem.W.Frag) (hK : X.K = K) (hu : X.A.units + 65 < cLine) : OpR X (compareOp .Eq) (rEqW K) := OpR.or (ke_eq K hK (by omega)) (op_eqDc hK hu)
theorem kx_ne {X : Cx} (K : PySem.W.Frag) (hK : X.K = K) (hu : X.A.units + 65 < cLine) : OpR X (compareOp .NotEq) (rNeW K) := OpR.or (ke_ne K hK (by omega)) (op_neDc hK hu)
def eqE (a b : D) : Res D := match a, b with
  | .dic ks xs, .dic ls ys => if xs.all shp && ys.all shp then .ok (.bl (dicEq ks xs ls ys)) else .st
  | a, b => eqB a b
def neE (a b : D) : Res D := match a, b with
  | .dic ks xs, .dic ls ys => if xs.all shp && ys.all shp then .ok (.bl (!dicEq ks xs ls ys)) else .st
  | a, b => neB a b
instance opX_eqE : OpX K (rEqW K) eqE where
  ok := fun {H v u d e Q z} rv ru h k => by
    unfold eqE at h
    split at h
    · split at h <;> first | cases h | skip
      rename_i ks xs ls ys hs
      rw [Bool.and_eq_true] at hs
      cases rv with
      | dic e l q =>
        cases ru with
        | dic e2 l2 q2 => exact .inr ⟨_, _, _, _, _, _, _, _, rfl, rfl, e, e2, l, l2, q, q2, hs.1, hs.2, k _ fun S => .bl _⟩
    · exact .inl (opX_eq.ok rv ru h k)
  ex := fun h => by
    unfold eqE at h
    split at h
    · split at h <;> cases h
    · exact opX_eq.ex (K := K) h
instance opX_neE : OpX K (rNeW K) neE where
  ok := fun {H v u d e Q z} rv ru h k => by
    unfold neE at h
    split at h
    · split at h <;> first | cases h | skip
      rename_i ks xs ls ys hs
      rw [Bool.and_eq_true] at hs
      cases rv with
      | dic e l q =>
        cases ru with
        | dic e2 l2 q2 => exact .inr ⟨_, _, _, _, _, _, _, _, rfl, rfl, e, e2, l, l2, q, q2, hs.1, hs.2, k _ fun S => .bl _⟩
    · exact .inl (opX_ne.ok rv ru h k)
  ex := fun h => by
    unfold neE at h
    split at h
    · split at h <;> cases h
    · exact opX_ne.ex (K := K) h
end
end Ly

set_option Elab.async false
set_option linter.all false
set_option maxRecDepth 100000
namespace Ly
open PySem L2 PyProof.Rows

/-! ### f-strings -/
def tJoin (ts : List TE) : TE := fun σ H Q => tJs ts Str.empty σ H fun out H1 => Q (.str out) H1
theorem pe_joinedU {X : Cx} {v1 v2 : Expr} {rest : List Expr} {ts : List TE} {pos : Pos} (h : PJ X (v1 :: v2 :: rest) ts) : PE X (.JoinedStr (v1 :: v2 :: rest) pos) (tJoin ts) := pe_joined h
theorem str_assoc (a b c : Str) : a ++ b ++ c = a ++ (b ++ c) := by
  obtain ⟨a⟩ := a; obtain ⟨b⟩ := b; obtain ⟨c⟩ := c
  show Str.mk (a ++ b ++ c) = Str.mk (a ++ (b ++ c))
  rw [Array.append_assoc]
theorem str_nil (a : Str) : a ++ Str.empty = a := by
  obtain ⟨a⟩ := a
  show Str.mk (a ++ #[]) = Str.mk a
  rw [Array.append_empty]
theorem nil_str (a : Str) : Str.empty ++ a = a := by
  obtain ⟨a⟩ := a
  show Str.mk (#[] ++ a) = Str.mk a
  rw [Array.empty_append]
theorem str_len (a b : Str) : (a ++ b).length = a.length + b.length := by
  obtain ⟨a⟩ := a; obtain ⟨b⟩ := b
  show (a ++ b).size = a.size + b.size
  exact Array.size_append
class SemJ (K : PySem.W.Frag) (E : XK) (ts : List TE) (F : outParam (List Nat)) (m : outParam (En → Res Str)) : Prop where
  ok : ∀ {env σ S H Q acc z}, Vw K env σ S H → m env = .ok z → acc.length + z.length ≤ sizeLine → (∀ S' H', Gr S H S' H' → Q (acc ++ z) H') → tJs ts acc σ H Q
  ex : ∀ {env x}, m env = .ex x → False
def mJNil : En → Res Str := fun _ => .ok Str.empty
def mJCons (m : En → Res D) (mr : En → Res Str) : En → Res Str := fun e => match m e with
  | .ok (.str y) => noEx ((mr e).map fun z => y ++ z)
  | _ => .st
section
variable {K : PySem.W.Frag} {E : XK}
instance semJ_nil : SemJ K E [] [] mJNil where
  ok := fun {env σ S H Q acc z} x e hz k => by
    cases e
    have := k S H (.refl x.sub)
    rw [str_nil] at this
    exact this
  ex := fun e => by cases e
theorem noEx_ok {α : Type} {r : Res α} {a : α} (h : noEx r = .ok a) : r = .ok a := by
  unfold noEx at h
  split at h
  · exact h
  · cases h
theorem noEx_ex {α : Type} {r : Res α} {x : Xc} (h : noEx r = .ex x) : False := by
  unfold noEx at h
  split at h <;> cases h
instance semJ_cons {te : TE} {ts : List TE} {Fa Fr : List Nat} {ma : En → Res D} {mr : En → Res Str} [ha : SemX K E te Fa ma] [hr : SemJ K E ts Fr mr] : SemJ K E (te :: ts) (Fa ++ Fr) (mJCons ma mr) where
  ok := fun {env σ S H Q acc z} x e hz k => by
    unfold mJCons at e
    split at e
    · rename_i y e1
      obtain ⟨z', e2, rfl⟩ := Res.of_okm (noEx_ok e)
      refine ha.ok x e1 fun v H1 g r => ?_
      cases r
      rw [str_len] at hz
      refine ⟨y, rfl, by rw [str_len]; omega, ?_⟩
      have y1 := Gr.hp x.sub g
      refine hr.ok (x.gr y1) e2 (by rw [str_len]; omega) fun S' H' g' => ?_
      rw [str_assoc]
      exact k S' H' (y1.trans g')
    · cases e
  ex := fun {env x} e => by
    unfold mJCons at e
    split at e
    · exact noEx_ex e
    · cases e
def mJoin (m : En → Res Str) : En → Res W := fun e => (noEx (m e)).bind fun z => if small z.length then .ok (.sh (.str z)) else .st
instance semE_join {ts : List TE} {F : List Nat} {m : En → Res Str} [h : SemJ K E ts F m] : SemE K E (tJoin ts) F (mJoin m) where
  ok := fun {env σ S H Q w} x e k => by
    obtain ⟨z, e1, e2⟩ := Res.of_ok e
    split at e2
    · rename_i hz
      cases e2
      refine h.ok x (noEx_ok e1) (by show 0 + z.length ≤ sizeLine; have := small_line hz; omega) fun S' H' g => ?_
      rw [nil_str]
      exact k _ S' H' [] (.sh g (.str z))
    · cases e2
  ex := fun {env σ S H Q w} x e k => by
    rcases Res.of_ex e with e1 | ⟨z, e1, e2⟩
    · exact (noEx_ex e1).elim
    · split at e2 <;> cases e2
def fmtD : D → Res D
  | .str y => if small y.length then .ok (.str y) else .st
  | .int i => if i.natAbs.log2 < 1920 then .ok (.str (toString i)) else .st
  | _ => .st
def mFmt (m : En → Res D) : En → Res W := fun e => (m e).bind fun d => (fmtD d).map .sh
instance semE_fmt {te : TE} {F : List Nat} {m : En → Res D} [h : SemX K E te F m] : SemE K E (tFmt te) F (mFmt m) where
  ok := fun {env σ S H Q w} x e k => by
    obtain ⟨d, e1, e2⟩ := Res.of_ok e
    obtain ⟨z, e3, rfl⟩ := Res.of_okm e2
    refine h.ok x e1 fun v H' g r => ?_
    have y := Gr.hp x.sub g
    unfold fmtD at e3
    split at e3 <;> first | cases e3 | skip
    · split at e3 <;> cases e3
      rename_i hz
      cases r
      exact .inl ⟨_, rfl, small_le hz, k _ S H' [] (.sh y (.str _))⟩
    · split at e3 <;> cases e3
      rename_i hz
      cases r
      exact .inr ⟨_, rfl, hz, k _ S H' [] (.sh y (.str _))⟩
  ex := fun {env σ S H Q w} x e k => by
    rcases Res.of_ex e with e1 | ⟨d, e1, e2⟩
    · exact h.ex x e1 k
    · have e3 := Res.of_exm e2
      unfold fmtD at e3
      repeat' split at e3
      all_goals cases e3

/-! ### a.split(b) -/
def rSplit : V → List V → Hp → VK → Prop := fun x xs H Q => ∃ a b, x = .str a ∧ xs = [.str b] ∧ (b.length == 0) = false ∧ a.length + 2 ≤ sizeLine ∧ rNewStrs (Txt.split a b) H Q
theorem kp_split {X : Cx} {o e : Expr} {to te : TE} {apos pos : Pos} (ho : PE X o to) (he : PE X e te) (hs : starEach [e] X.env = [(false, eval e X.env)] := by rfl) (hbase : attributeBase o "split" X.env (eval o X.env) = eval o X.env := by rfl) (hline : (apos.endLine == pos.line) = true := by rfl) :
    PE X (.Call (.Attribute o "split" apos) [e] [] pos) (tM1 rSplit to te) := pe_split ho he hs hbase hline
def splitD (a : Str) : D → Res W
  | .str b => if (b.length == 0) = false ∧ small a.length = true then .ok (.lst ((Txt.split a b).map D.str)) else .st
  | _ => .st
instance m1_split : M1V K rSplit splitD where
  ok := fun {S H a u e Q w} hs r h k => by
    unfold splitD at h
    split at h <;> first | cases h | skip
    split at h <;> first | cases h | skip
    rename_i b hb
    cases r.str_inv
    exact ⟨a, b, rfl, rfl, hb.1, by have := of_decide_eq_true hb.2; rw [sizeLine_eq]; omega, fun l hl => k _ S _ _ (.lst (.refl hs) (hs.free hl) hl (strs_reps _))⟩
  ex := fun h => by
    unfold splitD at h
    repeat' split at h
    all_goals cases h

/-! ### a loop over a dict of a slot: locked meanwhile, an own thing again behind it -/
theorem for_run {ts : List Nat} {Mu : List Nat} {g : TG} {tb : TS} {mg : D → En → Res En} {mb : En → Res Fl} [hg : SemG K g ts mg] [hb : SemS K Mu E tb mb] {f : Fm} {B S0 P0 : Hp} {D : Ends} {env : En} {σ : L2.St} {S2 H2 : Hp} {J : It} {ds : List Ly.D} (hm : f.mu = Mu) (hts : ts.all (free0 f.mu) = true)
    (x2 : StOk K f B S0 env σ S2 H2) (jok : JOk K S2 P0 J ds) (hP : ∀ S H, Same S2 S → Same S H → Same B H → Same P0 H) (p2 : Post K f B S0 D E S2 (runL mg mb ds env)) : ∃ W : Nat → Nat → L2.St → Hp → Prop, (∃ m, W 0 m σ H2) ∧ ∀ i m σ H, W i m σ H →
      (J.stop i H ∧ D.nx σ H) ∨ (J.go i H ∧ ∃ N : L2.St → Hp → Prop, (∀ σ' H', N σ' H' → ∃ m', m' < m ∧ W (i + 1) m' σ' H') ∧ ∀ x H', J.yld i H x H' → g x σ H' fun σ2 H2 => tb { D with nx := N, ct := N, bk := D.nx } σ2 H2) := by
  refine ⟨fun i m σ H => m = ds.length - i ∧ ∃ env S, StOk K f B S0 env σ S H ∧ Same S2 S ∧ Post K f B S0 D E S (runL mg mb (ds.drop i) env), ⟨_, rfl, _, S2, x2, Same.refl S2, by rw [List.drop_zero]; exact p2⟩, ?_⟩
  rintro i m σ H ⟨rfl, env, S, x, s, q⟩
  obtain ⟨j1, j2⟩ := jok S H s x.sub (hP S H s x.sub x.base) i
  cases hd : ds[i]? with
  | none =>
    have hl : ds.length ≤ i := List.getElem?_eq_none_iff.mp hd
    rw [List.drop_eq_nil_of_le hl] at q
    exact .inl ⟨j2 hd, q σ S H x (Same.refl S)⟩
  | some d =>
    obtain ⟨hlt, hdd⟩ := List.getElem?_eq_some_iff.mp hd
    have hdrop : ds.drop i = d :: ds.drop (i + 1) := by rw [List.drop_eq_getElem_cons hlt, hdd]
    rw [hdrop] at q
    unfold runL at q
    obtain ⟨go, yld⟩ := j1 d hd
    refine .inr ⟨go, fun σ' H' => ∃ env S, StOk K f B S0 env σ' S H' ∧ Same S2 S ∧ Post K f B S0 D E S (runL mg mb (ds.drop (i + 1)) env), fun σ' H' z => ⟨_, by omega, rfl, z⟩, fun y H' hy => ?_⟩
    obtain ⟨S3, g3, r3⟩ := yld y H' hy
    cases eg : mg d env with
    | ex z => exact (hg.ex eg).elim
    | st => rw [eg] at q; exact q.elim
    | ok env' =>
      rw [eg] at q
      refine hg.run hts (x.gr g3) r3 eg fun σ' x4 => ?_
      refine hb.run hm x4 ?_
      have q' := q.up g3.ss
      simp only [Res.bind_ok] at q'
      cases er : mb env' with
      | ex z => rw [er] at q'; exact q'
      | st => rw [er] at q'; exact q'
      | ok r =>
        rw [er] at q'
        cases r with
        | nx e5 => exact fun σ5 S5 H5 x5 s5 => ⟨e5, S5, x5, (s.trans g3.ss).trans s5, Post.up q' s5⟩
        | ct e5 => exact fun σ5 S5 H5 x5 s5 => ⟨e5, S5, x5, (s.trans g3.ss).trans s5, Post.up q' s5⟩
        | bk e5 => exact q'
        | rt w => exact q'
def mForO (Mu ts : List Nat) (i : Nat) (sel : List Key → List D → List D) (mg : D → En → Res En) (mb : En → Res Fl) : En → Res Fl := fun env => if ts.all (free0 ((1000 + i) :: Mu)) then match env[i]? with
  | some (some (.dic ks xs)) => (noEx (runL mg mb (sel ks xs) (env.set i none))).bind fun r => match r with
    | .nx e => .ok (.nx (e.set i (some (.dic ks xs))))
    | .rt w => .ok (.rt w)
    | _ => .st
  | _ => .st
  else .st
theorem lock_run {i : Nat} {ts : List Nat} {Mu : List Nat} {wi : TI} {g : TG} {tb : TS} {mg : D → En → Res En} {mb : En → Res Fl} {sel : List Key → List Ly.D → List Ly.D} [hg : SemG K g ts mg] [hb : SemS K ((1000 + i) :: Mu) E tb mb]
    (hw : ∀ {σ : L2.St} {H : Hp} {R : It → Hp → Prop} {p : Addr} {od : Obj} {ks : List Key} {vs : List V} {xs : List Ly.D} {S : Hp}, σ[i]? = some (some (.ref p)) → H p = some (.frz od (.dK (ks.zip vs))) → vs.length = ks.length → Reps K S vs xs →
      (∀ J, (∀ P : Hp, P p = some (.frz od (.dK (ks.zip vs))) → JOk K S P J (sel ks xs)) → R J H) → wi σ H R) : SemS K Mu E (tLock (tFor wi g tb)) (mForO Mu ts i sel mg mb) where
  run := fun {f B S0 D env σ S H} hm x q => by
    unfold mForO at q
    split at q
    case isFalse => exact q.elim
    rename_i hts
    split at q
    case h_2 => exact q.elim
    rename_i ks xs e
    obtain ⟨fps, h1, h2, h3⟩ := x.own
    obtain ⟨v, a, b, c⟩ := h1 i _ e
    obtain ⟨fp0, ep⟩ : ∃ fp, fps i = fp := ⟨_, rfl⟩
    rw [ep] at b
    cases b with
    | dic hp hl hr =>
      rename_i p vs
      obtain ⟨q1, q2, q3⟩ := h2 i p (by rw [ep]; simp)
      have far : ∀ j, j ≠ i → ∀ r ∈ fps j, r ≠ p := fun j hj r hr z => by
        subst z
        exact hj (h3 j i r hr (by rw [ep]; simp))
      refine ⟨p, .dK (ks.zip vs), hp, trivial, fun od => ?_⟩
      refine hw a upd_same hl hr fun J jok => ?_
      let f' : Fm := ⟨(1000 + i) :: f.mu, (i, .ref p) :: f.pins, fun r hr => by
        rcases List.mem_cons.mp hr with rfl | hr
        · simp
        · have := f.ok r hr
          rw [List.contains_cons, this, Bool.or_true]⟩
      let B' : Hp := upd B p (.frz od (.dK (ks.zip vs)))
      have x' : StOk K f' B' S (env.set i none) σ S (upd H p (.frz od (.dK (ks.zip vs)))) := by
        refine ⟨by rw [List.length_set]; exact x.len, fun r hr => ?_, fun a' o z => ?_, fun a' o z => ?_, Same.refl S, fun a' o z => .inl z, fun j => if j = i then [] else fps j, fun j w e' => ?_, fun j r hr => ?_, fun j k r hj hk => ?_⟩
        · rcases List.mem_cons.mp hr with rfl | hr
          · exact a
          · exact x.pin r hr
        · rw [upd_ne (ne_of_none z q1)]; exact x.sub a' o z
        · by_cases hz : a' = p
          · subst hz
            rw [show B' a' = _ from upd_same] at z
            rw [upd_same]; exact z
          · rw [show B' a' = B a' from upd_ne hz] at z
            rw [upd_ne hz]; exact x.base a' o z
        · rcases get_set e' with ⟨_, e1, _⟩ | ⟨ne, e1⟩
          · cases e1
          · obtain ⟨z, a', b', c'⟩ := h1 j w e1
            refine ⟨z, a', ?_⟩
            simp only [if_neg (Ne.symm ne)]
            exact ⟨b'.carry (Same.refl S) w fun r hr => upd_ne (far j (Ne.symm ne) r hr), c'⟩
        · by_cases hj : j = i
          · simp only [if_pos hj] at hr; cases hr
          · simp only [if_neg hj] at hr
            obtain ⟨a', b', c'⟩ := h2 j r hr
            have hne := far j hj r hr
            exact ⟨a', by rw [show B' r = B r from upd_ne hne]; exact b', by rw [upd_ne hne]; exact c'⟩
        · by_cases hj' : j = i
          · simp only [if_pos hj'] at hj; cases hj
          · by_cases hk' : k = i
            · simp only [if_pos hk'] at hk; cases hk
            · simp only [if_neg hj', if_neg hk'] at hj hk
              exact h3 j k r hj hk
      have Bp : B' p = some (.frz od (.dK (ks.zip vs))) := upd_same
      have Bn : ∀ r, B' r = none → r ≠ p ∧ B r = none := fun r z => by
        by_cases hz : r = p
        · rw [hz, Bp] at z; cases z
        · exact ⟨hz, by rw [show B' r = B r from upd_ne hz] at z; exact z⟩
      have Snp : ∀ {S' H' : Hp}, Same S' H' → Same B' H' → (∀ a o, S' a = some o → S a = some o ∨ B' a = none ∨ tupO o = true) → S' p = none := fun {S' H'} hs hb hn => by
        cases z : S' p with
        | none => rfl
        | some o =>
          rcases hn p o z with z' | z' | z'
          · rw [q1] at z'; cases z'
          · exact absurd rfl (Bn p z').1
          · have h1 := hs p o z
            rw [hb p _ Bp] at h1
            cases h1
            cases z'
      have nwB : ∀ {S' : Hp}, (∀ a o, S' a = some o → S a = some o ∨ B' a = none ∨ tupO o = true) → ∀ a o, S' a = some o → S0 a = some o ∨ B a = none ∨ tupO o = true := fun {S'} hn a' o z => by
        rcases hn a' o z with z' | z' | z'
        · exact x.nw a' o z'
        · exact .inr (.inl (Bn a' z').2)
        · exact .inr (.inr z')
      have bk : ∀ {S' H' : Hp}, Same S' H' → S' p = none → Same S' (upd H' p (.dK (ks.zip vs))) := fun {S' H'} h hn a' o z => by rw [upd_ne (ne_of_none z hn)]; exact h a' o z
      have bb : ∀ {H' : Hp}, Same B' H' → Same B (upd H' p (.dK (ks.zip vs))) := fun {H'} h a' o z => by
        have hz : a' ≠ p := ne_of_none z q2
        rw [upd_ne hz]
        exact h a' o (by rw [show B' a' = B a' from upd_ne hz]; exact z)
      refine for_run (hg := hg) (hb := hb) (f := f') (P0 := B') (by show (1000 + i) :: f.mu = _; rw [hm]) (by show ts.all (free0 ((1000 + i) :: f.mu)) = true; rw [hm]; exact hts) x' (jok B' Bp) (fun S' H' _ _ hB => hB) ?_
      cases er : runL mg mb (sel ks xs) (env.set i none) with
      | st => rw [er] at q; exact q.elim
      | ex z => rw [er] at q; exact q.elim
      | ok r =>
        rw [er] at q
        simp only [a_noEx_ok, Res.bind_ok] at q
        cases r with
        | bk e5 => exact q.elim
        | ct e5 => exact q.elim
        | nx e5 =>
          intro σ' S' H' x5 s5
          have hS := Snp x5.sub x5.base x5.nw
          refine ⟨x5.base p _ Bp, q σ' S' _ ?_ s5⟩
          obtain ⟨gps, g1, g2, g3⟩ := x5.own
          have farg : ∀ j, ∀ r ∈ gps j, r ≠ p := fun j r hr => (Bn r (g2 j r hr).2.1).1
          refine ⟨by rw [List.length_set]; exact x5.len, fun r hr => x5.pin r (List.mem_cons_of_mem _ hr), bk x5.sub hS, bb x5.base, x.ex0.trans s5, nwB x5.nw, fun j => if j = i then [p] else gps j, fun j w e' => ?_, fun j r hr => ?_, fun j k r hj hk => ?_⟩
          · rcases get_set e' with ⟨rfl, e1, _⟩ | ⟨ne, e1⟩
            · cases e1
              refine ⟨.ref p, x5.pin _ List.mem_cons_self, ?_⟩
              simp only [if_pos]
              exact ⟨.dic upd_same hl (hr.up s5), by simp⟩
            · obtain ⟨z, a', b', c'⟩ := g1 j w e1
              refine ⟨z, a', ?_⟩
              simp only [if_neg (Ne.symm ne)]
              exact ⟨b'.carry (Same.refl S') w fun r hr => upd_ne (farg j r hr), c'⟩
          · by_cases hj : j = i
            · simp only [if_pos hj] at hr
              rw [List.mem_singleton.mp hr]
              exact ⟨hS, q2, by rw [upd_same]; rfl⟩
            · simp only [if_neg hj] at hr
              obtain ⟨a', b', c'⟩ := g2 j r hr
              exact ⟨a', (Bn r b').2, by rw [upd_ne (farg j r hr)]; exact c'⟩
          · by_cases hj' : j = i
            · by_cases hk' : k = i
              · exact hj'.trans hk'.symm
              · simp only [if_pos hj', if_neg hk'] at hj hk
                exact absurd (List.mem_singleton.mp hj) (farg k r hk)
            · by_cases hk' : k = i
              · simp only [if_neg hj', if_pos hk'] at hj hk
                exact absurd (List.mem_singleton.mp hk) (farg j r hj)
              · simp only [if_neg hj', if_neg hk'] at hj hk
                exact g3 j k r hj hk
        | rt w =>
          intro u S' H' fp y
          have hS := Snp y.sub y.base y.nw
          refine ⟨y.base p _ Bp, q u S' _ fp ⟨bk y.sub hS, bb y.base, x.ex0.trans y.ex0, nwB y.nw, y.own.carry (Same.refl S') w fun r hr => upd_ne (Bn r (y.new r hr).1).1, y.nd, fun r hr => ⟨(Bn r (y.new r hr).1).2, (y.new r hr).2⟩⟩⟩
theorem zip_get {ks : List Key} {vs : List V} {i : Nat} {k : Key} {v : V} (h : (ks.zip vs)[i]? = some (k, v)) : ks[i]? = some k ∧ vs[i]? = some v := by
  rw [List.getElem?_zip_eq_some] at h
  exact h
theorem zip_long {ks : List Key} {vs : List V} {ds : List D} (hl : vs.length = ks.length) (r : vs.length = ds.length) : (ks.zip vs).length = ds.length := by rw [List.length_zip, hl, Nat.min_self, ← hl, r]
instance semS_forVals {i : Nat} {ts Mu : List Nat} {g : TG} {tb : TS} {mg : D → En → Res En} {mb : En → Res Fl} [hg : SemG K g ts mg] [hb : SemS K ((1000 + i) :: Mu) E tb mb] : SemS K Mu E (tLock (tFor (iVals (tVar i)) g tb)) (mForO Mu ts i (fun _ xs => xs) mg mb) :=
  lock_run fun {σ H R p od ks vs xs S} ha hp hl hr k => ⟨_, ha, p, od, _, rfl, hp, k _ fun P hP S' H' s1 s2 s3 j => by
    have hH := s3 p _ hP
    refine ⟨fun d hd => ⟨⟨hH, ?_⟩, fun y H2 hy => ?_⟩, fun hd => ⟨hH, ?_⟩⟩
    · rw [zip_long hl hr.len]; exact (List.getElem?_eq_some_iff.mp hd).1
    · obtain ⟨rfl, k', hk'⟩ := hy
      obtain ⟨v', hv', rv⟩ := hr.get hd
      rw [(zip_get hk').2] at hv'
      cases hv'
      exact ⟨S', .refl s2, rv.up s1⟩
    · rw [zip_long hl hr.len]; exact List.getElem?_eq_none_iff.mp hd⟩
end
end Ly

set_option Elab.async false
set_option linter.all false
set_option maxRecDepth 100000
namespace Ly
open PySem L2 PyProof.Rows
section
variable {X : Cx} (K : PySem.W.Frag) (hK : X.K = K)
include hK
theorem kp_rev {e : Expr} {te : TE} {k : Nat} {p1 p2 p3 pos : Pos} (he : PE X e te) : PE X (.Subscript e (.Slice none none (some (.UnaryOp .USub (.Constant (.int 1) k p1) p2)) p3) pos) (tRevL K te) := by subst hK; exact pe_revL he
theorem kp_dclear {o : Expr} {to : TE} {apos cpos : Pos} (ho : PE X o to) (hbase : attributeBase o "clear" X.env (eval o X.env) = eval o X.env := by rfl) (hline : (apos.endLine == cpos.line) = true := by rfl) : PE X (.Call (.Attribute o "clear" apos) [] [] cpos) (tBM0 K "dict" rDClear to) := by subst hK; exact pe_dclear ho hbase hline
end
section
variable {e : En} {F : List Nat} {i : Nat}
@[simp] theorem a_mDPut (mk mv : En → Res D) : mDPut F i mk mv e = (mv (fz F e)).bind fun x => match (fz F e)[i]? with
  | some (some w) => (mk (fz F e)).bind fun k => (putDic k x w).map fun w' => .nx ((fz F e).set i (some w'))
  | _ => .st := rfl
@[simp] theorem a_mDClear : mDClear i e = match e[i]? with
  | some (some (.dic ks xs)) => .ok (.nx (e.set i (some (.dic [] []))))
  | _ => .st := rfl
@[simp] theorem a_mLClear : mLClear i e = match e[i]? with
  | some (some (.lst xs)) => .ok (.nx (e.set i (some (.lst []))))
  | _ => .st := rfl
@[simp] theorem a_mItemsL : mItemsL i e = match e[i]? with
  | some (some (.dic ks xs)) => .ok (.lst (itemsP ks xs))
  | _ => .st := rfl
@[simp] theorem a_mRev (m : En → Res D) : mRev m e = (m e).bind revD := rfl
@[simp] theorem a_mJNil : mJNil e = .ok Str.empty := rfl
@[simp] theorem a_mJCons (m : En → Res D) (mr : En → Res Str) : mJCons m mr e = match m e with
  | .ok (.str y) => noEx ((mr e).map fun z => y ++ z)
  | _ => .st := rfl
@[simp] theorem a_mJoin (m : En → Res Str) : mJoin m e = (noEx (m e)).bind fun z => if small z.length then .ok (.sh (.str z)) else .st := rfl
@[simp] theorem a_mFmt (m : En → Res D) : mFmt m e = (m e).bind fun d => (fmtD d).map .sh := rfl
@[simp] theorem a_mForO (Mu ts : List Nat) (sel : List Key → List D → List D) (mg : D → En → Res En) (mb : En → Res Fl) : mForO Mu ts i sel mg mb e = if ts.all (free0 ((1000 + i) :: Mu)) then match e[i]? with
  | some (some (.dic ks xs)) => (noEx (runL mg mb (sel ks xs) (e.set i none))).bind fun r => match r with
    | .nx e => .ok (.nx (e.set i (some (.dic ks xs))))
    | .rt w => .ok (.rt w)
    | _ => .st
  | _ => .st
  else .st := rfl
@[simp] theorem v_fmts (y : Str) : fmtD (.str y) = if small y.length then .ok (.str y) else .st := rfl
@[simp] theorem v_fmti (i : Int) : fmtD (.int i) = if i.natAbs.log2 < 1920 then .ok (.str (toString i)) else .st := rfl
@[simp] theorem v_revl (xs : List D) : revD (.lst xs) = .ok (.lst xs.reverse) := rfl
@[simp] theorem v_listl (xs : List D) : listD [.lst xs] = .ok (.lst xs) := rfl
@[simp] theorem v_strs (a : Str) : strD [.str a] = .ok (.sh (.str a)) := rfl
@[simp] theorem v_stri (i : Int) : strD [.int i] = if i.natAbs.log2 < 1920 then .ok (.sh (.str (toString i))) else .st := rfl
@[simp] theorem v_inti (i : Int) : intD [.int i] = .ok (.sh (.int i)) := rfl
@[simp] theorem v_intb (k : Bool) : intD [.bl k] = .ok (.sh (.int (if k then 1 else 0))) := rfl
@[simp] theorem v_ints (a : Str) : intD [.str a] = match PySem.intText? a with
    | some n => if a.length ≤ 640 then .ok (.sh (.int n)) else .st
    | none => .st := rfl
@[simp] theorem v_eqEi (a b : Int) : eqE (.int a) (.int b) = .ok (.bl (decide (a = b))) := rfl
@[simp] theorem v_eqEs (a b : Str) : eqE (.str a) (.str b) = .ok (.bl (decide (a = b))) := rfl
@[simp] theorem v_eqEb (a b : Bool) : eqE (.bl a) (.bl b) = .ok (.bl (decide (a = b))) := rfl
@[simp] theorem v_neEi (a b : Int) : neE (.int a) (.int b) = .ok (.bl (!decide (a = b))) := rfl
@[simp] theorem v_neEs (a b : Str) : neE (.str a) (.str b) = .ok (.bl (!decide (a = b))) := rfl
@[simp] theorem v_eqEd (ks ls : List Key) (xs ys : List D) : eqE (.dic ks xs) (.dic ls ys) = if xs.all shp && ys.all shp then .ok (.bl (dicEq ks xs ls ys)) else .st := rfl
@[simp] theorem v_neEd (ks ls : List Key) (xs ys : List D) : neE (.dic ks xs) (.dic ls ys) = if xs.all shp && ys.all shp then .ok (.bl (!dicEq ks xs ls ys)) else .st := rfl
theorem eqE_lst (a b : List D) : eqE (.lst a) (.lst b) = eqB (.lst a) (.lst b) := rfl
theorem neE_lst (a b : List D) : neE (.lst a) (.lst b) = neB (.lst a) (.lst b) := rfl
end
end Ly

set_option Elab.async false
set_option linter.all false
set_option maxRecDepth 100000
namespace Ly
open PySem L2 PyProof.Rows

/-! ### objects: the fields that a class may have, and those whose things stay owned -/
class FldTab (K : PySem.W.Frag) (T : outParam (List (Str × List Str × List Str))) : Prop where
  ok : ∀ q ∈ T, ∀ C, IsC K q.1 C → Cls K C ∧ ∀ f ∈ q.2.1, NoAttr K C f
def hasF (T : List (Str × List Str × List Str)) (n f : Str) : Bool := T.any fun q => decide (q.1 = n) && decide (f ∈ q.2.1)
def ownF (T : List (Str × List Str × List Str)) (n f : Str) : Bool := T.any fun q => decide (q.1 = n) && decide (f ∈ q.2.2)
theorem hasF_ok {K : PySem.W.Frag} {T : List (Str × List Str × List Str)} [h : FldTab K T] {n f : Str} {C : Addr} (e : hasF T n f = true) (c : IsC K n C) : Cls K C ∧ NoAttr K C f := by
  unfold hasF at e
  obtain ⟨q, hq, e⟩ := List.any_eq_true.mp e
  rw [Bool.and_eq_true] at e
  have e1 := of_decide_eq_true e.1
  have e2 := of_decide_eq_true e.2
  subst e1
  obtain ⟨a, b⟩ := h.ok q hq C c
  exact ⟨a, b f e2⟩
def flook {α : Type} (fs : List Str) (xs : List α) (f : Str) : Option α := (fs.zip xs).lookup f
theorem flook_reps {K : PySem.W.Frag} {S : Hp} {f : Str} : ∀ {fs : List Str} {vs : List V} {xs : List D} {d : D}, Reps K S vs xs → flook fs xs f = some d → ∃ v, (fs.zip vs).lookup f = some v ∧ Rep K S v d
  | [], _, _, _, _, h => by cases h
  | _ :: _, _, _, _, .nil, h => by cases h
  | g :: fs, _, _, d, .cons (v := v) (d := x) r t, h => by
    unfold flook at h
    rw [List.zip_cons_cons, List.lookup_cons] at h
    rw [List.zip_cons_cons, List.lookup_cons]
    cases e : f == g with
    | true => rw [e] at h; cases h; exact ⟨v, rfl, r⟩
    | false => rw [e] at h; exact flook_reps t h
theorem flook_owns {K : PySem.W.Frag} {S H : Hp} {f : Str} : ∀ {fs : List Str} {vs : List V} {ws : List W} {fp : List Addr} {w : W}, Owns K S H vs ws fp → flook fs ws f = some w → ∃ v fq, (fs.zip vs).lookup f = some v ∧ Own K S H v w fq ∧ ∀ q ∈ fq, q ∈ fp
  | [], _, _, _, _, _, h => by cases h
  | _ :: _, _, _, _, _, .nil, h => by cases h
  | g :: fs, _, _, _, w, .cons (v := v) (w := w0) (fp := fp1) (fq := fq1) r t, h => by
    unfold flook at h
    rw [List.zip_cons_cons, List.lookup_cons] at h
    rw [List.zip_cons_cons, List.lookup_cons]
    cases e : f == g with
    | true => rw [e] at h; cases h; exact ⟨v, fp1, rfl, r, fun q hq => List.mem_append_left _ hq⟩
    | false =>
      rw [e] at h
      obtain ⟨v', fq', a, b, c⟩ := flook_owns t h
      exact ⟨v', fq', a, b, fun q hq => List.mem_append_right _ (c q hq)⟩
theorem lookup_none {m : Str} : ∀ {fs : List Str} {vs : List V}, m ∉ fs → (fs.zip vs).lookup m = none
  | [], _, _ => rfl
  | _ :: _, [], _ => rfl
  | g :: fs, v :: vs, h => by
    rw [List.zip_cons_cons, List.lookup_cons]
    have : (m == g) = false := by
      rw [beq_eq_false_iff_ne]
      exact fun e => h (by rw [e]; exact List.mem_cons_self)
    rw [this]
    exact lookup_none fun q => h (List.mem_cons_of_mem _ q)
section
variable {K : PySem.W.Frag} {E : XK} {T : List (Str × List Str × List Str)}
/-! reading -/
def fldD (T : List (Str × List Str × List Str)) (f : Str) : D → Res D
  | .obj n fs xs => if hasF T n f then match flook fs xs f with
    | some d => .ok d
    | none => .st
    else .st
  | _ => .st
theorem fldD_ex {f : Str} {d : D} {x : Xc} (h : fldD T f d = .ex x) : False := by
  unfold fldD at h
  repeat' split at h
  all_goals cases h
theorem fldD_ok [FldTab K T] {S H : Hp} {f : Str} {v : V} {d r : D} (hs : Same S H) (q : Rep K S v d) (h : fldD T f d = .ok r) : ∃ a C dx fs u, v = .ref a ∧ H a = some (.ins C dx fs) ∧ Cls K C ∧ NoAttr K C f ∧ fs.lookup f = some u ∧ Rep K S u r := by
  unfold fldD at h
  split at h
  · split at h <;> first | cases h | skip
    rename_i hf
    split at h <;> first | cases h | skip
    rename_i e
    cases q with
    | obj c e1 l r1 =>
      obtain ⟨u, h1, h2⟩ := flook_reps r1 e
      obtain ⟨h3, h4⟩ := hasF_ok hf c
      exact ⟨_, _, _, _, u, rfl, hs _ _ e1, h3, h4, h1, h2⟩
  · cases h
def mFld (T : List (Str × List Str × List Str)) (f : Str) (m : En → Res D) : En → Res W := fun e => (m e).bind fun d => (fldD T f d).map .sh
instance semE_fld {te : TE} {F : List Nat} {f : Str} {m : En → Res D} [FldTab K T] [h : SemV K E te F m] : SemE K E (tFld K te f) F (mFld T f m) where
  ok := fun {env σ S H Q w} x e k => by
    obtain ⟨d, e1, e2⟩ := Res.of_ok e
    obtain ⟨r, e3, rfl⟩ := Res.of_okm e2
    refine h.ok x e1 fun v S1 H1 g q => ?_
    have q' : Rep K S1 v d := by
      cases q with
      | rep r => exact r
      | _ => cases e3
    obtain ⟨a, C, dx, fs, u, h1, h2, h3, h4, h5, h6⟩ := fldD_ok g.sub q' e3
    exact ⟨a, C, dx, fs, u, h1, h2, h3, h4, h5, k u S1 H1 [] (.sh g h6)⟩
  ex := fun {env σ S H Q w} x e k => by
    rcases Res.of_ex e with e1 | ⟨d, e1, e2⟩
    · exact h.ex x e1 k
    · exact (fldD_ex (Res.of_exm e2)).elim
/-- of a name's own object -/
def fldW (T : List (Str × List Str × List Str)) (f : Str) : W → Res W
  | .sh d => (fldD T f d).map .sh
  | .obj n fs ws => if hasF T n f then match flook fs ws f with
    | some w => .ok w
    | none => .st
    else .st
  | _ => .st
theorem fldW_ok [FldTab K T] {S H : Hp} {f : Str} {v : V} {w r : W} {fp : List Addr} (hs : Same S H) (q : Own K S H v w fp) (h : fldW T f w = .ok r) : ∃ a C dx fs u fq, v = .ref a ∧ H a = some (.ins C dx fs) ∧ Cls K C ∧ NoAttr K C f ∧ fs.lookup f = some u ∧ Own K S H u r fq := by
  unfold fldW at h
  split at h
  · obtain ⟨d, e, rfl⟩ := Res.of_okm h
    cases q with
    | sh q =>
      obtain ⟨a, C, dx, fs, u, h1, h2, h3, h4, h5, h6⟩ := fldD_ok hs q e
      exact ⟨a, C, dx, fs, u, [], h1, h2, h3, h4, h5, .sh h6⟩
  · split at h <;> first | cases h | skip
    rename_i hf
    split at h <;> first | cases h | skip
    rename_i e
    cases q with
    | obj c e1 l r1 =>
      obtain ⟨u, fq, h1, h2, _⟩ := flook_owns r1 e
      obtain ⟨h3, h4⟩ := hasF_ok hf c
      exact ⟨_, _, _, _, u, fq, rfl, e1, h3, h4, h1, h2⟩
  · cases h
theorem fldW_ex {f : Str} {d : W} {x : Xc} (h : fldW T f d = .ex x) : False := by
  unfold fldW at h
  split at h
  · exact fldD_ex (Res.of_exm h)
  · repeat' split at h
    all_goals cases h
  · cases h
def wView : W → Res D
  | .obj _ _ _ => .st
  | .nst _ => .st
  | .ntp _ => .st
  | w => .ok w.toD
theorem wView_ok {S H : Hp} {v : V} {w : W} {d : D} {fp : List Addr} (q : Own K S H v w fp) (h : wView w = .ok d) : View K S H v d := by
  unfold wView at h
  split at h
  · cases h
  · cases h
  · cases h
  · rename_i h1 h2 h3
    cases h
    cases q with
    | sh r => exact .rep r
    | lst e r => exact .lst e r
    | dic e l r => exact .dic (.inl e) l r
    | dit e l r => exact .dit (.inl e) l r
    | obj _ _ _ _ => exact (h1 _ _ _ rfl).elim
    | nst _ _ => exact (h2 _ rfl).elim
    | ntp _ _ => exact (h3 _ rfl).elim
theorem wView_ex {w : W} {x : Xc} (h : wView w = .ex x) : False := by
  unfold wView at h
  split at h <;> cases h
def mFldV (T : List (Str × List Str × List Str)) (f : Str) (i : Nat) : En → Res D := fun e => match e[i]? with
  | some (some w) => (fldW T f w).bind wView
  | _ => .st
instance (priority := high) semV_fld {i : Nat} {f : Str} [FldTab K T] : SemV K E (tFld K (tVar i) f) [] (mFldV T f i) where
  ok := fun {env σ S H Q w} x e k => by
    unfold mFldV at e
    split at e
    · rename_i w' h
      obtain ⟨r, e1, e2⟩ := Res.of_ok e
      obtain ⟨v, fp, a, b, c⟩ := x.at_ _ _ h
      obtain ⟨p, C, dx, fs, u, fq, h1, h2, h3, h4, h5, h6⟩ := fldW_ok x.sub b e1
      exact ⟨v, a, p, C, dx, fs, u, h1, h2, h3, h4, h5, k u S H (.refl x.sub) (wView_ok h6 e2)⟩
    · cases e
  ex := fun x e k => by
    unfold mFldV at e
    split at e
    · rcases Res.of_ex e with e1 | ⟨r, e1, e2⟩
      · exact (fldW_ex e1).elim
      · exact (wView_ex e2).elim
    · cases e
def shOnly : W → Res W
  | .sh d => .ok (.sh d)
  | _ => .st
def mFldE (T : List (Str × List Str × List Str)) (f : Str) (i : Nat) : En → Res W := fun e => match e[i]? with
  | some (some w) => (fldW T f w).bind shOnly
  | _ => .st
instance (priority := high) semE_fldVar {i : Nat} {f : Str} [FldTab K T] : SemE K E (tFld K (tVar i) f) [] (mFldE T f i) where
  ok := fun {env σ S H Q w} x e k => by
    unfold mFldE at e
    split at e
    · rename_i w' h
      obtain ⟨r, e1, e2⟩ := Res.of_ok e
      obtain ⟨v, fp, a, b, c⟩ := x.at_ _ _ h
      obtain ⟨p, C, dx, fs, u, fq, h1, h2, h3, h4, h5, h6⟩ := fldW_ok x.sub b e1
      unfold shOnly at e2
      split at e2 <;> cases e2
      cases h6 with
      | sh h6 => exact ⟨v, a, p, C, dx, fs, u, h1, h2, h3, h4, h5, k u S H [] (.sh (.refl x.sub) h6)⟩
    · cases e
  ex := fun x e k => by
    unfold mFldE at e
    split at e
    · rcases Res.of_ex e with e1 | ⟨r, e1, e2⟩
      · exact (fldW_ex e1).elim
      · unfold shOnly at e2
        split at e2 <;> cases e2
    · cases e

/-! ### methods of an object that is not changed -/
class ClsIs (K : PySem.W.Frag) (C : Addr) (cn : outParam Str) : Prop where
  is : IsC K cn C
def isObj (cn m : Str) : D → Bool
  | .obj n fs _ => decide (n = cn) && decide (m ∉ fs)
  | _ => false
def mMeth (cn m : Str) (n : Nat) (g : List D → Res W) (ms : En → Res D) (ma mx : En → Res (List D)) : En → Res W := fun e => (ms e).bind fun d => if isObj cn m d then match ma e with
  | .ok ds => asked n g (d :: ds)
  | .ex x => .ex x
  | .st => (mx e).bind fun ds => onlyFlat (asked n g (d :: ds))
  else .st
theorem isObj_ok {C : Addr} {cn m : Str} [hc : ClsIs K C cn] {S H : Hp} {v : V} {d : D} (hs : Same S H) (q : View K S H v d) (h : isObj cn m d = true) : Rep K S v d ∧ ∃ a dx fs, v = .ref a ∧ H a = some (.ins C dx fs) ∧ fs.lookup m = none := by
  unfold isObj at h
  split at h
  · rw [Bool.and_eq_true] at h
    have h1 := of_decide_eq_true h.1
    have h2 := of_decide_eq_true h.2
    subst h1
    cases q with
    | rep r =>
      refine ⟨r, ?_⟩
      cases r with
      | obj c e l r =>
        cases c.one hc.is
        exact ⟨_, _, _, rfl, hs _ _ e, lookup_none h2⟩
  · cases h
instance semE_meth {C : Addr} {cn m : Str} {n : Nat} {g : List D → Res W} {ts : TE} {t : TA} {Fs Fa Fx : List Nat} {ms : En → Res D} {ma mx : En → Res (List D)} [hc : ClsIs K C cn] [hs : SemV K E ts Fs ms] [ha : SemA K E t Fa ma] [hx : SemAX K E t Fx mx] :
    SemE K E (tMeth C m (spM K n g) [] E ts t) (Fs ++ Fx) (mMeth cn m n g ms ma mx) where
  ok := fun {env σ S H Q w} x e k => by
    obtain ⟨d, e0, e⟩ := Res.of_ok e
    split at e
    case isFalse => cases e
    rename_i hi
    refine hs.ok x e0 fun u S1 H1 g1 r1 => ?_
    obtain ⟨rd, a, dx, fs, h1, h2, h3⟩ := isObj_ok (C := C) g1.sub r1 hi
    refine ⟨a, dx, fs, h1, h2, h3, ?_⟩
    split at e
    · rename_i ds e1
      refine ha.ok (x.gr g1) e1 fun vs S' H' g2 r => ?_
      obtain ⟨hl, e2⟩ := asked_ok e (by simp)
      refine ⟨by rw [List.append_nil, List.length_cons, r.len]; exact hl, S', d :: ds, g2.sub, by rw [List.append_nil]; exact .cons (rd.up g2.ss) r, ?_⟩
      rw [e2]
      exact fun v S2 H2 fp nw => k v S2 H2 fp (nw.later (g1.trans g2))
    · cases e
    · obtain ⟨ds, e1, e2⟩ := Res.of_ok e
      refine hx.ok (x.gr g1) e1 fun vs H' g2 r => ?_
      unfold onlyFlat at e2
      split at e2
      · rename_i w' e3
        split at e2
        · rename_i hf
          cases e2
          obtain ⟨hl, e4⟩ := asked_ok e3 (by simp)
          refine ⟨by rw [List.append_nil, List.length_cons, r.len]; exact hl, H', d :: ds, Same.refl H', by rw [List.append_nil]; exact .cons (rd.up (g1.sub.trans g2)) r, ?_⟩
          rw [e4]
          intro v S2 H2 fp nw
          have y := g1.trans (Gr.hp g1.sub g2)
          obtain ⟨S3, n3⟩ := nw.flat hf y.sub
          exact k v S3 H2 fp (n3.later y)
        · cases e2
      · rename_i h1
        exact (h1 _ e2).elim
  ex := fun {env σ S H Q z} x e k => by
    rcases Res.of_ex e with e0 | ⟨d, e0, e⟩
    · exact hs.ex x e0 k
    split at e
    case isFalse => cases e
    rename_i hi
    refine hs.ok x e0 fun u S1 H1 g1 r1 => ?_
    obtain ⟨rd, a, dx, fs, h1, h2, h3⟩ := isObj_ok (C := C) g1.sub r1 hi
    refine ⟨a, dx, fs, h1, h2, h3, ?_⟩
    split at e
    · rename_i ds e1
      refine ha.ok (x.gr g1) e1 fun vs S' H' g2 r => ?_
      obtain ⟨hl, e2⟩ := asked_ok e (by simp)
      refine ⟨by rw [List.append_nil, List.length_cons, r.len]; exact hl, S', d :: ds, g2.sub, by rw [List.append_nil]; exact .cons (rd.up g2.ss) r, ?_⟩
      rw [e2]
      exact fun c d H2 s q => k c d H2 ((g1.hh.trans g2.hh).trans s) q
    · rename_i z' e1
      cases e
      exact ha.ex (x.gr g1) e1 fun c d H' s q => k c d H' (g1.hh.trans s) q
    · rcases Res.of_ex e with e1 | ⟨ds, e1, e2⟩
      · exact hx.ex (x.gr g1) e1 fun c d H' s q => k c d H' (g1.hh.trans s) q
      · refine hx.ok (x.gr g1) e1 fun vs H' g2 r => ?_
        unfold onlyFlat at e2
        split at e2
        · split at e2 <;> cases e2
        · obtain ⟨hl, e4⟩ := asked_ok e2 (by simp)
          refine ⟨by rw [List.append_nil, List.length_cons, r.len]; exact hl, H', d :: ds, Same.refl H', by rw [List.append_nil]; exact .cons (rd.up (g1.sub.trans g2)) r, ?_⟩
          rw [e4]
          exact fun c d H2 s q => k c d H2 ((g1.hh.trans g2).trans s) q
end
end Ly

set_option Elab.async false
set_option linter.all false
set_option maxRecDepth 100000
namespace Ly
open PySem L2 PyProof.Rows

/-! ### objects that are made -/
def delp (p : Addr) (H : Hp) : Hp := fun a => if a = p then none else H a
theorem delp_ne {p a : Addr} {H : Hp} (h : a ≠ p) : delp p H a = H a := if_neg h
theorem delp_at {p : Addr} {H : Hp} : delp p H p = none := if_pos rfl
/-- an __init__: n parameters beside self; what the new object is then -/
def spI (K : PySem.W.Frag) (cn : Str) (n : Nat) (g : List D → Res W) : Sp := fun vs H Q E => ∃ p C dx us S ds, vs = .ref p :: us ∧ us.length = n ∧ IsC K cn C ∧ H p = some (.ins C dx []) ∧ S p = none ∧ Same S H ∧ Reps K S us ds ∧ match g ds with
  | .ok w => ∀ S' H' fp, New K S (delp p H) S' H' (.ref p) w fp → Q .non H'
  | .ex x => ∀ cls d H', Same (delp p H) H' → XR K x cls d H' → E cls d H'
  | .st => False
def slotsI (cn : Str) (k : Nat) (ds : List D) : En := some (.obj cn [] []) :: slots (k - 1) ds
def runI (cn : Str) (k : Nat) (m : En → Res Fl) : List D → Res W := fun ds => (m (slotsI cn k ds)).bind fun r => match r with
  | .nx e => match e[0]? with
    | some (some w) => .ok w
    | _ => .st
  | _ => .st
section
variable {P : Program} {w : World} {K : PySem.W.Frag} {mg : Str → Option Value} {base : Heap}
theorem init_start {S H : Hp} {cn : Str} {p C dx : Addr} {us : List V} {ds : List D} {N : List Str} (Mu : List Nat) (h0 : Mu.contains (1000 + 0) = true) (hc : IsC K cn C) (hp : H p = some (.ins C dx [])) (hS : S p = none) (hs : Same S H) (r : Reps K S us ds) (hl : us.length + 1 ≤ N.length) :
    StOk K ⟨Mu, [(0, .ref p)], fun q hq => by rw [List.mem_singleton.mp hq]; exact h0⟩ (delp p H) S (slotsI cn N.length ds) (L2.start N (.ref p :: us)) S H := by
  have hlen := r.len
  have e0 : (L2.start N (.ref p :: us))[0]? = some (some (.ref p)) := rfl
  refine ⟨by simp [slotsI, slots, L2.start, hlen]; omega, fun q hq => by rw [List.mem_singleton.mp hq]; exact e0, hs, fun a o e => ?_, Same.refl S, fun a o e => .inl e, fun j => if j = 0 then [p] else [], fun i w e => ?_, fun i q hq => ?_, fun i j q hi hj => ?_⟩
  · by_cases ha : a = p
    · rw [ha, delp_at] at e; cases e
    · rw [delp_ne ha] at e; exact e
  · cases i with
    | zero =>
      cases e
      refine ⟨.ref p, e0, ?_⟩
      simp only [if_pos]
      exact ⟨.obj (vs := []) hc hp rfl .nil, by simp⟩
    | succ i =>
      have e' : (slots (N.length - 1) ds)[i]? = some (some w) := e
      unfold slots at e'
      by_cases hi : i < ds.length
      · rw [List.getElem?_append_left (by simpa using hi), List.getElem?_map] at e'
        obtain ⟨d, hd, e'⟩ := Option.map_eq_some_iff.mp e'
        cases e'
        obtain ⟨v, hv, rv⟩ := r.get hd
        refine ⟨v, ?_, ?_⟩
        · unfold L2.start
          rw [List.getElem?_append_left (by simp [hlen]; omega), List.getElem?_map, List.getElem?_cons_succ, hv]
          rfl
        · simp only [Nat.add_one_ne_zero, if_false]
          exact ⟨.sh rv, List.nodup_nil⟩
      · rw [List.getElem?_append_right (by simpa using hi), List.getElem?_replicate] at e'
        split at e' <;> cases e'
  · cases i with
    | zero =>
      simp only [if_true] at hq
      rw [List.mem_singleton.mp hq]
      exact ⟨hS, delp_at, by rw [hp]; rfl⟩
    | succ i => simp only [Nat.add_one_ne_zero, if_false] at hq; cases hq
  · cases i with
    | zero => cases j with
      | zero => rfl
      | succ j => simp only [Nat.add_one_ne_zero, if_false] at hj; cases hj
    | succ i => simp only [Nat.add_one_ne_zero, if_false] at hi; cases hi
/-- THE RULE for an __init__ -/
theorem fn_semI {x qual : Str} {st : Stmt} {f : Addr} {fd : FuncData} {N ps : List Str} {k n : Nat} (F : Fun K x qual st f fd) (Sc : FnScope N ps (defScope st)) (cn : Str) (hn : ps.length = n + 1) (g : List D → Res W) (Mu : List Nat) (h0 : Mu.contains (1000 + 0) = true) (m : En → Res Fl)
    (hb : ∀ (cdv : Value) (A : Around) (outer : List Env) (s : Shared) (H : Hp) (E : XK), Room k (A.deeper (envOfC qual (defScope st) s.heap.objs.size f cdv)) →
      ∃ t, PSs (cxOf (L2.CX P w) P w K mg base N qual (defScope st) f cdv A outer s H E) (defBody st) t ∧ SemS K Mu E t m)
    (hg : ∀ ds, g ds ≠ .st → runI cn N.length m ds = g ds) : FnOk P w K mg base (L2.CX P w) (k + 1) f fd ps (spI K cn n g) := by
  have hpl : ps.length ≤ N.length := by have := congrArg List.length Sc.pre; rw [List.length_take] at this; omega
  refine F.okX Sc (fun vs H Q E h => ?_) fun cdv A outer s H vs Q E hr h => ?_
  · obtain ⟨p, C, dx, us, S, ds, rfl, hl, _⟩ := h
    rw [List.length_cons, hl, hn]
  · obtain ⟨t, h1, h2⟩ := hb cdv A outer s H E hr
    refine ⟨t, h1, ?_⟩
    obtain ⟨p, C, dx, us, S, ds, rfl, hl, hc, hp, hS, hs, r, q⟩ := h
    have hne : g ds ≠ .st := fun e => by rw [e] at q; exact q
    have e := hg ds hne
    rw [← e] at q
    refine h2.run rfl (init_start Mu h0 hc hp hS hs r (by omega)) ?_
    unfold runI at q
    cases em : m (slotsI cn N.length ds) with
    | ex z => rw [em] at q; exact q
    | st => rw [em] at q; exact q
    | ok fl =>
      rw [em] at q
      cases fl with
      | nx en =>
        simp only [Res.bind_ok] at q
        intro σ' S' H' y _
        cases ew : en[0]? with
        | none => rw [ew] at q; exact q.elim
        | some o =>
          cases o with
          | none => rw [ew] at q; exact q.elim
          | some w' =>
            rw [ew] at q
            obtain ⟨fps, g1, g2, _⟩ := y.own
            obtain ⟨v, a, b, c⟩ := g1 0 _ ew
            have := y.pin (0, .ref p) List.mem_cons_self
            rw [this] at a
            cases a
            exact q S' H' _ ⟨⟨y.ex0, y.base, y.sub, y.nw⟩, b, c, fun r hr => ⟨(g2 0 r hr).2.1, (g2 0 r hr).1⟩⟩
      | rt w => exact q.elim
      | bk en => exact q.elim
      | ct en => exact q.elim
end
section
variable {K : PySem.W.Frag} {E : XK} {T : List (Str × List Str × List Str)}
def mMake (n : Nat) (g : List D → Res W) (ma : En → Res (List D)) : En → Res W := fun e => (ma e).bind (asked n g)
instance semE_make {C : Addr} {cn : Str} {n : Nat} {g : List D → Res W} {t : TA} {F : List Nat} {ma : En → Res (List D)} [hc : ClsIs K C cn] [ha : SemA K E t F ma] : SemE K E (tMake C (spI K cn n g) [] E t) F (mMake n g ma) where
  ok := fun {env σ S H Q w} x e k => by
    obtain ⟨ds, e1, e2⟩ := Res.of_ok e
    obtain ⟨hl, e2⟩ := asked_ok e2 (by simp)
    refine ha.ok x e1 fun vs S' H' g' r => fun p dx hp hdx hne => ?_
    refine ⟨p, C, dx, vs ++ [], S', ds, rfl, by rw [List.append_nil, r.len]; exact hl, hc.is, upd_same, g'.sub.free hp, fun a o q => ?_, by rw [List.append_nil]; exact r, ?_⟩
    · rw [upd_ne (ne_of_none q (g'.sub.free hp)), upd_ne (ne_of_none q (g'.sub.free hdx))]
      exact g'.sub a o q
    · rw [e2]
      intro S2 H2 fp nw
      have old : ∀ a, delp p (upd (upd H' dx (.own p)) p (.ins C dx [])) a = none → H' a = none := fun a h => by
        by_cases ha : a = p
        · rw [ha]; exact hp
        · rw [delp_ne ha, upd_ne ha] at h
          by_cases hd : a = dx
          · rw [hd]; exact hdx
          · rw [upd_ne hd] at h; exact h
      have g2 : Gr S' H' S2 H2 := ⟨nw.gr.ss, fun a o q => nw.gr.hh a o (by rw [delp_ne (ne_of_none q hp), upd_ne (ne_of_none q hp), upd_ne (ne_of_none q hdx)]; exact q), nw.gr.sub, fun a o q => by
        rcases nw.gr.nw a o q with h | h | h
        · exact .inl h
        · exact .inr (.inl (old a h))
        · exact .inr (.inr h)⟩
      exact ⟨rfl, k (.ref p) S2 H2 fp ⟨g'.trans g2, nw.own, nw.nd, fun q hq => ⟨g'.hh.free (old q (nw.new q hq).1), (nw.new q hq).2⟩⟩⟩
  ex := fun {env σ S H Q z} x e k => by
    rcases Res.of_ex e with e1 | ⟨ds, e1, e2⟩
    · exact ha.ex x e1 k
    · obtain ⟨hl, e2⟩ := asked_ok e2 (by simp)
      refine ha.ok x e1 fun vs S' H' g' r => fun p dx hp hdx hne => ?_
      refine ⟨p, C, dx, vs ++ [], S', ds, rfl, by rw [List.append_nil, r.len]; exact hl, hc.is, upd_same, g'.sub.free hp, fun a o q => ?_, by rw [List.append_nil]; exact r, ?_⟩
      · rw [upd_ne (ne_of_none q (g'.sub.free hp)), upd_ne (ne_of_none q (g'.sub.free hdx))]
        exact g'.sub a o q
      · rw [e2]
        exact fun c d H2 s q => k c d H2 (g'.hh.trans fun a o z => s a o (by rw [delp_ne (ne_of_none z hp), upd_ne (ne_of_none z hp), upd_ne (ne_of_none z hdx)]; exact z)) q

/-! ### fields set -/
def putFs : List Str → Str → List Str
  | [], f => [f]
  | g :: r, f => if g = f then g :: r else g :: putFs r f
def putWs {α : Type} : List Str → List α → Str → α → List α
  | [], _, _, x => [x]
  | g :: r, y :: ys, f, x => if g = f then x :: ys else y :: putWs r ys f x
  | _ :: _, [], _, _ => []
theorem putF_zip (f : Str) (v : V) : ∀ (fs : List Str) (vs : List V), vs.length = fs.length → putF f v (fs.zip vs) = (putFs fs f).zip (putWs fs vs f v)
  | [], [], _ => rfl
  | g :: fs, x :: vs, h => by
    rw [List.zip_cons_cons]
    unfold putF putFs putWs
    by_cases e : g = f
    · rw [if_pos e, if_pos e, if_pos e, List.zip_cons_cons]
    · rw [if_neg e, if_neg e, if_neg e, List.zip_cons_cons, putF_zip f v fs vs (by simpa using h)]
theorem putWs_len {α : Type} (f : Str) (x : α) : ∀ (fs : List Str) (xs : List α), xs.length = fs.length → (putWs fs xs f x).length = (putFs fs f).length
  | [], [], _ => rfl
  | g :: fs, y :: xs, h => by
    unfold putFs putWs
    by_cases e : g = f
    · rw [if_pos e, if_pos e]; simpa using h
    · rw [if_neg e, if_neg e, List.length_cons, List.length_cons, putWs_len f x fs xs (by simpa using h)]
theorem Owns.putW {S H : Hp} {f : Str} {y : V} {w : W} {fq : List Addr} (o : Own K S H y w fq) (nq : fq.Nodup) : ∀ (fs : List Str) (vs : List V) (ws : List W) (fp : List Addr), vs.length = fs.length → Owns K S H vs ws fp → fp.Nodup → (∀ q ∈ fp, q ∉ fq) → ∃ fp', Owns K S H (putWs fs vs f y) (putWs fs ws f w) fp' ∧ fp'.Nodup ∧ ∀ q ∈ fp', q ∈ fp ∨ q ∈ fq
  | [], _, _, _, hl, t, _, _ => by
    cases t with
    | nil => exact ⟨fq ++ [], .cons o .nil, by simpa using nq, fun q hq => .inr (by simpa using hq)⟩
    | cons r t => cases hl
  | g :: fs, _, _, _, hl, t, hn, hd => by
    cases t with
    | nil => cases hl
    | cons r t =>
      rename_i v vs w1 ws f1 f2
      have hn' := List.nodup_append.mp hn
      unfold putWs
      by_cases e : g = f
      · rw [if_pos e, if_pos e]
        refine ⟨fq ++ f2, .cons o t, List.nodup_append.mpr ⟨nq, hn'.2.1, fun a ha b hb z => hd b (List.mem_append_right _ hb) (z ▸ ha)⟩, fun q hq => ?_⟩
        rcases List.mem_append.mp hq with h | h
        · exact .inr h
        · exact .inl (List.mem_append_right _ h)
      · rw [if_neg e, if_neg e]
        obtain ⟨fp', a, b, c⟩ := Owns.putW o nq fs _ _ _ (by simpa using hl) t hn'.2.1 fun q hq => hd q (List.mem_append_right _ hq)
        refine ⟨f1 ++ fp', .cons r a, List.nodup_append.mpr ⟨hn'.1, b, fun x hx z hz q => ?_⟩, fun q hq => ?_⟩
        · rcases c z hz with h | h
          · exact hn'.2.2 x hx z h q
          · exact hd x (List.mem_append_left _ hx) (q ▸ h)
        · rcases List.mem_append.mp hq with h | h
          · exact .inl (List.mem_append_left _ h)
          · rcases c q h with h | h
            · exact .inl (List.mem_append_right _ h)
            · exact .inr h
/-- an owned thing is changed at one of its addresses; something new may go into it -/
theorem StOk.mutN {f : Fm} {B S0 S S' H H' : Hp} {env : En} {σ : L2.St} {i : Nat} {p : Addr} {o : HO} {u w' w : W} {v y : V} {fq : List Addr} (x : StOk K f B S0 env σ S H) (n : New K S H S' H' y w fq) (e : env[i]? = some (some u)) (hv : σ[i]? = some (some v)) (hmu : isMu (some o) = true)
    (h : ∀ fp, Own K S' H' v u fp → fp.Nodup → (∀ q ∈ fp, q ∉ fq) → p ∈ fp ∧ ∃ fp', Own K S' (upd H' p o) v w' fp' ∧ fp'.Nodup ∧ ∀ q ∈ fp', q ∈ fp ∨ q ∈ fq) : StOk K f B S0 (env.set i (some w')) σ S' (upd H' p o) := by
  have x' := x.gr n.gr
  obtain ⟨fps, h1, h2, h3⟩ := x.own
  obtain ⟨v', a, b, c⟩ := h1 i u e
  rw [hv] at a
  cases a
  have disj : ∀ j, ∀ q ∈ fps j, q ∉ fq := fun j q hq hq' => by
    have := (h2 j q hq).2.2
    rw [(n.new q hq').1] at this
    cases this
  obtain ⟨hp, fp', o1, nd', sub'⟩ := h (fps i) (b.gr n.gr) c (disj i)
  obtain ⟨q1, q2, q3⟩ := h2 i p hp
  have pS' : S' p = none := n.gr.gone q1 q3
  have far : ∀ j, j ≠ i → ∀ q ∈ fps j, q ≠ p := fun j hj q hq z => by
    subst z
    exact hj (h3 j i q hq hp)
  have keep : ∀ q, isMu (H' q) = true → isMu ((upd H' p o) q) = true := fun q hq => by
    by_cases z : q = p
    · rw [z, upd_same]; exact hmu
    · rw [upd_ne z]; exact hq
  have upH : ∀ q, isMu (H q) = true → isMu (H' q) = true := fun q hq => by
    obtain ⟨t, e, _⟩ := isMu_some hq
    rw [n.gr.hh q t e, ← e]; exact hq
  refine ⟨by rw [List.length_set]; exact x.len, x.pin, fun a o' z => ?_, fun a o' z => ?_, x'.ex0, x'.nw, fun j => if j = i then fp' else fps j, fun j t e' => ?_, fun j q hq => ?_, fun j k q hj hk => ?_⟩
  · rw [upd_ne (ne_of_none z pS')]; exact x'.sub a o' z
  · rw [upd_ne (ne_of_none z q2)]; exact x'.base a o' z
  · rcases get_set e' with ⟨rfl, e1, hl⟩ | ⟨ne, e1⟩
    · cases e1
      refine ⟨v, hv, ?_⟩
      simp only [if_pos]
      exact ⟨o1, nd'⟩
    · obtain ⟨z, a, b', c'⟩ := h1 j t e1
      refine ⟨z, a, ?_⟩
      simp only [if_neg (Ne.symm ne)]
      exact ⟨(b'.gr n.gr).carry (Same.refl S') t fun q hq => upd_ne (far j (Ne.symm ne) q hq), c'⟩
  · by_cases hj : j = i
    · simp only [if_pos hj] at hq
      rcases sub' q hq with h | h
      · obtain ⟨a', b', c'⟩ := h2 i q h
        exact ⟨n.gr.gone a' c', b', keep q (upH q c')⟩
      · exact ⟨(n.new q h).2, x.base.free (n.new q h).1, keep q (Own.there w n.own q h)⟩
    · simp only [if_neg hj] at hq
      obtain ⟨a', b', c'⟩ := h2 j q hq
      exact ⟨n.gr.gone a' c', b', keep q (upH q c')⟩
  · have one : ∀ j, j ≠ i → ∀ q ∈ fps j, q ∈ fp' → False := fun j hj q hq hq' => by
      rcases sub' q hq' with h | h
      · exact hj (h3 j i q hq h)
      · exact disj j q hq h
    by_cases hj' : j = i
    · by_cases hk' : k = i
      · exact hj'.trans hk'.symm
      · simp only [if_pos hj', if_neg hk'] at hj hk
        exact (one k hk' q hk hj).elim
    · by_cases hk' : k = i
      · simp only [if_neg hj', if_pos hk'] at hj hk
        exact (one j hj' q hj hk).elim
      · simp only [if_neg hj', if_neg hk'] at hj hk
        exact h3 j k q hj hk
variable {Mu : List Nat}
def keepF (T : List (Str × List Str × List Str)) (n f : Str) (w : W) : W := if ownF T n f then w else .sh w.toD
def setFld (T : List (Str × List Str × List Str)) (f : Str) (w : W) : W → Res W
  | .obj n fs ws => if hasF T n f && decide (fs.length < 1000) then .ok (.obj n (putFs fs f) (putWs fs ws f (keepF T n f w))) else .st
  | _ => .st
def mSetF (T : List (Str × List Str × List Str)) (F : List Nat) (i : Nat) (f : Str) (me : En → Res W) : En → Res Fl := fun env => (me (fz F env)).bind fun w => match (fz F env)[i]? with
  | some (some u) => (setFld T f w u).map fun u' => .nx ((fz F env).set i (some u'))
  | _ => .st
theorem setFld_run [FldTab K T] {f : Fm} {B S0 S S' H H' : Hp} {env : En} {σ : L2.St} {i : Nat} {n fn : Str} {fs : List Str} {ws : List W} {y v : V} {w : W} {fq : List Addr} {nx : L2.St → Hp → Prop} (x : StOk K f B S0 env σ S H) (nw : New K S H S' H' y w fq) (e : env[i]? = some (some (.obj n fs ws))) (a : σ[i]? = some (some v))
    (hf : hasF T n fn = true) (hl : fs.length < 1000) (q : ∀ H2, StOk K f B S0 (env.set i (some (.obj n (putFs fs fn) (putWs fs ws fn w)))) σ S' H2 → Same S S' → nx σ H2) :
    ∃ a C dx gs, v = .ref a ∧ H' a = some (.ins C dx gs) ∧ Cls K C ∧ NoAttr K C fn ∧ gs.length < 1000 ∧ nx σ (upd H' a (.ins C dx (putF fn y gs))) := by
  have x' := x.gr nw.gr
  obtain ⟨v', fp', a', b', c'⟩ := x'.vw.at_ i _ e
  rw [a] at a'
  cases a'
  cases b' with
  | obj c hp hlen hw =>
    rename_i p C dx vs fp1
    obtain ⟨h3, h4⟩ := hasF_ok hf c
    refine ⟨p, C, dx, _, rfl, hp, h3, h4, by rw [List.length_zip, hlen, Nat.min_self]; exact hl, q _ (x.mutN nw e a rfl fun fp ho hnd hdis => ?_) nw.gr.ss⟩
    cases ho with
    | obj c2 hp2 hlen2 hw2 =>
      rename_i C2 dx2 vs2 fp2
      rw [hp] at hp2
      injection hp2 with hp2
      injection hp2 with e1 e2 e3
      have ev : vs2 = vs := by
        have := congrArg (List.map (·.2)) e3
        rw [List.map_snd_zip (by omega), List.map_snd_zip (by omega)] at this
        exact this.symm
      subst ev
      have hnd' := List.nodup_cons.mp hnd
      obtain ⟨fp3, o1, o2, o3⟩ := Owns.putW nw.own nw.nd _ _ _ _ hlen2 hw2 hnd'.2 fun q hq => hdis q (List.mem_cons_of_mem _ hq)
      have pq : ∀ q ∈ fp3, q ≠ p := fun q hq z => by
        rcases o3 q hq with h | h
        · exact hnd'.1 (z ▸ h)
        · exact hdis p List.mem_cons_self (z ▸ h)
      refine ⟨List.mem_cons_self, p :: fp3, .obj c (dx := dx) (vs := putWs fs vs2 fn y) ?_ (putWs_len fn y fs vs2 hlen2) (Owns.carry (Same.refl S') _ o1 fun q hq => upd_ne (pq q hq)), List.nodup_cons.mpr ⟨fun h => pq p h rfl, o2⟩, fun q hq => ?_⟩
      · rw [upd_same, putF_zip fn y fs vs2 hlen2]
      · rcases List.mem_cons.mp hq with rfl | h
        · exact .inl List.mem_cons_self
        · rcases o3 q h with h | h
          · exact .inl (List.mem_cons_of_mem _ h)
          · exact .inr h
instance semS_setF {i : Nat} {f : Str} {tv : TE} {F : List Nat} {me : En → Res W} [FldTab K T] [hv : SemE K E tv F me] : SemS K Mu E (sFld K (tVar i) tv f) (mSetF T F i f me) where
  run := fun {fm B S0 D env σ S H} hm x p => by
    obtain ⟨S1, x1, s1⟩ := x.fz F
    unfold mSetF at p
    cases ev : me (fz F env) with
    | ex z => rw [ev] at p; exact hv.ex x1.vw ev (xr_up x1.base p)
    | st => rw [ev] at p; exact p.elim
    | ok w =>
      rw [ev] at p
      simp only [Res.bind_ok] at p
      refine hv.ok x1.vw ev fun y S2 H2 fq nw => ?_
      split at p
      · rename_i u e
        unfold setFld at p
        split at p
        · rename_i n fs ws
          split at p
          · rename_i hc
            rw [Bool.and_eq_true] at hc
            obtain ⟨v, fp, a, b, c⟩ := x1.vw.at_ i _ e
            refine ⟨v, a, ?_⟩
            unfold keepF at p
            by_cases ho : ownF T n f = true
            · rw [if_pos ho] at p
              exact setFld_run x1 nw e a hc.1 (of_decide_eq_true hc.2) fun H3 x3 s => p _ _ _ x3 (s1.trans s)
            · rw [if_neg ho] at p
              exact setFld_run x1 nw.sh' e a hc.1 (of_decide_eq_true hc.2) fun H3 x3 s => p _ _ _ x3 (s1.trans s)
          · exact p.elim
        · exact p.elim
      · exact p.elim
end
end Ly

set_option Elab.async false
set_option linter.all false
set_option maxRecDepth 100000
namespace Ly
open PySem L2 PyProof.Rows
section
variable {K : PySem.W.Frag} {E : XK} {T : List (Str × List Str × List Str)} {Mu : List Nat}

/-! ### self.f[k] = v, an own dict in a field -/
theorem putDic_own {S H : Hp} {w w' : W} {u y v : V} {k d : D} {fp : List Addr} (hs : Same S H) (o : Own K S H u w fp) (rk : Rep K S y k) (rv : Rep K S v d) (h : putDic k d w = .ok w') :
    ∃ a o', u = .ref a ∧ fp = [a] ∧ DPut H a y v (upd H a o') ∧ Own K S (upd H a o') u w' [a] := by
  unfold putDic at h
  split at h
  · split at h <;> first | cases h | skip
    rename_i key hkey
    split at h <;> first | cases h | skip
    rename_i hsm
    cases o with
    | dic hp hl hr =>
      refine ⟨_, .dK _, rfl, rfl, .inl ⟨_, key, hp, toK_rep rk hkey, by rw [List.length_zip, hl, Nat.min_self]; exact small_line hsm, rfl⟩, ?_⟩
      rw [putK_zip _ _ _ _ hl]
      exact .dic upd_same (put_len _ _ _ _ hl) (put_rep rv _ _ hr)
  · split at h <;> first | cases h | skip
    rename_i ds
    split at h <;> first | cases h | skip
    rename_i key hkey
    split at h <;> first | cases h | skip
    rename_i hsm
    cases o with
    | dit hp hl hr =>
      cases rk with
      | tup e3 q3 =>
        refine ⟨_, .dT _, rfl, rfl, .inr ⟨_, key, _, hp, rfl, by rw [hs _ _ e3, toKs_rep q3 hkey], by rw [List.length_zip, hl, Nat.min_self]; exact small_line hsm, rfl⟩, ?_⟩
        rw [putK_zip _ _ _ _ hl]
        exact .dit upd_same (put_len _ _ _ _ hl) (put_rep rv _ _ hr)
  · cases h
/-- a thing of one address -/
def top1 : W → Bool
  | .lst _ => true
  | .dic _ _ => true
  | .dit _ _ => true
  | _ => false
theorem top1_own {S H : Hp} {w : W} {u : V} {fp : List Addr} (h : top1 w = true) (o : Own K S H u w fp) : ∃ p, u = .ref p ∧ fp = [p] := by
  cases o with
  | lst e r => exact ⟨_, rfl, rfl⟩
  | dic e l r => exact ⟨_, rfl, rfl⟩
  | dit e l r => exact ⟨_, rfl, rfl⟩
  | _ => cases h
theorem putDic_top {k d : D} {w w' : W} (h : putDic k d w = .ok w') : top1 w = true := by
  unfold putDic at h
  split at h
  · rfl
  · rfl
  · cases h
/-- one field's thing changed in place -/
theorem Owns.change {S H : Hp} {f : Str} {a : Addr} {o' : HO} {w w' : W} (ht : top1 w = true) (hw : Own K S H (.ref a) w [a] → Own K S (upd H a o') (.ref a) w' [a]) : ∀ (fs : List Str) (vs : List V) (ws : List W) (fp : List Addr), vs.length = fs.length → Owns K S H vs ws fp → fp.Nodup → flook fs ws f = some w →
    (fs.zip vs).lookup f = some (.ref a) → Owns K S (upd H a o') vs (putWs fs ws f w') fp ∧ a ∈ fp
  | [], _, _, _, _, _, _, e, _ => by cases e
  | g :: fs, _, _, _, hl, t, hn, e, h1 => by
    cases t with
    | nil => cases hl
    | cons r t =>
      rename_i v vs w1 ws f1 f2
      have hn' := List.nodup_append.mp hn
      unfold flook at e
      rw [List.zip_cons_cons, List.lookup_cons] at e
      rw [List.zip_cons_cons, List.lookup_cons] at h1
      unfold putWs
      by_cases z : g = f
      · have zb : (f == g) = true := by rw [z]; exact beq_self_eq_true f
        rw [zb] at e h1
        cases e
        cases h1
        rw [if_pos z]
        obtain ⟨p, hp, e1⟩ := top1_own ht r
        cases hp
        subst e1
        refine ⟨.cons (hw r) (Owns.carry (Same.refl S) _ t fun q hq => upd_ne fun z => ?_), by simp⟩
        exact hn'.2.2 a (by simp) q hq z.symm
      · have zb : (f == g) = false := by rw [beq_eq_false_iff_ne]; exact fun q => z q.symm
        rw [zb] at e h1
        rw [if_neg z]
        obtain ⟨i1, i2⟩ := Owns.change ht hw fs vs ws f2 (by simpa using hl) t hn'.2.1 e h1
        exact ⟨.cons (Own.carry (Same.refl S) _ r fun q hq => upd_ne fun z => hn'.2.2 q hq a i2 z) i1, List.mem_append_right _ i2⟩
theorem putWs_fs {f : Str} : ∀ {α : Type} {fs : List Str} {xs : List α} {x : α}, flook fs xs f = some x → putFs fs f = fs
  | _, [], _, _, h => by cases h
  | _, g :: fs, [], _, h => by cases h
  | _, g :: fs, y :: xs, x, h => by
    unfold flook at h
    rw [List.zip_cons_cons, List.lookup_cons] at h
    unfold putFs
    by_cases z : g = f
    · rw [if_pos z]
    · rw [if_neg z]
      have zb : (f == g) = false := by rw [beq_eq_false_iff_ne]; exact fun q => z q.symm
      rw [zb] at h
      rw [putWs_fs h]
theorem putWs_len2 {α : Type} (f : Str) (x : α) : ∀ (fs : List Str) (xs : List α) (y : α), xs.length = fs.length → flook fs xs f = some y → (putWs fs xs f x).length = fs.length := fun fs xs y hl h => by
  rw [putWs_len f x fs xs hl, putWs_fs h]
def mFDPut (T : List (Str × List Str × List Str)) (F : List Nat) (i : Nat) (f : Str) (mk mv : En → Res D) : En → Res Fl := fun env => (mv (fz F env)).bind fun x => match (fz F env)[i]? with
  | some (some (.obj n fs ws)) => if hasF T n f then match flook fs ws f with
    | some w => (mk (fz F env)).bind fun k => (putDic k x w).map fun w' => .nx ((fz F env).set i (some (.obj n fs (putWs fs ws f w'))))
    | none => .st
    else .st
  | _ => .st
instance semS_fdput {i : Nat} {f : Str} {tk tv : TE} {Fk Fv : List Nat} {mk mv : En → Res W} [FldTab K T] [hv : SemE K E tv Fv mv] [hk : SemE K E tk Fk mk] : SemS K Mu E (sDPut (tFld K (tVar i) f) tk tv) (mFDPut T (Fv ++ Fk) i f (mD mk) (mD mv)) where
  run := fun {fm B S0 D env σ S H} hm x p => by
    obtain ⟨S1, x1, s1⟩ := x.fz (Fv ++ Fk)
    unfold mFDPut at p
    cases ev : mD mv (fz (Fv ++ Fk) env) with
    | ex z => rw [ev] at p; exact hv.ex x1.vw (Res.of_exm ev) (xr_up x1.base p)
    | st => rw [ev] at p; exact p.elim
    | ok d =>
      rw [ev] at p
      simp only [Res.bind_ok] at p
      refine hv.okD x1.vw ev fun v S2 H2 g2 r2 => ?_
      have x2 := x1.gr g2
      split at p
      case h_2 => exact p.elim
      rename_i n fs ws e
      split at p
      case isFalse => exact p.elim
      rename_i hf
      split at p
      case h_2 => exact p.elim
      rename_i w ef
      obtain ⟨u, fp, a, b, c⟩ := x2.vw.at_ i _ e
      obtain ⟨pa, C, dx, gs, uf, fq, h1, h2, h3, h4, h5, h6⟩ := fldW_ok (T := T) (f := f) (r := w) x2.sub b (by unfold fldW; simp only; rw [if_pos hf, ef])
      refine ⟨u, a, pa, C, dx, gs, uf, h1, h2, h3, h4, h5, ?_⟩
      cases ek : mD mk (fz (Fv ++ Fk) env) with
      | st => rw [ek] at p; exact p.elim
      | ex z => rw [ek] at p; exact hk.ex x2.vw (Res.of_exm ek) (xr_up x2.base p)
      | ok kd =>
        rw [ek] at p
        simp only [Res.bind_ok] at p
        refine hk.okD x2.vw ek fun y S3 H3 g3 r3 => ?_
        cases ep : putDic kd d w with
        | st => rw [ep] at p; exact p.elim
        | ex z => exact (putDic_ex ep).elim
        | ok w' =>
          rw [ep] at p
          have ht := putDic_top ep
          have x3 := x2.gr g3
          obtain ⟨af, o', e1, e2, e3, e4⟩ := putDic_own g3.sub (h6.gr g3) r3 (r2.up g3.ss) ep
          subst e1
          refine ⟨af, _, rfl, e3, p _ S3 _ ?_ ((s1.trans g2.ss).trans g3.ss)⟩
          subst h1
          have hp3 := g3.hh _ _ h2
          refine x3.mutN (w := .sh .non) (y := .non) (fq := []) (.sh (.refl x3.sub) .non) e a (by have hm := Own.there w' e4 af (by simp); rwa [upd_same] at hm) fun fp0 ho hnd hdd => ?_
          cases ho with
          | obj c2 hp2 hlen2 hw2 =>
            rename_i C2 dx2 vs2 fp2
            rw [hp3] at hp2
            injection hp2 with hp2
            injection hp2 with q1 q2 q3
            subst q3
            have hnd' := List.nodup_cons.mp hnd
            have e2' : fq = [af] := e2
            subst e2'
            obtain ⟨i1, i2⟩ := Owns.change ht (fun _ => e4) fs vs2 ws fp2 hlen2 hw2 hnd'.2 ef h5
            have nap : pa ≠ af := fun z => hnd'.1 (z ▸ i2)
            exact ⟨List.mem_cons_of_mem _ i2, pa :: fp2, .obj c2 (by rw [upd_ne nap, hp3, q1, q2]) hlen2 i1, hnd, fun q hq => .inl hq⟩

/-! ### xs.extend(ys) -/
def mExtend (F : List Nat) (i : Nat) (ma : En → Res (List D)) : En → Res Fl := fun env => match (fz F env)[i]? with
  | some (some (.lst xs)) => (ma (fz F env)).bind fun ds => match ds with
    | [.lst ys] => if small (xs.length + ys.length) then .ok (.nx ((fz F env).set i (some (.lst (xs ++ ys))))) else .st
    | _ => .st
  | _ => .st
instance semS_extend {i : Nat} {t : TA} {F : List Nat} {ma : En → Res (List D)} [h : SemA K E t F ma] : SemS K Mu E (tDrop (tBM K "list" rExtend (tVar i) t)) (mExtend F i ma) where
  run := fun {f B S0 D env σ S H} hm x p => by
    obtain ⟨S1, x1, s1⟩ := x.fz F
    unfold mExtend at p
    split at p
    · rename_i xs e
      obtain ⟨v, fp, a, b, c⟩ := x1.vw.at_ i _ e
      cases b with
      | lst hp hr =>
        refine ⟨_, a, .inl ⟨rfl, _, SqL.of hp⟩, ?_⟩
        cases ea : ma (fz F env) with
        | ex z => rw [ea] at p; exact h.ex x1.vw ea (xr_up x1.base p)
        | st => rw [ea] at p; exact p.elim
        | ok ds =>
          rw [ea] at p
          simp only [Res.bind_ok] at p
          refine h.ok x1.vw ea fun vs S2 H2 g r => ?_
          split at p
          · rename_i ys
            split at p
            · rename_i hs
              cases r with
              | cons r1 r2 =>
                cases r2
                cases r1 with
                | lst hb rb =>
                  have x2 := x1.gr g
                  refine ⟨_, _, _, _, rfl, rfl, g.hh _ _ hp, g.sub _ _ hb, by rw [hr.len, rb.len]; exact Nat.le_of_lt (small_line hs), ?_⟩
                  refine p _ _ _ (x2.mut e (fun fq o => ?_) a (.lst upd_same ((hr.up g.ss).app rb))) (s1.trans g.ss)
                  cases o; rfl
            · exact p.elim
          · exact p.elim
    · exact p.elim
/-! ### all, any of a list of truths -/
def rAllU (K : PySem.W.Frag) : List V → Hp → VK → Prop := rAll K
def rAnyU (K : PySem.W.Frag) : List V → Hp → VK → Prop := rAny K
theorem call_allU {X : Cx} (hc : X.calm = true) (hK : X.K = K) : CallR X (.builtin "all") (rAllU K) := by subst hK; exact cr_all hc
theorem call_anyU {X : Cx} (hc : X.calm = true) (hK : X.K = K) : CallR X (.builtin "any") (rAnyU K) := by subst hK; exact cr_any hc
def blsD : List D → Option (List Bool)
  | [] => some []
  | .bl x :: ds => (blsD ds).map fun xs => x :: xs
  | _ :: _ => none
theorem blsD_rep {S : Hp} : ∀ {vs : List V} {ds : List D} {xs : List Bool}, Reps K S vs ds → blsD ds = some xs → vs = xs.map V.bl
  | _, _, _, .nil, h => by cases h; rfl
  | _, _, _, .cons r t, h => by
    unfold blsD at h
    split at h
    · rename_i e; cases e
    · rename_i x ds e
      cases e
      obtain ⟨xs, h1, rfl⟩ := Option.map_eq_some_iff.mp h
      cases r
      rw [blsD_rep t h1]
      rfl
    · cases h
def allD : List D → Res W
  | [.lst xs] => match blsD xs with
    | some bs => .ok (.sh (.bl (bs.all id)))
    | none => .st
  | _ => .st
def anyD : List D → Res W
  | [.lst xs] => match blsD xs with
    | some bs => .ok (.sh (.bl (bs.any id)))
    | none => .st
  | _ => .st
instance calV_all : CalV K (rAllU K) allD where
  ok := fun {S H vs ds Q w} hs r h k => by
    unfold allD at h
    split at h <;> first | cases h | skip
    split at h <;> first | cases h | skip
    rename_i xs bs hb
    obtain ⟨v, rfl, r1⟩ := views1 r
    obtain ⟨p, us, rfl, hp, q⟩ := r1.lst_inv hs
    have := blsD_rep q hb
    subst this
    exact ⟨p, bs, rfl, SqL.of hp, k _ S H [] (.sh (.refl hs) (.bl _))⟩
  ex := fun h => by
    unfold allD at h
    repeat' split at h
    all_goals cases h
instance calV_any : CalV K (rAnyU K) anyD where
  ok := fun {S H vs ds Q w} hs r h k => by
    unfold anyD at h
    split at h <;> first | cases h | skip
    split at h <;> first | cases h | skip
    rename_i xs bs hb
    obtain ⟨v, rfl, r1⟩ := views1 r
    obtain ⟨p, us, rfl, hp, q⟩ := r1.lst_inv hs
    have := blsD_rep q hb
    subst this
    exact ⟨p, bs, rfl, SqL.of hp, k _ S H [] (.sh (.refl hs) (.bl _))⟩
  ex := fun h => by
    unfold anyD at h
    repeat' split at h
    all_goals cases h
end
end Ly

set_option Elab.async false
set_option linter.all false
set_option maxRecDepth 100000
namespace Ly
open PySem L2 PyProof.Rows
/-! dict(pairs), the keys tuples of texts and numbers -/
def rDictT (K : PySem.W.Frag) : List V → Hp → VK → Prop := fun xs H Q => ∃ (a : Addr) (ps : List Addr) (kvs : List (List Key × V)), xs = [.ref a] ∧ SqL K H a (ps.map V.ref) ∧
  Paired (fun p (kv : List Key × V) => ∃ b, H p = some (.tup [.ref b, kv.2]) ∧ H b = some (.tup (kv.1.map kV))) ps kvs ∧ ∀ p, H p = none → Q (.ref p) (upd H p (.dT (kvs.foldl (fun acc kv => putK acc kv.1 kv.2) [])))
abbrev Row := List Key × Addr × Value
theorem rows_of {X : Cx} {pins : List (Addr × Obj)} {σ : L2.St} {H : Hp} {s : Shared} (I : Inv X pins σ H s) : ∀ {ps : List Addr} {kvs : List (List Key × V)}, Paired (fun p (kv : List Key × V) => ∃ b, H p = some (.tup [.ref b, kv.2]) ∧ H b = some (.tup (kv.1.map kV))) ps kvs →
    ∃ rows : List Row, KT H kvs rows ∧ rows.length = ps.length ∧ ∀ (j : Nat) (q : Row), rows[j]? = some q → ∃ p, ps[j]? = some p ∧ s.heap.IsTuple p #[.ref q.2.1, q.2.2]
  | _, _, .nil => ⟨[], .nil, rfl, fun j q h => by simp at h⟩
  | _, _, .cons (a := p) (b := kv) h t => by
    obtain ⟨rows, k1, k2, k3⟩ := rows_of I t
    obtain ⟨b, hb1, hb2⟩ := h
    obtain ⟨its, rv, ht, _⟩ := I.tuple (SqT.of hb1)
    obtain ⟨u1, u2, rfl, ru1, ru2⟩ := vals2 rv
    obtain rfl : u1 = Value.ref b := ru1
    refine ⟨(kv.1, b, u2) :: rows, .cons ⟨rfl, hb2, ru2⟩ k1, by rw [List.length_cons, List.length_cons, k2], fun j q hq => ?_⟩
    cases j with
    | zero => cases hq; exact ⟨p, rfl, ht⟩
    | succ j =>
      obtain ⟨p', e1, e2⟩ := k3 j q hq
      exact ⟨p', e1, e2⟩
theorem stored_of {H : Hp} : ∀ (kvs : List (List Key × V)) (rows : List Row) (acc : List (List Key × V)) (accR : List Row), KT H kvs rows → KT H acc accR → KT H (kvs.foldl (fun acc kv => putK acc kv.1 kv.2) acc) (storedAllH accR rows)
  | [], _, acc, accR, h, h2 => by cases h; exact h2
  | (k, v) :: kvs, _, acc, accR, h, h2 => by
    cases h with
    | cons h t =>
      rename_i q qs
      obtain ⟨k', b, u⟩ := q
      obtain ⟨e1, e2, e3⟩ := h
      simp only at e1 e2 e3
      subst e1
      exact stored_of kvs qs _ _ t (h2.put k e2 e3)
theorem fold_len : ∀ (kvs acc : List (List Key × V)), (kvs.foldl (fun acc kv => putK acc kv.1 kv.2) acc).length ≤ acc.length + kvs.length
  | [], acc => Nat.le_refl _
  | kv :: kvs, acc => by
    have h1 := fold_len kvs (putK acc kv.1 kv.2)
    have h2 := length_putK acc kv.1 kv.2
    rw [List.foldl_cons, List.length_cons]
    omega
theorem call_dictT {X : Cx} (K : PySem.W.Frag) (hc : X.calm = true) (hK : X.K = K) (hu : X.A.units + 64 < cLine) : CallR X (.type "dict") (rDictT K) := by
  subst hK
  intro pins s σ H xs us Q I r h
  obtain ⟨a, ps, kvs, rfl, hq, hp, q⟩ := h
  obtain ⟨u, rfl, ru⟩ := vals1 r
  obtain rfl : u = Value.ref a := ru
  obtain ⟨its, rv, pl, hz⟩ := I.list hq
  have ei := refs_at rv
  subst ei
  obtain ⟨rows, k1, k2, k3⟩ := rows_of I hp
  have hlen : kvs.length = rows.length := Paired.length k1
  rw [List.length_map] at hz
  obtain ⟨o, n, ho, hcl, hd, hdat⟩ := pl
  let prs : List (Value × Value) := rows.map fun q => (Value.ref q.2.1, q.2.2)
  have hprs : prs.length = rows.length := List.length_map _
  let Ts : Nat → Addr := fun j => ps.getD j 0
  have items : PairItems s.heap (ps.map Value.ref).toArray Ts prs := by
    refine ⟨by rw [List.size_toArray, List.length_map, hprs, k2], fun j k v hj => ?_⟩
    have hj' : (rows.map fun q => (Value.ref q.2.1, q.2.2))[j]? = some (k, v) := hj
    rw [List.getElem?_map] at hj'
    obtain ⟨w, e1, e2⟩ := Option.map_eq_some_iff.mp hj'
    cases e2
    obtain ⟨p, e3, e4⟩ := k3 j w e1
    have et : Ts j = p := by
      show ps.getD j 0 = p
      rw [List.getD_eq_getElem?_getD, e3]
      rfl
    rw [et]
    refine ⟨?_, .inl e4⟩
    rw [List.getElem?_toArray, List.getElem?_map, e3]
    rfl
  refine call_dict_pairsH (knd := tupleKind (mixKind X.prog X.w)) (ps := rows) (PairArg.list a (ps.map Value.ref).toArray Ts prs) (I.ok.hd hc) (by show X.A.units + 1 + 1 < cLine; omega) ⟨⟨o, n, ho, hcl, hd, hdat⟩, items⟩ ⟨hprs.symm, fun i key v hi => ?_⟩ (fun h' hk x hx => ?_) (by rw [hprs, k2]; exact hz) fun h' tk hd' hk => ?_
  · have hi' : (rows.map fun q => (Value.ref q.2.1, q.2.2))[i]? = some (key, v) := hi
    rw [List.getElem?_map] at hi'
    obtain ⟨w, e1, e2⟩ := Option.map_eq_some_iff.mp hi'
    cases e2
    exact ⟨w.1, w.2.1, e1, rfl⟩
  · have key : ∀ {l : List (List Key × V)} {m : List Row}, KT H l m → ∀ x ∈ m, H x.2.1 = some (.tup (x.1.map kV)) := by
      intro l m t
      induction t with
      | nil => intro x hx; cases hx
      | cons h t ih =>
        intro x hx
        rcases List.mem_cons.mp hx with rfl | hx
        · rw [← h.1]; exact h.2.1
        · exact ih x hx
    obtain ⟨ob, itm, m, g1, g2⟩ := key_of I.hok (key k1 x hx)
    exact ⟨ob, itm, m, hk _ _ (Nat.ne_of_lt (Heap.lt_size g1)) (by simp) g1, g2⟩
  · obtain ⟨od, es, ep, f1, f2, f3, f4, f5, f6⟩ := hd'
    have kp : ∀ b u, s.heap.get? b = some u → h'.get? b = some u := fun b u e => hk b u (by simp) e
    have hn := I.hok.fresh (Nat.le_refl s.heap.objs.size)
    have kt := (stored_of kvs rows [] [] k1 .nil).keeps (H' := upd H s.heap.objs.size (.dT (kvs.foldl (fun acc kv => putK acc kv.1 kv.2) []))) fun b ys e => by rw [upd_ne (ne_of_none e hn)]; exact e
    have hm : (s.heap.objs.size == sysModules) = false := beq_eq_false_iff_ne.mpr (Nat.ne_of_gt I.big)
    have hsz : (kvs.foldl (fun acc kv => putK acc kv.1 kv.2) []).length ≤ sizeLine := by
      have := fold_len kvs []
      rw [List.length_nil, Nat.zero_add] at this
      omega
    exact ⟨.ref s.heap.objs.size, _, I.laid (t' := tk) kp (Nat.le_refl _) (show ObjOk X.prog X.w _ h' _ (.dT _) from ⟨hsz, hm, _, kt, od, es, ep, f1, f2, f3, f4, f6⟩), rfl, q _ hn⟩
end Ly

set_option Elab.async false
set_option linter.all false
set_option maxRecDepth 100000
namespace Ly
open PySem L2 PyProof.Rows
/-- the new set's object -/
def newSetO (w : World) : Obj := { cls := .type "set", dict := none, data := .set #[] 0 (.fresh 0 0 (!w.params.followText "set-order")) }
section
variable {P : Program} {w : World} {A : Around} {E : Value → Shared → Prop} {s : Shared}
/-- set.update's loop over what is walked, by what holds at each turn (Tab): each item is added -/
theorem fill_by {J S : Addr} {fp wr : List Addr} {G : Array GenState → Array GenState → Prop} {n : Nat} {Pv : Nat → Value → Prop} {St : Nat → Shared → Prop} {R : Result → Shared → Prop} (W : WalksS P w A.in1 J fp wr G n Pv St) (hSf : S ∉ fp) (Tab : Nat → Heap → Prop)
    (keep : ∀ i g g', Tab i g → (∀ b o, b ∉ wr → g.get? b = some o → g'.get? b = some o) → Tab i g')
    (step : ∀ i v (s1 : Shared) (Q : Bool → Shared → Prop) (E1 : Value → Shared → Prop), i < n → Pv i v → Tab i s1.heap → (∀ b g' t', s1.toks ≤ t' → Heap.SameBut S s1.heap g' → Tab (i + 1) g' → Q b { s1 with heap := g', toks := t' }) → wpAny (model P w) A.in1 (setAdd S v) Q E1 s1) :
    ∀ (m i : Nat) (s1 : Shared), n - i = m → i ≤ n → St i s1 → Tab i s1.heap → (∀ s2, Moved (S :: wr) G s1 s2 → Tab n s2.heap → R (.ok (.ret .none)) s2) → codeAny (model P w) A (.builtin "set.update.loop" ⟨[.ref S, .ref J], []⟩) R s1 := by
  have up : ∀ b ∈ wr, b ∈ S :: wr := fun b h => List.mem_cons_of_mem _ h
  have hB := PyProof.Rows.F.entry_set_update_loop
  have hU := PyProof.Rows.F.plain_set_update_loop
  intro m
  induction m with
  | zero =>
    intro i s1 hm hi st tb hR
    obtain rfl : i = n := by omega
    refine codeAny_builtin hB ?_
    rw [Around.under_plainId hU _]
    show wpAny (model P w) A.in1 (pyNext (.ref J) >>= _) _ _ s1
    exact wpAny_bind (W.done s1 _ _ st fun s2 mv => (show wpAny _ A.in1 (ret Value.none) _ _ s2 from wpAny_pure (hR s2 (mv.mono up) (keep _ _ _ tb fun b o hb e => mv.heap b o hb e))))
  | succ m ih =>
    intro i s1 hm hi st tb hR
    have lt : i < n := by omega
    refine codeAny_builtin hB ?_
    rw [Around.under_plainId hU _]
    show wpAny (model P w) A.in1 (pyNext (.ref J) >>= _) _ _ s1
    refine wpAny_bind (W.item i s1 _ _ lt st fun v s2 pv st2 mv => ?_)
    have tb2 := keep _ _ _ tb fun b o hb e => mv.heap b o hb e
    refine (show wpAny _ A.in1 (holding [v] (setAdd S v) >>= _) _ _ s2 from wpAny_bind (wpAny_holding (step i v s2 _ _ lt pv tb2 fun b g' t' ht sb tb3 => ?_)))
    refine wpAny_pure ⟨plainId_quiet hU _, ih (i + 1) _ (by omega) lt (W.frame _ s2 _ _ st2 ht fun b hb o e => (sb.2 b fun z => hSf (z ▸ hb)).trans e) tb3 fun s3 mv3 tb4 => ?_⟩
    exact hR s3 (Moved.trans W.gtrans ((mv.mono up).then_heap ht fun b o hb e => (sb.2 b fun z => hb (z ▸ List.mem_cons_self)).trans e) mv3) tb4

set_option maxHeartbeats 3200000 in
/-- set(l), l a list: item by item, by what holds at each turn -/
theorem set_by {l : Addr} {items : Array Value} {Q : Value → Shared → Prop} (hh : A.handled = none) (hl : s.heap.IsList l items) (Tab : Nat → Heap → Prop)
    (t0 : ∀ g, g.get? s.heap.objs.size = some (newSetO w) → (∀ b o, s.heap.get? b = some o → g.get? b = some o) → Tab 0 g)
    (keep : ∀ i g g', Tab i g → (∀ b o, b < s.heap.objs.size + 1 → g.get? b = some o → g'.get? b = some o) → Tab i g')
    (step : ∀ i v (s1 : Shared) (Q : Bool → Shared → Prop) (E1 : Value → Shared → Prop), items[i]? = some v → Tab i s1.heap → (∀ b g' t', s1.toks ≤ t' → Heap.SameBut s.heap.objs.size s1.heap g' → Tab (i + 1) g' → Q b { s1 with heap := g', toks := t' }) →
      wpAny (model P w) A.in1.in1.in1 (setAdd s.heap.objs.size v) Q E1 s1)
    (fin : ∀ g t', Tab items.size g → (∀ b o, b < s.heap.objs.size → s.heap.get? b = some o → g.get? b = some o) → Q (.ref s.heap.objs.size) { s with heap := g, toks := t' }) : wpAny (model P w) A (call (.type "set") [.ref l]) Q E s := by
  have hC := F.called_set
  obtain ⟨c0, r0, hM⟩ := hC.mro
  have m1 := hC.made
  have m2 := hC.sub
  have m3 := hC.notType
  have m4 := hC.canCreate
  have m5 := F.typeCall_set_1 (.ref l)
  refine wpAny_call (codeAny_of_tree (show wpAny _ _ (callAny (.type "set") _) _ _ _ from wpAny_pure ⟨Code.quiet_builtin _ (by decide +kernel), codeAny_builtin F.entry_type_call ?_⟩))
  have m6 := weight_type_call_type "set" [.ref l] []
  rw [Around.under_plain m6 rfl]
  repeat any_goals first | assumption | wp_step
  refine codeAny_mono (code_set_led1 (.ref l) (E := E) (Q₁ := fun ob z => ob = .ref s.heap.objs.size ∧ z = { s with heap := s.heap.push (newSetO w) }) ⟨rfl, rfl⟩) fun r s₁ hr => ?_
  cases r with
  | error e => exact hr
  | ok fl =>
    cases fl with
    | next => exact hr.elim
    | brk => exact hr.elim
    | cont => exact hr.elim
    | ret ob =>
      obtain ⟨rfl, rfl⟩ := hr
      have hS : (s.heap.push (newSetO w)).get? s.heap.objs.size = some (newSetO w) := Heap.get?_push_size _ rfl
      have hT : Shared.TypeIs { s with heap := s.heap.push (newSetO w) } (.ref s.heap.objs.size) "set" := ⟨_, hS, rfl⟩
      have n1 := hC.init.lookup
      have n2 := hC.init.bind (.ref s.heap.objs.size)
      repeat any_goals first | assumption | wp_step
      refine codeAny_mono (codeAny_call_builtin (R := wants (fun r z => r = .none ∧ ∃ g t', z = { s with heap := g, toks := t' } ∧ Tab items.size g ∧ ∀ b o, b < s.heap.objs.size → s.heap.get? b = some o → g.get? b = some o) E) hC.init.plain F.entry_set_init (check_set_init_1 hT ?_)) fun r2 s2 hr2 => ?_
      · obtain ⟨ol, hol, hcl, nl, hdl⟩ := hl
        obtain ⟨q1, q2, q3, q4⟩ := ol
        have e1 : q1 = .type "list" := hcl
        have e2 : q3 = .seq items nl := hdl
        subst e1 e2
        have hol2 : (s.heap.push (newSetO w)).get? l = some { cls := .type "list", dict := q2, data := .seq items nl, slots := q4 } := Heap.get?_push_of_some _ hol
        have p1 := F.sub_list_set
        have p2 := F.sub_list_frozenset
        have p3 : (Value.type "list" == Value.type "dict") = false := by decide
        have hl2 : (s.heap.push (newSetO w)).IsList l items := ⟨_, hol2, rfl, nl, rfl⟩
        unfold newSetO at hS hT hol2 hl2 ⊢
        unfold Builtin.«set.__init__» noKeywords
        unfold Builtin.Frozenset.updateFrom
        generalize hp : pyIter = PI
        wp_walk
        subst hp
        refine wpAny_pyIter_list hl2 (wpAny_bind (wpAny_runValue ?_))
        have lS : l < s.heap.objs.size := Heap.lt_size hol
        have hA : A.in1.in1.in1.handled = none := by simpa using hh
        have sz : (s.heap.push { cls := .type "set", dict := none, data := .set #[] 0 (.fresh 0 0 (!w.params.followText "set-order")) }).objs.size = s.heap.objs.size + 1 := by rw [Heap.size_push]
        refine fill_by ((Walks.list hA _ l (by rw [sz]; exact Nat.ne_of_lt (Nat.lt_succ_of_lt lS)) items).toS) (S := s.heap.objs.size) (by
          rw [sz]
          intro hm
          rcases List.mem_cons.mp hm with e | hm
          · exact absurd e (Nat.ne_of_lt (Nat.lt_succ_self _))
          · exact absurd (List.mem_singleton.mp hm) (Nat.ne_of_gt lS)) Tab (fun i g g' tb k => keep i g g' tb fun b o hb e => k b o (by rw [sz]; exact fun hm => absurd (List.mem_singleton.mp hm) (Nat.ne_of_lt hb)) e) (fun i v s1 Q1 E1 hi pv tb k => step i v s1 Q1 E1 pv tb k) (items.size - 0) 0 _ (by omega) (Nat.zero_le _)
          ⟨⟨_, Heap.get?_push_size _ rfl, rfl, rfl⟩, hl2.push _⟩ (t0 _ (Heap.get?_push_of_some _ hS) fun b o e => Heap.get?_push_of_some _ (Heap.get?_push_of_some _ e)) fun s2 mv tb => ?_
        obtain ⟨g, g2, d2, t2, o2⟩ := s2
        have a1 : g2 = s.gens := mv.gens
        have a2 : d2 = s.drawn := mv.drawn
        have a3 : o2 = s.os := mv.os
        subst a1 a2 a3
        show wpAny _ _ _ _ _ _
        refine wpAny_pure (show wpAny _ _ (ret Value.none) _ _ _ from wpAny_pure ⟨rfl, g, t2, rfl, tb, fun b o hb e => ?_⟩)
        exact mv.heap b o (by
          rw [sz]
          intro hm
          rcases List.mem_cons.mp hm with e | hm
          · exact absurd e (Nat.ne_of_lt hb)
          · exact absurd (List.mem_singleton.mp hm) (Nat.ne_of_lt (Nat.lt_succ_of_lt hb))) (Heap.get?_push_of_some _ (Heap.get?_push_of_some _ e))
      · cases r2 with
        | error e => exact hr2
        | ok f2 =>
          cases f2 with
          | ret r =>
            obtain ⟨rfl, g, t', rfl, hTab, hk⟩ := hr2
            repeat any_goals first | assumption | wp_step
            exact fin g t' hTab hk
          | next => exact hr2.elim
          | brk => exact hr2.elim
          | cont => exact hr2.elim
end
end Ly

set_option Elab.async false
set_option linter.all false
set_option maxRecDepth 100000
namespace Ly
open PySem L2 PyProof.Rows
section
variable {P : Program} {w : World} {A : Around} {E : Value → Shared → Prop} {s : Shared}
/-- set(l), l a list of texts that are all unlike -/
theorem set_texts {l : Addr} {items : Array Value} {xs : List Str} {Q : Value → Shared → Prop} (hh : A.handled = none) (hl : s.heap.IsList l items) (hi : StrsAre items.toList xs) (hn : xs.Nodup) (hb : xs.length ≤ 4000)
    (fin : ∀ g t', g.SetOf (PySem.strKind P w) s.heap.objs.size (fun k => xs.any (· == k)) xs.length → (∀ b o, b < s.heap.objs.size → s.heap.get? b = some o → g.get? b = some o) → Q (.ref s.heap.objs.size) { s with heap := g, toks := t' }) : wpAny (model P w) A (call (.type "set") [.ref l]) Q E s := by
  have hlen : items.size = xs.length := by
    rw [← Array.length_toList]
    exact hi.length
  refine set_by hh hl (fun i g => g.SetOf (PySem.strKind P w) s.heap.objs.size (fun k => (xs.take i).any (· == k)) i) (fun g hg _ => ?_) (fun i g g' tb k => ?_) (fun i v s1 Q1 E1 hv tb k => ?_) fun g t' tb hk => ?_
  · exact SetOf_congr ((setObjOf_fresh (knd := PySem.strKind P w) (!w.params.followText "set-order")).setOf hg (by unfold scanBound; omega)) (fun _ => rfl) rfl
  · obtain ⟨o, es, ep, tt, ho, rest⟩ := tb
    exact ⟨o, es, ep, tt, k _ _ (Nat.lt_succ_self _) ho, rest⟩
  · obtain ⟨hlt, hx⟩ := Array.getElem?_eq_some_iff.mp hv
    have hi' : i < xs.length := by omega
    obtain ⟨t, ht⟩ : ∃ t, v = .str xs[i] t := by
      obtain ⟨t, e⟩ := SS.strs_at hi i v (by rw [Array.getElem?_toList]; exact hv)
      refine ⟨t, e.trans ?_⟩
      rw [List.getD_eq_getElem?_getD, List.getElem?_eq_getElem hi']
      rfl
    subst ht
    have hno : (xs.take i).any (· == xs[i]) = false := by
      rw [List.any_eq_false]
      intro y hy e
      have e' := eq_of_beq e
      obtain ⟨j, hj, e2⟩ := List.getElem_of_mem hy
      rw [List.getElem_take] at e2
      rw [List.length_take] at hj
      exact List.pairwise_iff_getElem.mp hn j i (by omega) hi' (by omega) (e2.trans e')
    unfold setAdd
    refine wpAny_holding (wpAny_bind ((PySem.strKind P w).pyHash (k := xs[i]) (strKind_is _ _ _ _) ?_))
    refine wpAny_setAddHashed_of (knd := PySem.strKind P w) (s := { s1 with toks := s1.toks + 1 }) (strKind_is _ _ _ _) rfl tb (by unfold scanBound; omega) fun g' sb tb2 => ?_
    refine k _ g' _ (Nat.le_succ _) sb (SetOf_congr tb2 (fun q => ?_) ?_)
    · rw [List.take_succ, List.getElem?_eq_getElem hi', List.any_append]
      have e : ((some xs[i]).toList.any fun z => z == q) = decide (q = xs[i]) := by
        show ((xs[i] == q) || false) = _
        rw [Bool.or_false]
        by_cases z : q = xs[i]
        · rw [decide_eq_true z, z]; exact beq_self_eq_true _
        · rw [decide_eq_false z]; exact beq_eq_false_iff_ne.mpr fun h => z h.symm
      rw [e]
    · simp only [hno]
      rfl
  · rw [hlen] at tb
    rw [List.take_length] at tb
    exact fin g t' tb hk
end
end Ly

set_option Elab.async false
set_option linter.all false
set_option maxRecDepth 100000
namespace Ly
open PySem L2 PyProof.Rows
/-! a set of tuples of texts and numbers: the small questions -/
abbrev KdT (P : Program) (w : World) : HeapKind P w (List Key) := tupleKind (mixKind P w)
abbrev hsh (P : Program) (w : World) (k : List Key) : Int := (KdT P w).hash k
abbrev IsK (P : Program) (w : World) (g : Heap) (k : List Key) (a : Addr) : Prop := (KdT P w).is g k a
section
variable {P : Program} {w : World} {A : Around} {E : Value → Shared → Prop} {s : Shared}
/-- a text or a number -/
def flatV (v : Value) : Prop := (∃ i t, v = .int i t) ∨ ∃ z t, v = .str z t
theorem items_flat {k : List Key} {vs : List Value} (h : ItemsAre (mixKind P w) k vs) : ∀ v ∈ vs, flatV v := by
  induction h with
  | nil => intro v hv; cases hv
  | @cons k0 v0 ks vs h1 t ih =>
    intro v hv
    rcases List.mem_cons.mp hv with rfl | hv
    · rcases keyIs_shape h1 with ⟨i, t, _, e⟩ | ⟨z, t, _, e⟩
      · exact .inl ⟨i, t, e⟩
      · exact .inr ⟨z, t, e⟩
    · exact ih v hv
theorem ofA_flat (n : Nat) {v : Value} (h : flatV v) : ofAClassStatement n v = pure false := by
  rcases h with ⟨i, t, rfl⟩ | ⟨z, t, rfl⟩ <;> cases n <;> rfl
theorem hashBy_flat (n : Nat) {v : Value} (h : flatV v) : ∃ c, hashByValue n v = pure c := by
  rcases h with ⟨i, t, rfl⟩ | ⟨z, t, rfl⟩
  · exact ⟨true, by cases n <;> rfl⟩
  · exact ⟨false, by cases n <;> rfl⟩
/-- a tuple of those is of no class statement -/
theorem ofA_tup {k : List Key} {b : Addr} {Q : Bool → Shared → Prop} (hk : IsK P w s.heap k b) (h : Q false s) : wpAny (model P w) A (ofAClassStatement 8 (.ref b)) Q E s := by
  have hk2 : IsTupleKey (mixKind P w) s.heap k b := hk
  have ty := hk2.typeIs
  obtain ⟨ob, its, m, g1, _, g2, g3⟩ := hk2
  have fl := items_flat g3
  unfold ofAClassStatement
  refine wpAny_bind (wpAny_typeOf ty ?_)
  have et : (("tuple" : String) == "tuple") = true := by decide
  dsimp only
  simp only [et, if_true, Bool.not_true, Bool.false_eq_true, if_false]
  refine (show wpAny _ _ (seqItems? (.ref b) >>= _) _ _ s from wpAny_bind (wpAny_seqItems g1 g2 ?_))
  dsimp only
  refine wpAny_bind (show wpAny _ _ (forIn its _ _) _ _ s from ?_)
  rw [← Array.forIn_toList]
  refine wpAny_forIn_list _ (fun rest r z => r.1 = none ∧ z = s ∧ ∀ v ∈ rest, flatV v) _ ?_ ?_ _ _ ⟨rfl, rfl, fl⟩
  · rintro v rest r z ⟨hr, rfl, all⟩
    rw [ofA_flat 7 (all v List.mem_cons_self)]
    refine wpAny_bind (wpAny_pure ?_)
    simp only [Bool.false_eq_true, if_false]
    exact wpAny_pure ⟨rfl, rfl, fun u hu => all u (List.mem_cons_of_mem _ hu)⟩
  · rintro ⟨r1, r2⟩ z ⟨hr, rfl, _⟩
    obtain rfl : r1 = none := hr
    exact wpAny_pure h
theorem hashBy_tup {k : List Key} {b : Addr} {Q : Bool → Shared → Prop} (hk : IsK P w s.heap k b) (h : ∀ c, Q c s) : wpAny (model P w) A (hashByValue 8 (.ref b)) Q E s := by
  have hk2 : IsTupleKey (mixKind P w) s.heap k b := hk
  have ty := hk2.typeIs
  obtain ⟨ob, its, m, g1, _, g2, g3⟩ := hk2
  have fl := items_flat g3
  unfold hashByValue
  refine wpAny_bind (wpAny_specialOf ty F.slot_tuple_hash.lookup (show wpAny _ _ (seqItems? (.ref b) >>= _) _ _ s from wpAny_bind (wpAny_seqItems g1 g2 (wpAny_bind (show wpAny _ _ (forIn its _ _) _ _ s from ?_)))))
  rw [← Array.forIn_toList]
  refine wpAny_forIn_list _ (fun rest r z => r.1 = none ∧ z = s ∧ ∀ v ∈ rest, flatV v) _ ?_ ?_ _ _ ⟨rfl, rfl, fl⟩
  · rintro v rest r z ⟨hr, rfl, all⟩
    obtain ⟨c, ec⟩ := hashBy_flat 7 (all v List.mem_cons_self)
    rw [ec]
    refine wpAny_bind (wpAny_pure ?_)
    cases c with
    | true =>
      simp only [Bool.not_true, Bool.false_eq_true, if_false]
      exact wpAny_pure ⟨rfl, rfl, fun u hu => all u (List.mem_cons_of_mem _ hu)⟩
    | false =>
      simp only [Bool.not_false, if_true]
      exact wpAny_pure (wpAny_pure (h _))
  · rintro ⟨r1, r2⟩ z ⟨hr, rfl, _⟩
    obtain rfl : r1 = none := hr
    exact wpAny_pure (h _)
/-- a search among such tuples shows nothing -/
theorem seen_tup {k : List Key} {b : Addr} {Q : Bool → Shared → Prop} (hk : IsK P w s.heap k b) {ys : List Value} (hy : ∀ y ∈ ys, ∃ k2 c, y = Value.ref c ∧ IsK P w s.heap k2 c) (h : Q false s) : wpAny (model P w) A (searchCouldBeSeen (.ref b) ys) Q E s := by
  unfold searchCouldBeSeen
  refine wpAny_bind (wpAny_forIn_list _ (fun rest r z => r.1 = none ∧ z = s ∧ ∀ y ∈ rest, ∃ k2 c, y = Value.ref c ∧ IsK P w s.heap k2 c) _ ?_ ?_ _ _ ⟨rfl, rfl, hy⟩)
  · rintro v rest r z ⟨hr, rfl, all⟩
    obtain ⟨k2, c, rfl, hc⟩ := all v List.mem_cons_self
    have tl := fun u hu => all u (List.mem_cons_of_mem _ hu)
    dsimp only
    by_cases hv : (b == c || (carriedByValue (.ref b) && carriedByValue (.ref c))) = true
    · exact wp_if_pos hv (wpAny_pure ⟨rfl, rfl, tl⟩)
    · refine wp_if_neg hv (wpAny_bind (wpAny_eqIsQuiet_tuple hk ?_))
      simp only [Bool.not_true, Bool.false_eq_true, if_false]
      refine wpAny_bind (wpAny_eqIsQuiet_tuple hc (show wpAny _ _ _ _ _ _ from ?_))
      simp only [Bool.not_true, Bool.false_eq_true, if_false]
      refine wpAny_bind (ofA_tup hk (show wpAny _ _ _ _ _ _ from ?_))
      simp only [Bool.false_eq_true, if_false]
      refine wpAny_bind (ofA_tup hc (show wpAny _ _ _ _ _ _ from ?_))
      simp only [Bool.false_eq_true, if_false]
      exact wpAny_pure ⟨rfl, rfl, tl⟩
  · rintro ⟨r1, r2⟩ z ⟨hr, rfl, _⟩
    obtain rfl : r1 = none := hr
    exact wpAny_pure h
end
end Ly

set_option Elab.async false
set_option linter.all false
set_option maxRecDepth 100000
namespace Ly
open PySem L2 PyProof.Rows
/-- where the way of a hash begins -/
abbrev beg (m : Nat) (h : Int) : SetTable.Probe := runAt m (SetTable.bits h % (m + 1)) (SetTable.bits h)
/-- a set whose elements are the tuples L, in the table's order -/
structure TabK (P : Program) (w : World) (g : Heap) (a : Addr) (L : List (Addr × List Key)) (es : Array (Int × Value)) (ep : Nat) (t : SetTable) : Prop where
  here : ∃ o, g.get? a = some o ∧ o.ExactSet ∧ o.data = .set es ep t
  ents : es.toList = L.map fun p => (hsh P w p.2, Value.ref p.1)
  okT : TabOk t (L.map fun p => hsh P w p.2)
  uniq : (L.map (·.2)).Nodup
  keys : ∀ p ∈ L, IsK P w g p.2 p.1
  way : L.length * 5 < t.mask * 3
  less : L.length < 64
section
variable {P : Program} {w : World} {A : Around} {E : Value → Shared → Prop} {s : Shared} {a : Addr} {L : List (Addr × List Key)} {es : Array (Int × Value)} {ep : Nat} {t : SetTable}
theorem TabK.len {g : Heap} (R : TabK P w g a L es ep t) : es.size = L.length := by
  have q := congrArg List.length R.ents
  rw [Array.length_toList, List.length_map] at q
  exact q
theorem TabK.pl {g : Heap} (R : TabK P w g a L es ep t) : t.place.size = L.length := by
  have q := R.okT.sz
  rw [List.length_map] at q
  exact q
theorem TabK.fit {g : Heap} (R : TabK P w g a L es ep t) : t.fits es.size = true := by
  have q1 := R.pl
  have q2 := R.len
  have q3 := R.way
  unfold SetTable.fits SetTable.fill
  rw [R.okT.dm, Bool.and_eq_true, beq_iff_eq, decide_eq_true_eq]
  refine ⟨by omega, ?_⟩
  show t.place.size + 0 ≤ t.mask
  omega
theorem TabK.ent {g : Heap} (R : TabK P w g a L es ep t) {i : Nat} {p : Addr × List Key} (h : L[i]? = some p) : es[i]? = some (hsh P w p.2, Value.ref p.1) := by
  rw [← Array.getElem?_toList, R.ents, List.getElem?_map, h]
  rfl
theorem no_dummy (m : Nat) : ∀ (n : Nat) (p : SetTable.Probe), p.dummy = none → (nth m p n).dummy = none
  | 0, p, h => h
  | n + 1, p, h => no_dummy m n (adv m p) (by unfold adv; split <;> exact h)
/-- the search of a tuple that is not in the set ends at the first empty slot of its way -/
theorem find_slot (R : TabK P w s.heap a L es ep t) {x : Addr} {k : List Key} (hx : IsK P w s.heap k x) (hu : A.units < cLine) (hno : k ∉ L.map (·.2)) {h : Int} (hh : h = hsh P w k) {K : Nat} (b1 : K < 10 * SetTable.turns t.mask) (b2 : L2.way t.mask h K ∉ t.place.toList)
    (b3 : ∀ c, c < K → L2.way t.mask h c ∈ t.place.toList) {Q : SetFound → Shared → Prop} (q : Q (.free (L2.way t.mask h K) false) s) : ∀ (f c : Nat) (stand : Option SetTable.Probe), stand.getD (t.probeStart h) = nth t.mask (beg t.mask h) c → c ≤ K → K - c < f →
    wpAny (model P w) A (setSearchFrom a (.ref x) h true f stand) Q E s
  | 0, c, stand, _, _, z => absurd z (Nat.not_lt_zero _)
  | f + 1, c, stand, e0, hc, hf => by
    obtain ⟨o, ho, _, hd⟩ := R.here
    rw [setSearchFrom_succ]
    refine wpAny_bind (wpAny_setState_of ho hd R.fit ?_)
    dsimp only
    have gw : ¬ t.gaveWay = true := by
      unfold SetTable.gaveWay
      rw [mask_odd R.okT.mok]
      decide
    refine wp_if_neg gw ?_
    have mv : ∀ n, nth t.mask (nth t.mask (beg t.mask h) c) n = nth t.mask (beg t.mask h) (c + n) := fun n => (nth_add t.mask c _ n).symm
    have mj : ∀ n, (nth t.mask (nth t.mask (beg t.mask h) c) n).j = L2.way t.mask h (c + n) := fun n => congrArg (·.j) (mv n)
    have eK : c + (K - c) = K := by omega
    rcases go_spec t R.okT.ris R.okT.dm (fun i => (es[i]?.map (·.1)).getD 0) h (10 * SetTable.turns t.mask) (K - c) _ (no_dummy t.mask c _ rfl) (by omega) (fun n hn => by rw [mj]; exact b3 (c + n) (by omega)) (by rw [mj, eK]; exact b2) with ⟨n, i, hn, hi, _, _, hgo⟩ | ⟨_, hgo⟩
    · have pr : t.probe (fun i => (es[i]?.map (·.1)).getD 0) h (stand.getD (t.probeStart h)) = some (.candidate (L2.way t.mask h (c + n)) i (nth t.mask (beg t.mask h) (c + (n + 1)))) := by
        rw [e0, ← mj, ← mv]
        exact hgo
      rw [pr]
      dsimp only
      rw [mj] at hi
      have il : i < L.length := by
        have z := (List.getElem?_eq_some_iff.mp hi).1
        rw [Array.length_toList, R.pl] at z
        exact z
      obtain ⟨p, hp⟩ : ∃ p, L[i]? = some p := ⟨L[i], List.getElem?_eq_getElem il⟩
      have pin := List.mem_of_getElem? hp
      have ne : ¬ p.2 = k := fun z => hno (List.mem_map.mpr ⟨p, pin, z⟩)
      have on : wpAny (model P w) A (searchRest a (.ref x) h true f es t (L2.way t.mask h (c + n)) i (nth t.mask (beg t.mask h) (c + (n + 1)))) Q E s := by
        unfold searchRest
        rw [R.ent hp]
        dsimp only
        refine wpAny_bind (wpAny_holding ((KdT P w).eqBool hu (R.keys p pin) hx (wpAny_bind (wpAny_setState_of ho hd R.fit ?_))))
        dsimp only
        refine wp_if_neg (by simp [ne]) ?_
        have sm : t.sameMemory t.moves t.mask = some true := sameMem t
        rw [sm]
        dsimp only
        have live : t.slot (L2.way t.mask h (c + n)) = .live i := slot_live R.okT.ris hi
        simp only [if_true, live, R.ent hp]
        exact wpAny_bind (wpAny_isSame_ref_self (wpAny_bind (wpAny_pure (wp_if_neg (by simp [ne]) (find_slot R hx hu hno hh b1 b2 b3 q f (c + (n + 1)) _ rfl (by omega) (by omega))))))
      by_cases ld : t.led = true
      · exact wp_if_neg (by simp [ld]) on
      · refine wp_if_pos (by simp [ld]) (wpAny_bind (seen_tup hx (fun y hy => ?_) (wp_if_neg (by decide) on)))
        obtain ⟨e, he, rfl⟩ := List.mem_map.mp hy
        have he2 : e ∈ es.toList := by
          have := he
          simp at this
          simpa using this.1
        rw [R.ents] at he2
        obtain ⟨p2, hp2, rfl⟩ := List.mem_map.mp he2
        exact ⟨p2.2, p2.1, rfl, R.keys p2 hp2⟩
    · have pr : t.probe (fun i => (es[i]?.map (·.1)).getD 0) h (stand.getD (t.probeStart h)) = some (.empty (L2.way t.mask h K) none) := by
        rw [e0, show L2.way t.mask h K = (nth t.mask (nth t.mask (beg t.mask h) c) (K - c)).j by rw [mj, eK]]
        exact hgo
      rw [pr]
      exact wpAny_pure q
end
end Ly

set_option Elab.async false
set_option linter.all false
set_option maxRecDepth 100000
namespace Ly
open PySem L2 PyProof.Rows
theorem fm_range {α : Type} : ∀ l : List α, (List.range l.length).filterMap (fun i => l[i]?) = l
  | [] => rfl
  | x :: l => by
    rw [List.length_cons, List.range_succ_eq_map]
    show (x :: (List.map Nat.succ (List.range l.length)).filterMap fun i => (x :: l)[i]?) = _
    rw [List.filterMap_map]
    exact congrArg (x :: ·) (fm_range l)
theorem fm_some {α β : Type} (g : Nat → β) (f : α → β) (l : List α) : ∀ ix : List Nat, (∀ i ∈ ix, (l[i]?).map f = some (g i)) → (ix.filterMap fun i => l[i]?).map f = ix.map g
  | [], _ => rfl
  | i :: ix, h => by
    have h0 := h i List.mem_cons_self
    obtain ⟨x, e1, e2⟩ := Option.map_eq_some_iff.mp h0
    rw [List.filterMap_cons_some (b := x) e1, List.map_cons, List.map_cons, e2, fm_some g f l ix fun j hj => h j (List.mem_cons_of_mem _ hj)]
section
variable {P : Program} {w : World} {A : Around} {E : Value → Shared → Prop} {s : Shared} {a : Addr} {L : List (Addr × List Key)} {es : Array (Int × Value)} {ep : Nat} {t : SetTable}
theorem find (R : TabK P w s.heap a L es ep t) {x : Addr} {k : List Key} (hx : IsK P w s.heap k x) (hu : A.units < cLine) (hno : k ∉ L.map (·.2)) {Q : SetFound → Shared → Prop}
    (q : ∀ K, L2.way t.mask (hsh P w k) K ∉ t.place.toList → (∀ c, c < K → L2.way t.mask (hsh P w k) c ∈ t.place.toList) → Q (.free (L2.way t.mask (hsh P w k) K) false) s) : wpAny (model P w) A (setSearch a (.ref x) (hsh P w k) true) Q E s := by
  have hw := R.way
  obtain ⟨K, k1, k2, k3⟩ := R.okT.first (by rw [List.length_map]; omega) (hsh P w k)
  have small : 10 * SetTable.turns t.mask ≤ 1420 := by
    unfold SetTable.turns
    rcases R.okT.mok with e | e | e <;> omega
  unfold setSearch
  exact find_slot R hx hu hno rfl k1 k2 k3 (q K k2 k3) 100000 0 none rfl (Nat.zero_le _) (by omega)
theorem isK_but {g g' : Heap} {k : List Key} {b : Addr} {o : Obj} (hb : IsK P w g k b) (ho : g.get? a = some o) (hd : o.data = .set es ep t) (sb : Heap.SameBut a g g') : IsK P w g' k b := by
  obtain ⟨o2, its, m, g1, g2, g3, g4⟩ := (show IsTupleKey (mixKind P w) g k b from hb)
  refine ⟨o2, its, m, (sb.2 b fun z => ?_).trans g1, g2, g3, g4⟩
  subst z
  obtain rfl : o2 = o := Option.some.inj (g1.symm.trans ho)
  rw [hd] at g3
  cases g3
/-- the table laid anew -/
theorem relayK {o : Obj} (ho : s.heap.get? a = some o) (hex : o.ExactSet) (hd : o.data = .set es ep t) (en : es.toList = L.map fun p => (hsh P w p.2, Value.ref p.1)) (pl : t.place.size = es.size) (dm : t.dummies = #[]) (fl : es.size ≤ t.mask) (uq : (L.map (·.2)).Nodup) (ky : ∀ p ∈ L, IsK P w s.heap p.2 p.1) (ls : L.length < 64)
    {wanted M : Nat} (w1 : SetTable.sizeAbove wanted - 1 = M) (w2 : MaskOk M) (w3 : SetTable.sizeAbove wanted ≤ 128) (w4 : L.length * 5 < M * 3) {Q : Unit → Shared → Prop} (q : ∀ g L' es' ep' t', Heap.SameBut a s.heap g → TabK P w g a L' es' ep' t' → L'.Perm L → Q () { s with heap := g }) :
    wpAny (model P w) A (setRelay a wanted) Q E s := by
  have sz : es.size = L.length := by
    have z := congrArg List.length en
    rw [Array.length_toList, List.length_map] at z
    exact z
  have ft : t.fits es.size = true := by
    unfold SetTable.fits SetTable.fill
    rw [dm, Bool.and_eq_true, beq_iff_eq, decide_eq_true_eq]
    exact ⟨pl, by show t.place.size + 0 ≤ t.mask; omega⟩
  obtain ⟨t2, od, e, pm, ok, em, _, _, _⟩ := relaid_ok t (hs := es.map (·.1)) (wanted := wanted) w1 w2 (by rw [Array.size_map, sz]; omega)
  rw [Array.size_map, sz] at pm
  have lt : ∀ i ∈ od.toList, i < L.length := fun i hi => List.mem_range.mp (pm.mem_iff.mp hi)
  have at_ : ∀ i : Nat, es[i]? = (L[i]?).map fun p => (hsh P w p.2, Value.ref p.1) := fun i => by rw [← Array.getElem?_toList, en, List.getElem?_map]
  let L' := od.toList.filterMap fun i => L[i]?
  have r1 : (od.filterMap (es[·]?)).toList = L'.map fun p => (hsh P w p.2, Value.ref p.1) := by
    rw [Array.toList_filterMap, List.map_filterMap]
    congr 1
    funext i
    exact at_ i
  have r2 : L'.Perm L := by
    have z := pm.filterMap fun i => L[i]?
    rw [fm_range] at z
    exact z
  have r3 : (L'.map fun p => hsh P w p.2) = od.toList.map fun i => (es.map (·.1)).getD i 0 := fm_some _ _ L od.toList fun i hi => by
    obtain ⟨p, hp⟩ : ∃ p, L[i]? = some p := ⟨_, List.getElem?_eq_getElem (lt i hi)⟩
    have z := at_ i
    rw [hp] at z ⊢
    rw [Array.getD_eq_getD_getElem?, Array.getElem?_map, z]
    rfl
  rw [← r3] at ok
  have s2 : (od.filterMap (es[·]?)).size = es.size := by
    have z := congrArg List.length r1
    rw [Array.length_toList, List.length_map, r2.length_eq] at z
    omega
  rw [setRelay_eq]
  refine wpAny_bind (wpAny_setState_of ho hd ft ?_)
  dsimp only
  refine wp_if_neg (by rw [sizeLine_eq]; omega) ?_
  rw [e]
  dsimp only
  refine wpAny_bind (wp_if_neg (by rw [s2]; simp) (wpAny_pure ?_))
  dsimp only
  refine wpAny_storeSet_of ho hd ?_ (by rw [s2, sz, sizeLine_eq]; omega)
  have sb : Heap.SameBut a s.heap (s.heap.update a (Obj.putSet (od.filterMap (es[·]?)) t2)) := Heap.SameBut.update ..
  exact q _ L' _ (ep + 1) t2 sb ⟨⟨_, store_at ho hd, ⟨hex.1, hex.2.1, hex.2.2⟩, rfl⟩, r1, ok, (r2.map (·.2)).nodup_iff.mpr uq, fun p hp => isK_but (ky p (r2.mem_iff.mp hp)) ho hd sb, by rw [r2.length_eq, em]; exact w4, by rw [r2.length_eq]; exact ls⟩ r2
end
end Ly

set_option Elab.async false
set_option linter.all false
set_option maxRecDepth 100000
namespace Ly
open PySem L2 PyProof.Rows
section
variable {P : Program} {w : World} {A : Around} {E : Value → Shared → Prop} {s : Shared} {a : Addr} {L : List (Addr × List Key)} {es : Array (Int × Value)} {ep : Nat} {t : SetTable}
theorem TabOk.same {t t' : SetTable} {hs : List Int} (T : TabOk t hs) (e1 : t'.place = t.place) (e2 : t'.dummies = t.dummies) (e3 : t'.mask = t.mask) : TabOk t' hs :=
  ⟨by rw [e1]; exact T.ris, by rw [e2]; exact T.dm, by rw [e1]; exact T.sz, by rw [e3]; exact T.mok, by rw [e1, e3]; exact T.bd, by rw [e1, e3]; exact T.reach⟩
theorem addK (R : TabK P w s.heap a L es ep t) {x : Addr} {k : List Key} (hx : IsK P w s.heap k x) (hu : A.units < cLine) (hno : k ∉ L.map (·.2)) (hls : L.length + 1 < 64) {Q : Bool → Shared → Prop}
    (q : ∀ b g L' es' ep' t', Heap.SameBut a s.heap g → TabK P w g a L' es' ep' t' → L'.Perm ((x, k) :: L) → Q b { s with heap := g }) : wpAny (model P w) A (setAddHashed a (.ref x) (hsh P w k)) Q E s := by
  obtain ⟨o, ho, hex, hd⟩ := R.here
  have sz := R.len
  have hw := R.way
  unfold setAddHashed
  rw [show (100000 : Nat) = 99999 + 1 from rfl, setAddHashedIn_succ]
  refine wpAny_holding (wpAny_bind (wpAny_setState_of ho hd R.fit ?_))
  dsimp only
  refine wp_if_neg (by simp [byScan, Value.scannable]) (wpAny_bind (find R hx hu hno fun K hK hb => ?_))
  dsimp only
  refine wpAny_bind (wpAny_setState_of ho hd R.fit ?_)
  dsimp only
  obtain ⟨c1, c2, c3, c4, _, _, _, _, c9⟩ := R.okT.put hK hb
  generalize ept : t.put (L2.way t.mask (hsh P w k) K) = pt at c1 c3 c4 c9 ⊢
  obtain ⟨t1, pp⟩ := pt
  dsimp only at c1 c3 c4 c9 ⊢
  subst c1
  have tail : ∀ t2 : SetTable, t2.place = t1.place → t2.dummies = t1.dummies → t2.mask = t1.mask → wpAny (model P w) A (do
      storeSet a (SetTable.insertAt es (SetTable.below t.place (L2.way t.mask (hsh P w k) K)) (hsh P w k, Value.ref x)) t2
      if (!false && t2.tooFull) = true then do
          setRelay a (SetTable.grown (es.size + 1))
          pure true
        else pure true) Q E s := by
    intro t2 f1 f2 f3
    have ok2 := TabOk.same c3 f1 f2 f3
    have en : (SetTable.insertAt es (SetTable.below t.place (L2.way t.mask (hsh P w k) K)) (hsh P w k, Value.ref x)).toList = (L.take (SetTable.below t.place (L2.way t.mask (hsh P w k) K)) ++ (x, k) :: L.drop (SetTable.below t.place (L2.way t.mask (hsh P w k) K))).map fun p => (hsh P w p.2, Value.ref p.1) := by
      rw [SetTable.toList_insertAt, R.ents, List.map_append, List.map_cons, List.map_take, List.map_drop]
    have hs : (L.map fun p => hsh P w p.2).take (SetTable.below t.place (L2.way t.mask (hsh P w k) K)) ++ hsh P w k :: (L.map fun p => hsh P w p.2).drop (SetTable.below t.place (L2.way t.mask (hsh P w k) K)) = (L.take (SetTable.below t.place (L2.way t.mask (hsh P w k) K)) ++ (x, k) :: L.drop (SetTable.below t.place (L2.way t.mask (hsh P w k) K))).map fun p => hsh P w p.2 := by
      rw [List.map_append, List.map_cons, List.map_take, List.map_drop]
    rw [hs] at ok2
    have pm := put_perm L (SetTable.below t.place (L2.way t.mask (hsh P w k) K)) (x, k)
    generalize L.take (SetTable.below t.place (L2.way t.mask (hsh P w k) K)) ++ (x, k) :: L.drop (SetTable.below t.place (L2.way t.mask (hsh P w k) K)) = L1 at en ok2 pm
    generalize SetTable.insertAt es (SetTable.below t.place (L2.way t.mask (hsh P w k) K)) (hsh P w k, Value.ref x) = es1 at en ⊢
    have ln : L1.length = L.length + 1 := pm.length_eq
    have sz1 : es1.size = L.length + 1 := by
      have z := congrArg List.length en
      rw [Array.length_toList, List.length_map, ln] at z
      exact z
    have uq : (L1.map (·.2)).Nodup := by
      refine (pm.map (·.2)).nodup_iff.mpr ?_
      rw [List.map_cons]
      exact List.nodup_cons.mpr ⟨hno, R.uniq⟩
    refine wpAny_bind (wpAny_storeSet_of ho hd ?_ (by rw [sz1, sizeLine_eq]; omega))
    have sb : Heap.SameBut a s.heap (s.heap.update a (Obj.putSet es1 t2)) := Heap.SameBut.update ..
    have ho1 := store_at (es' := es1) (t' := t2) ho hd
    generalize s.heap.update a (Obj.putSet es1 t2) = g1 at sb ho1 ⊢
    have ky : ∀ p ∈ L1, IsK P w g1 p.2 p.1 := fun p hp => by
      rcases List.mem_cons.mp (pm.mem_iff.mp hp) with rfl | hp
      · exact isK_but hx ho hd sb
      · exact isK_but (R.keys p hp) ho hd sb
    have fill : t2.fill = L.length + 1 := by
      have z : t2.fill = t1.fill := by unfold SetTable.fill; rw [f1, f2]
      rw [z, c9, List.length_map]
    have pl1 : t2.place.size = es1.size := by
      have z := ok2.sz
      rw [List.length_map, ln] at z
      omega
    by_cases full : t2.tooFull = true
    · have big := full
      unfold SetTable.tooFull at big
      rw [decide_eq_true_eq, fill] at big
      have cs : (t.mask = 7 ∧ L.length = 4) ∨ (t.mask = 31 ∧ L.length = 18) := by
        rcases R.okT.mok with e | e | e
        · exact .inl ⟨e, by rw [f3, c4, e] at big; rw [e] at hw; omega⟩
        · exact .inr ⟨e, by rw [f3, c4, e] at big; rw [e] at hw; omega⟩
        · exact absurd big (by rw [f3, c4, e]; omega)
      rw [sz]
      have go : ∀ M, SetTable.sizeAbove (SetTable.grown (L.length + 1)) - 1 = M → MaskOk M → SetTable.sizeAbove (SetTable.grown (L.length + 1)) ≤ 128 → L1.length * 5 < M * 3 → wpAny (model P w) A (setRelay a (SetTable.grown (L.length + 1)) >>= fun _ => pure true) Q E { s with heap := g1 } := fun M m1 m2 m3 m4 =>
        wpAny_bind (relayK (s := { s with heap := g1 }) ho1 ⟨hex.1, hex.2.1, hex.2.2⟩ rfl en pl1 ok2.dm (by rw [sz1, f3, c4]; rcases cs with ⟨e, e2⟩ | ⟨e, e2⟩ <;> omega) uq ky (by omega) m1 m2 m3 m4 fun g2 L2' es2 ep2 t3 sb2 R2 pm2 => wpAny_pure (q true g2 L2' es2 ep2 t3 (sb.trans sb2) R2 (pm2.trans pm)))
      refine wp_if_pos (by simp [full]) ?_
      rcases cs with ⟨_, e2⟩ | ⟨_, e2⟩
      · exact go 31 (by rw [e2, size_20]) (.inr (.inl rfl)) (by rw [e2, size_20]; decide) (by omega)
      · exact go 127 (by rw [e2, size_76]) (.inr (.inr rfl)) (by rw [e2, size_76]; decide) (by omega)
    · have low := full
      unfold SetTable.tooFull at low
      rw [decide_eq_true_eq, fill] at low
      exact wp_if_neg (by simp [full]) (wpAny_pure (q true g1 L1 es1 (ep + 1) t2 sb ⟨⟨_, ho1, ⟨hex.1, hex.2.1, hex.2.2⟩, rfl⟩, en, ok2, uq, ky, by omega, by omega⟩ pm))
  by_cases pl : t1.plain = true
  · exact wp_if_pos pl (wpAny_bind (hashBy_tup hx fun c => tail _ (by split <;> rfl) (by split <;> rfl) (by split <;> rfl)))
  · exact wp_if_neg pl (wpAny_bind (wpAny_pure (tail _ (by split <;> rfl) (by split <;> rfl) (by split <;> rfl))))
end
end Ly

set_option Elab.async false
set_option linter.all false
set_option maxRecDepth 100000
namespace Ly
open PySem L2 PyProof.Rows
section
variable {P : Program} {w : World} {A : Around} {E : Value → Shared → Prop} {s : Shared}
/-- what len asks of a set -/
def SetN (g : Heap) (S : Addr) (n : Nat) : Prop := ∃ o es ep t, g.get? S = some o ∧ o.ExactSet ∧ o.data = .set es ep t ∧ t.fits es.size = true ∧ es.size = n
theorem isK_at {g g' : Heap} {k : List Key} {b : Addr} (h : IsK P w g k b) (m : ∀ o, g.get? b = some o → g'.get? b = some o) : IsK P w g' k b := by
  obtain ⟨o, its, n, g1, g2⟩ := (show IsTupleKey (mixKind P w) g k b from h)
  exact ⟨o, its, n, m o g1, g2⟩
theorem isK_lt {g : Heap} {k : List Key} {b : Addr} (h : IsK P w g k b) : b < g.objs.size := by
  obtain ⟨o, its, n, g1, g2⟩ := (show IsTupleKey (mixKind P w) g k b from h)
  exact Heap.lt_size g1
/-- set(l), l a list of tuples of texts and numbers that are all unlike -/
theorem set_tups {l : Addr} {items : Array Value} {ks : List (Addr × List Key)} {Q : Value → Shared → Prop} (hh : A.handled = none) (hu : A.units + 8 < cLine) (hl : s.heap.IsList l items) (hi : items.toList = ks.map fun p => Value.ref p.1) (hk : ∀ p ∈ ks, (tupleKind (mixKind P w)).is s.heap p.2 p.1) (hn : (ks.map (·.2)).Nodup) (hb : ks.length < 64)
    (fin : ∀ g t', SetN g s.heap.objs.size ks.length → (∀ b o, b < s.heap.objs.size → s.heap.get? b = some o → g.get? b = some o) → Q (.ref s.heap.objs.size) { s with heap := g, toks := t' }) : wpAny (model P w) A (call (.type "set") [.ref l]) Q E s := by
  have hlen : items.size = ks.length := by rw [← Array.length_toList, hi, List.length_map]
  have hlt : ∀ p ∈ ks, p.1 < s.heap.objs.size := fun p hp => isK_lt (hk p hp)
  refine set_by hh hl (fun i g => (∀ p ∈ ks, IsK P w g p.2 p.1) ∧ ∃ L es ep t, TabK P w g s.heap.objs.size L es ep t ∧ L.Perm (ks.take i)) (fun g hg hkp => ?_) (fun i g g' tb kp => ?_) (fun i v s1 Q1 E1 hv tb kq => ?_) fun g t' tb hkp => ?_
  · refine ⟨fun p hp => isK_at (hk p hp) fun o e => hkp _ _ e, [], #[], 0, _, ⟨⟨_, hg, ⟨rfl, rfl, rfl⟩, rfl⟩, rfl, ⟨List.Pairwise.nil, rfl, rfl, .inl rfl, (fun x hx => nomatch hx), (fun i h j hi => by simp at hi)⟩, List.nodup_nil, (fun p hp => nomatch hp), (show 0 * 5 < 7 * 3 by decide), (show 0 < 64 by decide)⟩, by rw [List.take_zero]⟩
  · obtain ⟨tk, L, es, ep, t, R, pm⟩ := tb
    obtain ⟨o, ho, r⟩ := R.here
    have up : ∀ p ∈ ks, IsK P w g' p.2 p.1 := fun p hp => isK_at (tk p hp) fun o e => kp _ _ (Nat.lt_succ_of_lt (hlt p hp)) e
    exact ⟨up, L, es, ep, t, ⟨⟨o, kp _ _ (Nat.lt_succ_self _) ho, r⟩, R.ents, R.okT, R.uniq, fun p hp => up p (List.mem_of_mem_take (pm.mem_iff.mp hp)), R.way, R.less⟩, pm⟩
  · obtain ⟨tk, L, es, ep, t, R, pm⟩ := tb
    have q1 : items.toList[i]? = some v := by rw [Array.getElem?_toList]; exact hv
    rw [hi, List.getElem?_map] at q1
    obtain ⟨p, hp, rfl⟩ := Option.map_eq_some_iff.mp q1
    have hin := List.mem_of_getElem? hp
    obtain ⟨il, ep0⟩ := List.getElem?_eq_some_iff.mp hp
    have hno : p.2 ∉ L.map (·.2) := fun z => by
      have z2 := (pm.map (·.2)).mem_iff.mp z
      rw [List.map_take] at z2
      obtain ⟨j, hj, e⟩ := List.getElem_of_mem z2
      rw [List.length_take, List.length_map] at hj
      rw [List.getElem_take, List.getElem_map] at e
      refine List.pairwise_iff_getElem.mp hn j i (by rw [List.length_map]; omega) (by rw [List.length_map]; exact il) (by omega) ?_
      rw [List.getElem_map, List.getElem_map, e, ep0]
    have ll : L.length ≤ i := by rw [pm.length_eq, List.length_take]; omega
    unfold setAdd
    have ro : A.in1.in1.in1.units < cLine := by show A.units + 1 + 1 + 1 < cLine; omega
    refine wpAny_holding (wpAny_bind ((KdT P w).pyHash ro (tk p hin) ?_))
    refine addK (s := { s1 with toks := s1.toks + (KdT P w).draws p.2 }) R (tk p hin) ro hno (by omega) fun b g' L' es' ep' t' sb R' pm' => ?_
    obtain ⟨o, ho, _, hd⟩ := R.here
    refine kq b g' _ (Nat.le_add_right _ _) sb ⟨fun p2 hp2 => isK_but (tk p2 hp2) ho hd sb, L', es', ep', t', R', ?_⟩
    rw [List.take_succ, hp]
    exact pm'.trans ((pm.cons p).trans (List.perm_append_singleton p _).symm)
  · obtain ⟨tk, L, es, ep, t, R, pm⟩ := tb
    rw [hlen, List.take_length] at pm
    obtain ⟨o, ho, hex, hd⟩ := R.here
    exact fin g t' ⟨o, es, ep, t, ho, hex, hd, R.fit, by rw [R.len, pm.length_eq]⟩ hkp
end
/-- what len(set(xs)) asks: texts, or tuples of texts and numbers, all unlike -/
def tLenSet (K : PySem.W.Frag) (ta : TE) : TE := fun σ H Q => ta σ H fun x H1 => ∃ l n, x = .ref l ∧ Q (.int (n : Nat)) H1 ∧
  ((∃ xs : List Str, SqL K H1 l (xs.map V.str) ∧ xs.Nodup ∧ xs.length ≤ 1000 ∧ n = xs.length) ∨
   ∃ (ps : List Addr) (ks : List (List Key)), SqL K H1 l (ps.map V.ref) ∧ Paired (fun p k => H1 p = some (.tup (k.map kV))) ps ks ∧ ks.Nodup ∧ ks.length < 64 ∧ n = ks.length)
theorem zip_is {X : Cx} {pins : List (Addr × Obj)} {σ : L2.St} {H : Hp} {s : Shared} (I : Inv X pins σ H s) : ∀ {ps : List Addr} {ks : List (List Key)}, Paired (fun p k => H p = some (.tup (k.map kV))) ps ks → (∀ q ∈ ps.zip ks, (tupleKind (mixKind X.prog X.w)).is s.heap q.2 q.1) ∧ (ps.zip ks).map (·.1) = ps ∧ (ps.zip ks).map (·.2) = ks
  | _, _, .nil => ⟨fun q h => (by simp at h), rfl, rfl⟩
  | _, _, .cons h t => by
    obtain ⟨a, b, c⟩ := zip_is I t
    refine ⟨fun q hq => ?_, by rw [List.zip_cons_cons, List.map_cons, b], by rw [List.zip_cons_cons, List.map_cons, c]⟩
    rw [List.zip_cons_cons] at hq
    rcases List.mem_cons.mp hq with rfl | hq
    · exact key_of I.hok h
    · exact a q hq
theorem kp_lenSet {X : Cx} (K : PySem.W.Frag) (hK : X.K = K) {a : Expr} {ta : TE} {p p2 q pos : Pos} (hc : X.calm = true) (hu : X.A.units + 64 < cLine) (hg : Gl X "len") (hm : X.mg "len" = none) (hg2 : Gl X "set") (hm2 : X.mg "set" = none) (ha : PE X a ta)
    (na : starEach [a] X.env = (false, eval a X.env) :: starEach [] X.env := by rfl) : PE X (.Call (.Name "len" p) [.Call (.Name "set" p2) [a] [] q] [] pos) (tLenSet K ta) := by
  subst hK
  refine ⟨fun pins s σ H Q I h => Call_ (ld_blt I hg hm boot_len (PyProof.Rows.callWith_builtin1 (PyProof.Rows.args_cons (Call_ (ld_blt I hg2 hm2 boot_set ?_)) rfl) rfl rfl))⟩
  refine PyProof.Rows.callWith_type1 (PyProof.Rows.args_cons (thn (ha.run pins s σ H _ I h) fun v s1 hv => PyProof.Rows.args_nil ?_) na) na rfl
  obtain ⟨x, H1, I1, r1, l, n, rfl, q1, hcase⟩ := hv
  obtain rfl : v = Value.ref l := r1
  have last : ∀ (g : Heap) (t' : Nat), SetN g s1.heap.objs.size n → n ≤ 4000 → (∀ b o, b < s1.heap.objs.size → s1.heap.get? b = some o → g.get? b = some o) →
      wpAny (model X.prog X.w) X.A (spliced (backTo pos (starEach [] X.env))) (fun vs s₂ => wpAny (model X.prog X.w) X.A (call (.builtin "len") (Value.ref s1.heap.objs.size :: vs)) (EP X pins σ Q) X.xe s₂) X.xe { s1 with heap := g, toks := t' } := fun g t' hS hn4 hk => by
    obtain ⟨o, es, ep, t, ho, hex, hd, hf, hsz⟩ := hS
    have I2 : Inv X pins σ H1 { s1 with heap := g, toks := t' } := I1.kept fun b o e => hk b o (Heap.lt_size e) e
    exact PyProof.Rows.args_nil (call_len_set ho hex hd hf (by rw [hsz]; omega) ⟨.int n, H1, I2.tok _, ⟨_, by rw [hsz]⟩, q1⟩)
  rcases hcase with ⟨xs, hq, hn, hb, rfl⟩ | ⟨ps, ks, hq, hp, hn, hb, rfl⟩
  · obtain ⟨its, r, pl, hz⟩ := I1.list hq
    refine set_texts (I1.ok.hd hc) pl.isList (by simpa using strsAre_of r) hn (by omega) fun g t' hS hk => last g t' ?_ (by omega) hk
    obtain ⟨o, es, ep, t, ho, hex, hd, _, _, _, hf, hsz⟩ := hS
    exact ⟨o, es, ep, t, ho, hex, hd, hf, hsz⟩
  · obtain ⟨its, r, pl, hz⟩ := I1.list hq
    have ei := refs_at r
    subst ei
    obtain ⟨z1, z2, z3⟩ := zip_is I1 hp
    have hl : (ps.zip ks).length = ks.length := by rw [← List.length_map (f := fun q : Addr × List Key => q.2), z3]
    refine set_tups (ks := ps.zip ks) (I1.ok.hd hc) (by omega) pl.isList ?_ z1 (by rw [z3]; exact hn) (by omega) fun g t' hS hk => last g t' (by rw [hl] at hS; exact hS) (by omega) hk
    show ps.map Value.ref = (ps.zip ks).map (Value.ref ∘ fun q => q.1)
    rw [← List.map_map, z2]
end Ly

set_option Elab.async false
set_option linter.all false
set_option maxRecDepth 100000
namespace Ly
open PySem L2 PyProof.Rows
section
variable {K : PySem.W.Frag} {E : XK}
def tupKs : List D → Option (List (List Key))
  | [] => some []
  | .tup ds :: r => (toKs ds).bind fun k => (tupKs r).map fun ks => k :: ks
  | _ :: _ => none
theorem tupKs_rep {S : Hp} : ∀ {vs : List V} {ds : List D} {ks : List (List Key)}, Reps K S vs ds → tupKs ds = some ks → ∃ ps : List Addr, vs = ps.map V.ref ∧ Paired (fun p (k : List Key) => S p = some (.tup (k.map kV))) ps ks
  | _, _, _, .nil, h => by cases h; exact ⟨[], rfl, .nil⟩
  | _, _, _, .cons r t, h => by
    unfold tupKs at h
    split at h
    · rename_i e; cases e
    · rename_i ds' r' e
      cases e
      obtain ⟨k, h1, h⟩ := Option.bind_eq_some_iff.mp h
      obtain ⟨ks, h2, rfl⟩ := Option.map_eq_some_iff.mp h
      obtain ⟨ps, rfl, hp⟩ := tupKs_rep t h2
      cases r with
      | tup e q => exact ⟨_ :: ps, rfl, .cons (by rw [e, toKs_rep q h1]) hp⟩
    · cases h
def lenSetD : D → Res W
  | .lst xs => match strsD xs with
    | some zs => if zs.Nodup ∧ zs.length ≤ 1000 then .ok (.sh (.int zs.length)) else .st
    | none => match tupKs xs with
      | some ks => if ks.Nodup ∧ ks.length < 64 then .ok (.sh (.int ks.length)) else .st
      | none => .st
  | _ => .st
def mLenSet (m : En → Res D) : En → Res W := fun e => (m e).bind lenSetD
theorem lenSetD_ex {d : D} {x : Xc} (h : lenSetD d = .ex x) : False := by
  unfold lenSetD at h
  repeat' split at h
  all_goals cases h
instance semE_lenSet {ta : TE} {F : List Nat} {m : En → Res D} [ha : SemX K E ta F m] : SemE K E (tLenSet K ta) F (mLenSet m) where
  ok := fun {env σ S H Q w} x e k => by
    obtain ⟨d, e1, e2⟩ := Res.of_ok e
    refine ha.ok x e1 fun v H1 g r => ?_
    have y := Gr.hp x.sub g
    unfold lenSetD at e2
    split at e2 <;> first | cases e2 | skip
    rename_i xs
    cases r with
    | lst hp q =>
      split at e2
      · rename_i zs hz
        split at e2 <;> first | cases e2 | skip
        rename_i hc
        have := strsD_rep q hz
        subst this
        exact ⟨_, zs.length, rfl, k _ S H1 [] (.sh y (.int _)), .inl ⟨zs, SqL.of hp, hc.1, hc.2, rfl⟩⟩
      · split at e2 <;> first | cases e2 | skip
        rename_i ks hks
        split at e2 <;> first | cases e2 | skip
        rename_i hc
        obtain ⟨ps, rfl, hpp⟩ := tupKs_rep q hks
        exact ⟨_, ks.length, rfl, k _ S H1 [] (.sh y (.int _)), .inr ⟨ps, ks, SqL.of hp, hpp, hc.1, hc.2, rfl⟩⟩
  ex := fun {env σ S H Q w} x e k => by
    rcases Res.of_ex e with e1 | ⟨d, e1, e2⟩
    · exact ha.ex x e1 k
    · exact (lenSetD_ex e2).elim
/-! dict(pairs), the keys tuples -/
def pairT : D → Option (List Key × D)
  | .tup [.tup ds, x] => (toKs ds).map fun k => (k, x)
  | _ => none
def pairsT : List D → Option (List (List Key × D))
  | [] => some []
  | d :: ds => (pairT d).bind fun p => (pairsT ds).map fun ps => p :: ps
def mergeG {κ α : Type} [DecidableEq κ] : List κ → List α → List (κ × α) → List κ × List α
  | ks, xs, [] => (ks, xs)
  | ks, xs, (k, x) :: r => mergeG (putKs ks k) (putXs ks xs k x) r
theorem pairsT_rep {S : Hp} : ∀ {us : List V} {xs : List D} {ps : List (List Key × D)}, Reps K S us xs → pairsT xs = some ps →
    ∃ (as : List Addr) (kvs : List (List Key × V)), us = as.map V.ref ∧ Paired (fun p (kv : List Key × V) => ∃ b, S p = some (.tup [.ref b, kv.2]) ∧ S b = some (.tup (kv.1.map kV))) as kvs ∧ kvs.map (·.1) = ps.map (·.1) ∧ Reps K S (kvs.map (·.2)) (ps.map (·.2))
  | _, _, _, .nil, h => by cases h; exact ⟨[], [], rfl, .nil, rfl, .nil⟩
  | _, _, _, .cons r t, h => by
    unfold pairsT at h
    obtain ⟨p, h1, h⟩ := Option.bind_eq_some_iff.mp h
    obtain ⟨ps, h2, rfl⟩ := Option.map_eq_some_iff.mp h
    obtain ⟨as, kvs, rfl, e2, e3, e4⟩ := pairsT_rep t h2
    unfold pairT at h1
    split at h1
    · rename_i ds x
      obtain ⟨key, hk, rfl⟩ := Option.map_eq_some_iff.mp h1
      cases r with
      | tup e q =>
        cases q with
        | cons q1 q2 =>
          cases q2 with
          | cons q2 q3 =>
            cases q3
            cases q1 with
            | tup eb qb =>
              refine ⟨_ :: as, (key, _) :: kvs, rfl, .cons ⟨_, e, by rw [eb, toKs_rep qb hk]⟩ e2, ?_, .cons q2 e4⟩
              rw [List.map_cons, List.map_cons, e3]
    · cases h1
theorem mergeG_zip {S : Hp} : ∀ (ps : List (List Key × D)) (kvs : List (List Key × V)) (ks : List (List Key)) (vs : List V) (xs : List D), kvs.map (·.1) = ps.map (·.1) → Reps K S (kvs.map (·.2)) (ps.map (·.2)) → vs.length = ks.length → Reps K S vs xs →
    ∃ ws, kvs.foldl (fun acc kv => putK acc kv.1 kv.2) (ks.zip vs) = (mergeG ks xs ps).1.zip ws ∧ ws.length = (mergeG ks xs ps).1.length ∧ Reps K S ws (mergeG ks xs ps).2
  | [], [], ks, vs, xs, _, _, hl, hr => ⟨vs, rfl, hl, hr⟩
  | (k, x) :: ps, (k', v) :: kvs, ks, vs, xs, h1, h2, hl, hr => by
    rw [List.map_cons, List.map_cons] at h1
    have h1a : k' = k := (List.cons.inj h1).1
    have h1b := (List.cons.inj h1).2
    subst h1a
    rw [List.map_cons, List.map_cons] at h2
    cases h2 with
    | cons r t =>
      have e : ((k', v) :: kvs).foldl (fun acc kv => putK acc kv.1 kv.2) (ks.zip vs) = kvs.foldl (fun acc kv => putK acc kv.1 kv.2) ((putKs ks k').zip (putXs ks vs k' v)) := by
        show kvs.foldl (fun acc kv => putK acc kv.1 kv.2) (putK (ks.zip vs) k' v) = _
        rw [putK_zip _ _ _ _ hl]
      rw [e]
      exact mergeG_zip ps kvs _ _ _ h1b t (put_len _ _ _ _ hl) (put_rep r _ _ hr)
def dictTD : List D → Res W
  | [.lst xs] => match pairsT xs with
    | some ps => .ok (.dit (mergeG [] [] ps).1 (mergeG [] [] ps).2)
    | none => .st
  | _ => .st
instance calV_dictT : CalV K (rDictT K) dictTD where
  ok := fun {S H vs ds Q w} hs r h k => by
    unfold dictTD at h
    split at h <;> first | cases h | skip
    split at h <;> first | cases h | skip
    rename_i xs ps hps
    obtain ⟨v, rfl, r1⟩ := views1 r
    obtain ⟨p, us, rfl, hp, q⟩ := r1.lst_inv hs
    obtain ⟨as, kvs, rfl, e2, e3, e4⟩ := pairsT_rep q hps
    obtain ⟨ws, f1, f2, f3⟩ := mergeG_zip ps kvs [] [] [] e3 e4 rfl .nil
    refine ⟨p, as, kvs, rfl, SqL.of hp, paired_imp (fun a b ⟨c, e, e'⟩ => ⟨c, hs _ _ e, hs _ _ e'⟩) e2, fun l hl => ?_⟩
    rw [show ([] : List (List Key × V)) = ([] : List (List Key)).zip ([] : List V) from rfl, f1]
    exact k _ S _ [l] ⟨.hp hs fun a o e => by rw [upd_ne (ne_of_none e hl)]; exact e, .dit upd_same f2 f3, by simp, fun q hq => by rw [List.mem_singleton.mp hq]; exact ⟨hl, hs.free hl⟩⟩
  ex := fun h => by
    unfold dictTD at h
    repeat' split at h
    all_goals cases h
end
end Ly
namespace Ly
open PySem L2 PyProof.Rows
section
variable {X : Cx} (K : PySem.W.Frag) (hK : X.K = K)
include hK
theorem kp_fld {e : Expr} {f : Str} {pos : Pos} {ta : TE} (he : PE X e ta) (hb : attributeBase e f X.env (eval e X.env) = eval e X.env := by rfl) : PE X (.Attribute e f pos) (tFld K ta f) := by subst hK; exact pe_fld he hb
theorem kps_fld {o value : Expr} {f : Str} {pos pos' : Pos} {ta tv : TE} (ha : PE X o ta) (hv : PE X value tv) (hs : swapsWith value (some (.Attribute o f pos')) pos.line X.env = pure false := by rfl) : PS X (.Assign [.Attribute o f pos'] value pos) (sFld K ta tv f) := by subst hK; exact ps_fld ha hv hs
theorem kp_lclear {o : Expr} {to : TE} {apos cpos : Pos} (ho : PE X o to) (hbase : attributeBase o "clear" X.env (eval o X.env) = eval o X.env := by rfl) (hline : (apos.endLine == cpos.line) = true := by rfl) : PE X (.Call (.Attribute o "clear" apos) [] [] cpos) (tBM0 K "list" rClear to) := by
  subst hK
  exact pe_bm0 PySem.F.plainAttrs_list PySem.F.slot_list_clear PySem.F.type_list_clear mt_clear ho hbase hline
end
end Ly

set_option Elab.async false
set_option linter.all false
set_option maxRecDepth 100000
/-! LyL: dicts that are shared, walked: locked meanwhile. -/
namespace Ly
open PySem L2 PyProof.Rows
/-! ### stable parts that differ by locks -/
def dictO : HO → Bool
  | .dK _ => true
  | .dT _ => true
  | _ => false
/-- the same but for locks upon dicts -/
def RdLe (S S' : Hp) : Prop := ∀ a o, S a = some o → S' a = some o ∨ ∃ u, dictO u = true ∧ (o = u ∨ ∃ od, o = .frz od u) ∧ Rd S' a u
theorem RdLe.of {S S' : Hp} (h : Same S S') : RdLe S S' := fun a o e => .inl (h a o e)
theorem rd_le {S S' : Hp} (h : RdLe S S') {a : Addr} {u : HO} (hu : dictO u = true) (r : Rd S a u) : Rd S' a u := by
  rcases r with e | ⟨o, e⟩
  · rcases h a _ e with q | ⟨u', h1, h2, h3⟩
    · exact .inl q
    · rcases h2 with rfl | ⟨od, rfl⟩
      · exact h3
      · cases hu
  · rcases h a _ e with q | ⟨u', h1, h2, h3⟩
    · exact .inr ⟨o, q⟩
    · rcases h2 with rfl | ⟨od, h2⟩
      · cases h1
      · cases h2
        exact h3
theorem at_le {S S' : Hp} (h : RdLe S S') {a : Addr} {o : HO} (hu : dictO o = false) (hf : ∀ od u, o = .frz od u → dictO u = false) (e : S a = some o) : S' a = some o := by
  rcases h a _ e with q | ⟨u', h1, h2, h3⟩
  · exact q
  · rcases h2 with rfl | ⟨od, h2⟩
    · rw [hu] at h1; cases h1
    · have := hf od u' h2
      rw [this] at h1; cases h1
section
variable {K : PySem.W.Frag} {S S' H H' : Hp}
theorem sqL_le (h : RdLe S S') {a : Addr} {xs : List V} (q : SqL K S a xs) : SqL K S' a xs := by
  rcases q with (e | ⟨o, e⟩) | e
  · exact .inl (.inl (at_le h rfl (fun _ _ z => by cases z) e))
  · exact .inl (.inr ⟨o, at_le h rfl (fun _ _ z => by cases z; rfl) e⟩)
  · exact .inr e
theorem sqT_le (h : RdLe S S') {a : Addr} {xs : List V} (q : SqT K S a xs) : SqT K S' a xs := by
  rcases q with (e | ⟨o, e⟩) | e
  · exact .inl (.inl (at_le h rfl (fun _ _ z => by cases z) e))
  · exact .inl (.inr ⟨o, at_le h rfl (fun _ _ z => by cases z; rfl) e⟩)
  · exact .inr e
mutual
theorem Rep.le (h : RdLe S S') : ∀ (d : D) (v : V), Rep K S v d → Rep K S' v d
  | .non, _, r => by cases r; exact .non
  | .bl b, _, r => by cases r; exact .bl b
  | .int i, _, r => by cases r; exact .int i
  | .str x, _, r => by cases r; exact .str x
  | .ty x, _, r => by cases r; exact .ty x
  | .cls x, _, r => by cases r with | cls c => exact .cls c
  | .lst xs, _, r => by cases r with | lst e q => exact .lst (at_le h rfl (fun _ _ z => by cases z) e) (Reps.le h xs _ q)
  | .tup xs, _, r => by cases r with | tup e q => exact .tup (at_le h rfl (fun _ _ z => by cases z) e) (Reps.le h xs _ q)
  | .ktup xs, _, r => by cases r with | ktup e q => exact .ktup (sqT_le h e) (Reps.le h xs _ q)
  | .dic ks xs, _, r => by cases r with | dic e l q => exact .dic (rd_le h rfl e) l (Reps.le h xs _ q)
  | .dit ks xs, _, r => by cases r with | dit e l q => exact .dit (rd_le h rfl e) l (Reps.le h xs _ q)
  | .obj C fs xs, _, r => by cases r with | obj c e l q => exact .obj c (at_le h rfl (fun _ _ z => by cases z) e) l (Reps.le h xs _ q)
  | .scr ns, _, r => by cases r with | scr e => exact .scr (sqL_le h e)
theorem Reps.le (h : RdLe S S') : ∀ (ds : List D) (vs : List V), Reps K S vs ds → Reps K S' vs ds
  | [], _, r => by cases r; exact .nil
  | d :: ds, _, r => by cases r with | cons a b => exact .cons (Rep.le h d _ a) (Reps.le h ds _ b)
end
mutual
theorem Own.le (h : RdLe S S') : ∀ {v : V} (w : W) {fp : List Addr}, Own K S H v w fp → (∀ p ∈ fp, H' p = H p) → Own K S' H' v w fp
  | _, .sh d, _, r, k => by cases r with | sh q => exact .sh (Rep.le h _ _ q)
  | _, .lst xs, _, r, k => by cases r with | lst e q => exact .lst (by rw [k _ (by simp)]; exact e) (Reps.le h _ _ q)
  | _, .dic ks xs, _, r, k => by cases r with | dic e l q => exact .dic (by rw [k _ (by simp)]; exact e) l (Reps.le h _ _ q)
  | _, .dit ks xs, _, r, k => by cases r with | dit e l q => exact .dit (by rw [k _ (by simp)]; exact e) l (Reps.le h _ _ q)
  | _, .obj C fs ws, _, r, k => by cases r with | obj c e l q => exact .obj c (by rw [k _ (by simp)]; exact e) l (Owns.le h ws q fun p hp => k p (List.mem_cons_of_mem _ hp))
  | _, .nst ws, _, r, k => by cases r with | nst e q => exact .nst (by rw [k _ (by simp)]; exact e) (Owns.le h ws q fun p hp => k p (List.mem_cons_of_mem _ hp))
  | _, .ntp ws, _, r, k => by cases r with | ntp e q => exact .ntp (at_le h rfl (fun _ _ z => by cases z) e) (Owns.le h ws q fun p hp => k p hp)
theorem Owns.le (h : RdLe S S') : ∀ {vs : List V} (ws : List W) {fp : List Addr}, Owns K S H vs ws fp → (∀ p ∈ fp, H' p = H p) → Owns K S' H' vs ws fp
  | _, [], _, r, k => by cases r; exact .nil
  | _, w :: ws, _, r, k => by cases r with | cons a b => exact .cons (Own.le h w a fun p hp => k p (List.mem_append_left _ hp)) (Owns.le h ws b fun p hp => k p (List.mem_append_right _ hp))
end
/-- a dict of the stable part, locked -/
theorem lock_le {p : Addr} {od : Obj} {u : HO} (hu : dictO u = true) (hp : S p = some u) : RdLe S (upd S p (.frz od u)) := fun a o e => by
  by_cases z : a = p
  · subst z
    rw [hp] at e
    cases e
    exact .inr ⟨u, hu, .inl rfl, .inr ⟨od, upd_same⟩⟩
  · exact .inl (by rw [upd_ne z]; exact e)
theorem unlock_le {p : Addr} {od : Obj} {u : HO} (hu : dictO u = true) (hp : S p = some (.frz od u)) : RdLe S (upd S p u) := fun a o e => by
  by_cases z : a = p
  · subst z
    rw [hp] at e
    cases e
    exact .inr ⟨u, hu, .inr ⟨od, rfl⟩, .inl upd_same⟩
  · exact .inl (by rw [upd_ne z]; exact e)
end
/-! ### a statement, an expression, under a lock or without one -/
def tLockO (t : TS) : TS := fun D σ H => t D σ H ∨ tLock t D σ H
def tLockOE (t : TE) : TE := fun σ H Q => t σ H Q ∨ tLockE t σ H Q
section
variable {X : Cx}
theorem ps_lockO {st : Stmt} {t : TS} (h : PS X st t) : PS X st (tLockO t) := by
  refine ⟨fun pins s σ H D I hw => ?_⟩
  rcases hw with hw | hw
  · exact h.run pins s σ H D I hw
  · exact (ps_lock h).run pins s σ H D I hw
theorem pe_lockO {e : Expr} {t : TE} (h : PE X e t) : PE X e (tLockOE t) := by
  refine ⟨fun pins s σ H Q I hw => ?_⟩
  rcases hw with hw | hw
  · exact h.run pins s σ H Q I hw
  · exact (pe_lock h).run pins s σ H Q I hw
end
section
variable {K : PySem.W.Frag} {E : XK} {Mu : List Nat}
/-- a comprehension over what is walked -/
theorem lc_run {g : TG} {tt : TT} {te : TE} {vs ts Ft Fe : List Nat} {mg : D → En → Res En} {mt : En → Res Bool} {me : En → Res W} [hg : SemG K g ts mg] [ht : SemT K E0 tt Ft mt] [he : SemE K E0 te Fe me] {env : En} {σ : L2.St} {S1 H1 : Hp} {Q : VK} {J : It} {ds ys : List D}
    (x1 : Vw K env σ S1 H1) (hts' : ∀ i ∈ ts, i ∈ vs) (jok : JOk K S1 H1 J ds) (e3 : runC mg mt (mD me) ds (wipeE env vs) = .ok ys) (hsm : small ys.length = true) (k : ∀ v S' H' fp, New K S1 H1 S' H' v (.lst ys) fp → Q v H') :
    ∀ D, H1 D = none → ∃ W : Nat → Nat → Hp → Prop, (∃ m, W 0 m (upd H1 D (.lst []))) ∧ ∀ i m H, W i m H →
  (J.stop i H ∧ Q (.ref D) H) ∨ (J.go i H ∧ ∃ Nx : Hp → Prop, (∀ H', Nx H' → ∃ m', m' < m ∧ W (i + 1) m' H') ∧ ∀ x H', J.yld i H x H' → g x (wipe σ vs) H' fun σ2 H2 => wipe σ2 vs = wipe σ vs ∧ tt σ2 H2 fun b H3 =>
    if b = true then te σ2 H3 fun y H4 => ∃ acc, H4 D = some (.lst acc) ∧ acc.length < sizeLine ∧ Nx (upd H4 D (.lst (acc ++ [y]))) else Nx H3) := by
  intro D hD
  have hSD : S1 D = none := x1.sub.free hD
  refine ⟨fun i m H => m = ds.length - i ∧ ∃ S us acc rest, Gr S1 H1 S H ∧ S D = none ∧ H D = some (.lst us) ∧ Reps K S us acc ∧ runC mg mt (mD me) (ds.drop i) (wipeE env vs) = .ok rest ∧ acc ++ rest = ys,
    ⟨_, rfl, S1, [], [], ys, (Gr.refl x1.sub).trans (.hp x1.sub fun a o q => by rw [upd_ne (ne_of_none q hD)]; exact q), hSD, upd_same, .nil, by rw [List.drop_zero]; exact e3, rfl⟩, ?_⟩
  rintro i m H2 ⟨rfl, S2, us, acc, rest, g2, hS2, hH2, r2, e4, e5⟩
  obtain ⟨j1, j2⟩ := jok S2 H2 g2.ss g2.sub g2.hh i
  cases hd : ds[i]? with
  | none =>
    have hl : ds.length ≤ i := List.getElem?_eq_none_iff.mp hd
    rw [List.drop_eq_nil_of_le hl] at e4
    have e4' : rest = [] := by unfold runC at e4; cases e4; rfl
    subst e4'
    rw [List.append_nil] at e5
    subst e5
    refine .inl ⟨j2 hd, k _ S2 H2 [D] ⟨g2, .lst hH2 r2, by simp, fun p hp => ?_⟩⟩
    rw [List.mem_singleton.mp hp]
    exact ⟨hD, hS2⟩
  | some d =>
    obtain ⟨hlt, hdd⟩ := List.getElem?_eq_some_iff.mp hd
    have hdrop : ds.drop i = d :: ds.drop (i + 1) := by rw [List.drop_eq_getElem_cons hlt, hdd]
    rw [hdrop] at e4
    unfold runC at e4
    obtain ⟨en, f1, e4⟩ := Res.of_ok e4
    obtain ⟨b, f2, e4⟩ := Res.of_ok e4
    obtain ⟨go, yld⟩ := j1 d hd
    refine .inr ⟨go, fun H' => ∃ S us acc rest, Gr S1 H1 S H' ∧ S D = none ∧ H' D = some (.lst us) ∧ Reps K S us acc ∧ runC mg mt (mD me) (ds.drop (i + 1)) (wipeE env vs) = .ok rest ∧ acc ++ rest = ys, fun H' z => ⟨_, by omega, rfl, z⟩, fun y H' hy => ?_⟩
    obtain ⟨S3, g3, r3⟩ := yld y H' hy
    have hHD : isMu (H2 D) = true := by rw [hH2]; rfl
    have hS3 : S3 D = none := g3.gone hS2 hHD
    refine hg.vw (((x1.gr g2).gr g3).wiped vs) r3 f1 fun σ2 x4 wq => ⟨by rw [wq vs hts']; exact wipe_wipe _ _, ?_⟩
    refine ht.ok x4 f2 fun H4 g4 => ?_
    have y4 := Gr.hp g3.sub g4
    cases b with
    | false =>
      rw [if_neg Bool.false_ne_true] at e4 ⊢
      exact ⟨S3, us, acc, rest, (g2.trans g3).trans y4, hS3, g4 _ _ (g3.hh _ _ hH2), r2.up g3.ss, e4, e5⟩
    | true =>
      rw [if_pos rfl] at e4 ⊢
      obtain ⟨dy, f3, e4⟩ := Res.of_ok e4
      obtain ⟨rest', f4, rfl⟩ := Res.of_okm e4
      refine he.okD (x4.gr y4) f3 fun v S5 H5 g5 r5 => ?_
      have hD5 : H5 D = some (.lst us) := g5.hh _ _ (g4 _ _ (g3.hh _ _ hH2))
      have hS5 : S5 D = none := g5.gone hS3 (by rw [g4 _ _ (g3.hh _ _ hH2)]; rfl)
      have hlen : us.length < sizeLine := by
        rw [r2.len]
        have := congrArg List.length e5
        rw [List.length_append] at this
        have h2 := small_line hsm
        omega
      refine ⟨us, hD5, hlen, S5, us ++ [v], acc ++ [dy], rest', ?_, hS5, upd_same, ?_, f4, by rw [← e5]; simp⟩
      · have gg := ((g2.trans g3).trans y4).trans g5
        exact ⟨gg.ss, fun a o q => by rw [upd_ne (ne_of_none q hD)]; exact gg.hh a o q, fun a o q => by rw [upd_ne (ne_of_none q hS5)]; exact gg.sub a o q, gg.nw⟩
      · exact ((r2.up g3.ss).up g5.ss).app (.cons r5 .nil)
end
end Ly

set_option Elab.async false
set_option linter.all false
set_option maxRecDepth 100000
namespace Ly
open PySem L2 PyProof.Rows
section
variable {K : PySem.W.Frag} {E : XK} {Mu : List Nat}
/-! ### what is known of a thing ahead of its reading -/
class FixS (K : PySem.W.Frag) (td : TE) (F : outParam (List Nat)) (m : outParam (En → Res D)) : Prop where
  fix : ∀ {env σ S H d}, Vw K env σ S H → m env = .ok d → ∃ v, Rep K S v d ∧ ∀ H' Q, (∀ a o, dictO o = false → H a = some o → H' a = some o) → Q v H' → td σ H' Q
  ex : ∀ {env x}, m env = .ex x → False
instance fix_var {i : Nat} : FixS K (tVar i) [i] (mD (mVar i)) where
  fix := fun {env σ S H d} x e => by
    obtain ⟨w, e1, e2⟩ := Res.of_okm e
    unfold mVar at e1
    split at e1 <;> cases e1
    rename_i d' h
    obtain ⟨v, fp, a, b, c⟩ := x.at_ _ _ h
    cases b with
    | sh r => exact ⟨v, by rw [e2]; unfold W.toD; exact r, fun H' Q _ q => ⟨v, a, q⟩⟩
  ex := fun {env x} e => by
    have e := Res.of_exm e
    unfold mVar at e
    split at e <;> cases e
instance (priority := high) fix_fld {i : Nat} {f : Str} {T : List (Str × List Str × List Str)} [FldTab K T] : FixS K (tFld K (tVar i) f) [] (mD (mFldE T f i)) where
  fix := fun {env σ S H d} x e => by
    obtain ⟨w, e1, e2⟩ := Res.of_okm e
    unfold mFldE at e1
    split at e1
    · rename_i w' h
      obtain ⟨r, e3, e4⟩ := Res.of_ok e1
      obtain ⟨v, fp, a, b, c⟩ := x.at_ _ _ h
      obtain ⟨p, C, dx, fs, u, fq, h1, h2, h3, h4, h5, h6⟩ := fldW_ok x.sub b e3
      unfold shOnly at e4
      split at e4 <;> cases e4
      cases h6 with
      | sh h6 => exact ⟨u, by rw [e2]; unfold W.toD; exact h6, fun H' Q k q => ⟨v, a, p, C, dx, fs, u, h1, k _ _ rfl h2, h3, h4, h5, q⟩⟩
    · cases e1
  ex := fun {env x} e => by
    have e := Res.of_exm e
    unfold mFldE at e
    split at e
    · rcases Res.of_ex e with e1 | ⟨r, e1, e2⟩
      · exact (fldW_ex e1).elim
      · unfold shOnly at e2
        split at e2 <;> cases e2
    · cases e
/-! ### what is walked of a dict -/
class DSel (K : PySem.W.Frag) (wi : TE → TI) (sel : outParam (D → Res (List D))) : Prop where
  ok : ∀ {S v d ds}, Rep K S v d → sel d = .ok ds → ∃ p u, v = .ref p ∧ dictO u = true ∧ Rd S p u ∧ ∀ {od : Obj} {H : Hp} {td : TE} {σ : L2.St} {R : It → Hp → Prop}, H p = some (.frz od u) → (∀ Q : VK, Q (.ref p) H → td σ H Q) → (∀ J, (∀ S' P : Hp, RdLe S S' → P p = some (.frz od u) → JOk K S' P J ds) → R J H) → wi td σ H R
  ex : ∀ {d x}, sel d = .ex x → False
def keysD : D → Res (List D)
  | .dic ks _ => .ok (ks.map kD)
  | .dit ks _ => .ok (ks.map fun k => .tup (k.map kD))
  | _ => .st
def valsD : D → Res (List D)
  | .dic _ xs => .ok xs
  | _ => .st
def itmsD : D → Res (List D)
  | .dic ks xs => .ok (itemsP ks xs)
  | _ => .st
theorem zip_at {ks : List Key} {vs : List V} {i : Nat} {k : Key} {v : V} (h : (ks.zip vs)[i]? = some (k, v)) : ks[i]? = some k ∧ vs[i]? = some v := zip_get h
theorem Gr.tupAt {S H : Hp} {q : Addr} {vs : List V} (h : Same S H) (e : H q = some (.tup vs)) : Gr S H (upd S q (.tup vs)) H where
  ss := fun a o z => by
    by_cases w : a = q
    · subst w
      rw [h a o z] at e
      cases e
      exact upd_same
    · rw [upd_ne w]; exact z
  hh := Same.refl H
  sub := fun a o z => by
    by_cases w : a = q
    · subst w
      rw [upd_same] at z
      cases z
      exact e
    · rw [upd_ne w] at z; exact h a o z
  nw := fun a o z => by
    by_cases w : a = q
    · subst w
      rw [upd_same] at z
      cases z
      exact .inr (.inr rfl)
    · rw [upd_ne w] at z; exact .inl z
instance dsel_keys : DSel K iKeys keysD where
  ok := fun {S v d ds} r e => by
    unfold keysD at e
    split at e <;> first | cases e | skip
    · rename_i ks xs
      cases r with
      | dic hp hl hr =>
        rename_i a vs
        refine ⟨a, _, rfl, rfl, hp, fun {od H td σ R} hH ht k => ht _ ⟨a, od, rfl, .inl ⟨_, hH, k _ fun S' P _ hP S2 H2 s1 s2 s3 i => ?_⟩⟩⟩
        have h2 := s3 _ _ hP
        have hz : (ks.zip vs).length = ks.length := by rw [List.length_zip, hl, Nat.min_self]
        refine ⟨fun d hd => ⟨⟨h2, ?_⟩, fun y H3 hy => ?_⟩, fun hd => ⟨h2, ?_⟩⟩
        · rw [List.getElem?_map] at hd
          obtain ⟨c, hc, _⟩ := Option.map_eq_some_iff.mp hd
          rw [hz]; exact (List.getElem?_eq_some_iff.mp hc).1
        · obtain ⟨rfl, k', v', hk', rfl⟩ := hy
          rw [List.getElem?_map, (zip_at hk').1] at hd
          cases hd
          exact ⟨S2, .refl s2, kD_rep _⟩
        · rw [hz]; simpa using hd
    · rename_i ks xs
      cases r with
      | dit hp hl hr =>
        rename_i a vs
        refine ⟨a, _, rfl, rfl, hp, fun {od H td σ R} hH ht k => ht _ ⟨a, od, rfl, .inr ⟨_, hH, k _ fun S' P _ hP S2 H2 s1 s2 s3 i => ?_⟩⟩⟩
        have h2 := s3 _ _ hP
        have hz : (ks.zip vs).length = ks.length := by rw [List.length_zip, hl, Nat.min_self]
        refine ⟨fun d hd => ⟨⟨h2, ?_⟩, fun y H3 hy => ?_⟩, fun hd => ⟨h2, ?_⟩⟩
        · rw [List.getElem?_map] at hd
          obtain ⟨c, hc, _⟩ := Option.map_eq_some_iff.mp hd
          rw [hz]; exact (List.getElem?_eq_some_iff.mp hc).1
        · obtain ⟨rfl, k', v', q, hk', rfl, hq⟩ := hy
          have hk1 : ks[i]? = some k' := by
            rw [List.getElem?_zip_eq_some] at hk'
            exact hk'.1
          rw [List.getElem?_map, hk1] at hd
          cases hd
          exact ⟨_, .tupAt s2 hq, .tup upd_same (kDs_rep _)⟩
        · rw [hz]; simpa using hd
  ex := fun {d x} e => by
    unfold keysD at e
    split at e <;> cases e
instance dsel_vals : DSel K iVals valsD where
  ok := fun {S v d ds} r e => by
    unfold valsD at e
    split at e <;> first | cases e | skip
    rename_i ks
    cases r with
    | dic hp hl hr =>
      rename_i a vs
      refine ⟨a, _, rfl, rfl, hp, fun {od H td σ R} hH ht k => ht _ ⟨a, od, _, rfl, hH, k _ fun S' P le hP S2 H2 s1 s2 s3 i => ?_⟩⟩
      have h2 := s3 _ _ hP
      refine ⟨fun d hd => ⟨⟨h2, ?_⟩, fun y H3 hy => ?_⟩, fun hd => ⟨h2, ?_⟩⟩
      · rw [zip_long hl hr.len]; exact (List.getElem?_eq_some_iff.mp hd).1
      · obtain ⟨rfl, k', hk'⟩ := hy
        obtain ⟨v', hv', rv⟩ := hr.get hd
        rw [(zip_at hk').2] at hv'
        cases hv'
        exact ⟨S2, .refl s2, (Rep.le le _ _ rv).up s1⟩
      · rw [zip_long hl hr.len]; exact List.getElem?_eq_none_iff.mp hd
  ex := fun {d x} e => by
    unfold valsD at e
    split at e <;> cases e
theorem itemsP_get' : ∀ (ks : List Key) (xs : List D) (i : Nat) (d : D), (itemsP ks xs)[i]? = some d → ∃ k x, ks[i]? = some k ∧ xs[i]? = some x ∧ d = .tup [kD k, x]
  | [], _, _, _, h => by unfold itemsP at h; simp at h
  | _ :: _, [], _, _, h => by unfold itemsP at h; simp at h
  | k :: ks, x :: xs, 0, d, h => by
    unfold itemsP at h
    cases h
    exact ⟨k, x, rfl, rfl, rfl⟩
  | k :: ks, x :: xs, i + 1, d, h => by
    unfold itemsP at h
    rw [List.getElem?_cons_succ] at h
    exact itemsP_get' ks xs i d h
theorem itemsP_get {ks : List Key} {xs : List D} {i : Nat} {d : D} (h : (itemsP ks xs)[i]? = some d) : ∃ k x, ks[i]? = some k ∧ xs[i]? = some x ∧ d = .tup [kD k, x] := itemsP_get' ks xs i d h
theorem itemsP_len : ∀ {ks : List Key} {xs : List D}, xs.length = ks.length → (itemsP ks xs).length = ks.length
  | [], [], _ => rfl
  | k :: ks, x :: xs, h => by
    unfold itemsP
    rw [List.length_cons, itemsP_len (by simpa using h), List.length_cons]
instance dsel_items : DSel K iItems itmsD where
  ok := fun {S v d ds} r e => by
    unfold itmsD at e
    split at e <;> first | cases e | skip
    rename_i ks xs
    cases r with
    | dic hp hl hr =>
      rename_i a vs
      have hxl : xs.length = ks.length := by rw [← hr.len, hl]
      refine ⟨a, _, rfl, rfl, hp, fun {od H td σ R} hH ht k => ht _ ⟨a, od, _, rfl, hH, k _ fun S' P le hP S2 H2 s1 s2 s3 i => ?_⟩⟩
      have h2 := s3 _ _ hP
      have hz : (ks.zip vs).length = ks.length := by rw [List.length_zip, hl, Nat.min_self]
      refine ⟨fun d hd => ⟨⟨h2, ?_⟩, fun y H3 hy => ?_⟩, fun hd => ⟨h2, ?_⟩⟩
      · obtain ⟨k', x', hk, _, _⟩ := itemsP_get hd
        rw [hz]; exact (List.getElem?_eq_some_iff.mp hk).1
      · obtain ⟨k0, x0, hk, hx, rfl⟩ := itemsP_get hd
        obtain ⟨T, k', v', hk', rfl, hT, rfl⟩ := hy
        obtain ⟨z1, z2⟩ := zip_at hk'
        rw [z1] at hk
        cases hk
        obtain ⟨v'', hv', rv⟩ := hr.get hx
        rw [z2] at hv'
        cases hv'
        refine ⟨_, .new s2 hT, .tup upd_same (.cons (kD_rep _) (.cons ?_ .nil))⟩
        exact ((Rep.le le _ _ rv).up s1).up fun a o q => by rw [upd_ne (ne_of_none q (s2.free hT))]; exact q
      · rw [hz, ← itemsP_len hxl]; exact List.getElem?_eq_none_iff.mp hd
  ex := fun {d x} e => by
    unfold itmsD at e
    split at e <;> cases e
/-! ### the locked state -/
theorem vw_lock {env : En} {σ : L2.St} {S H : Hp} {p : Addr} {od : Obj} {u : HO} (x : Vw K env σ S H) (hu : dictO u = true) (hp : S p = some u) : Vw K env σ (upd S p (.frz od u)) (upd H p (.frz od u)) := by
  refine ⟨x.len, fun a o e => ?_, fun i w e => ?_⟩
  · by_cases z : a = p
    · subst z; rw [upd_same] at e ⊢; exact e
    · rw [upd_ne z] at e ⊢; exact x.sub a o e
  · obtain ⟨v, fp, a, b, c⟩ := x.at_ i w e
    have far : ∀ q ∈ fp, q ≠ p := fun q hq z => by rw [z] at hq; rw [c p hq] at hp; cases hp
    exact ⟨v, fp, a, b.le (lock_le hu hp) w fun q hq => upd_ne (far q hq), fun q hq => by rw [upd_ne (far q hq)]; exact c q hq⟩
theorem same_lock {S H : Hp} {p : Addr} {o : HO} (h : Same S H) : Same (upd S p o) (upd H p o) := fun a x e => by
  by_cases z : a = p
  · subst z; rw [upd_same] at e ⊢; exact e
  · rw [upd_ne z] at e ⊢; exact h a x e
/-- what holds of the locked state's growth holds of the free one's -/
theorem gr_unlock {S H S' H' : Hp} {p : Addr} {od : Obj} {u : HO} (hs : Same S H) (hp : S p = some u) (g : Gr (upd S p (.frz od u)) (upd H p (.frz od u)) S' H') : Gr S H (upd S' p u) (upd H' p u) where
  ss := fun a o e => by
    by_cases z : a = p
    · subst z; rw [hp] at e; cases e; exact upd_same
    · rw [upd_ne z]; exact g.ss a o (by rw [upd_ne z]; exact e)
  hh := fun a o e => by
    by_cases z : a = p
    · subst z; rw [hs _ _ hp] at e; cases e; exact upd_same
    · rw [upd_ne z]; exact g.hh a o (by rw [upd_ne z]; exact e)
  sub := same_lock g.sub
  nw := fun a o e => by
    by_cases z : a = p
    · subst z; rw [upd_same] at e; cases e; exact .inl hp
    · rw [upd_ne z] at e
      rcases g.nw a o e with h | h | h
      · rw [upd_ne z] at h; exact .inl h
      · rw [upd_ne z] at h; exact .inr (.inl h)
      · exact .inr (.inr h)
/-! ### comprehensions over a dict -/
def mLcD (ts vs : List Nat) (md : En → Res D) (sel : D → Res (List D)) (mg : D → En → Res En) (mt : En → Res Bool) (me : En → Res D) : En → Res W := fun env => if ts.all (fun i => vs.contains i) then
  (md env).bind fun d => (sel d).bind fun ds => (noEx (runC mg mt me ds (wipeE env vs))).bind fun ys => if small ys.length then .ok (.lst ys) else .st
  else .st
instance semE_lcD {wi : TE → TI} {td : TE} {g : TG} {tt : TT} {te : TE} {vs ts Fi Ft Fe : List Nat} {md : En → Res D} {sel : D → Res (List D)} {mg : D → En → Res En} {mt : En → Res Bool} {me : En → Res W} [hd : FixS K td Fi md] [hs : DSel K wi sel] [hg : SemG K g ts mg] [ht : SemT K E0 tt Ft mt] [he : SemE K E0 te Fe me] :
    SemE K E (tLockOE (tLc (wi td) g tt te vs)) (Fi ++ Ft ++ Fe) (mLcD ts vs md sel mg mt (mD me)) where
  ok := fun {env σ S H Q w} x e k => by
    unfold mLcD at e
    split at e
    · rename_i hts
      have hts' : ∀ i ∈ ts, i ∈ vs := fun i h => by
        have := List.all_eq_true.mp hts i h
        simpa using this
      obtain ⟨d, e0, e⟩ := Res.of_ok e
      obtain ⟨ds, e1, e⟩ := Res.of_ok e
      obtain ⟨ys, e2, e⟩ := Res.of_ok e
      split at e
      · rename_i hsm
        cases e
        have e3 : runC mg mt (mD me) ds (wipeE env vs) = .ok ys := by
          unfold noEx at e2
          split at e2
          · cases e2; assumption
          · cases e2
        obtain ⟨v, rv, kv⟩ := hd.fix x e0
        obtain ⟨p, u, rfl, hu, hp, go⟩ := hs.ok rv e1
        rcases hp with hp | ⟨od, hp⟩
        · have hHp := x.sub _ _ hp
          refine .inr ⟨p, u, hHp, (by cases u <;> first | trivial | cases hu), fun od => ?_⟩
          have x1 := vw_lock (od := od) x hu hp
          refine go upd_same (fun Q' q => kv _ Q' (fun a o ho ea => by rw [upd_ne (fun z => by subst z; rw [hHp] at ea; cases ea; rw [ho] at hu; cases hu)]; exact ea) q) fun J jok => ?_
          have j1 := jok (upd S p (.frz od u)) (upd H p (.frz od u)) (lock_le hu hp) upd_same
          refine lc_run (hg := hg) (ht := ht) (he := he) (Q := fun v H' => H' p = some (.frz od u) ∧ Q v (upd H' p u)) x1 hts' j1 e3 hsm fun y S' H' fp n => ?_
          have far : ∀ q ∈ fp, q ≠ p := fun q hq z => by
            have := (n.new q hq).1
            rw [z, upd_same] at this
            cases this
          refine ⟨n.gr.hh _ _ upd_same, k y (upd S' p u) (upd H' p u) fp ⟨gr_unlock x.sub hp n.gr, ?_, n.nd, fun q hq => ?_⟩⟩
          · exact n.own.le (unlock_le (od := od) hu (n.gr.ss _ _ upd_same)) _ fun q hq => upd_ne (far q hq)
          · have := n.new q hq
            rw [upd_ne (far q hq)] at this ⊢
            exact this
        · have hHp := x.sub _ _ hp
          refine .inl (go hHp (fun Q' q => kv _ Q' (fun a o _ ea => ea) q) fun J jok => ?_)
          exact lc_run (hg := hg) (ht := ht) (he := he) (Q := Q) x hts' (jok S H (.of (Same.refl S)) hHp) e3 hsm k
      · cases e
    · cases e
  ex := fun {env σ S H Q w} x e k => by
    unfold mLcD at e
    split at e
    · rcases Res.of_ex e with e1 | ⟨d, e1, e⟩
      · exact (hd.ex e1).elim
      · rcases Res.of_ex e with e1 | ⟨ds, e1, e⟩
        · exact (hs.ex e1).elim
        · rcases Res.of_ex e with e1 | ⟨ds, e1, e⟩
          · unfold noEx at e1
            split at e1 <;> cases e1
          · split at e <;> cases e
    · cases e
/-! ### loops over a dict -/
def mForD (Mu ts F : List Nat) (md : En → Res D) (sel : D → Res (List D)) (mg : D → En → Res En) (mb : En → Res Fl) : En → Res Fl := fun env => if ts.all (free0 Mu) then (md (fz F env)).bind fun d => (sel d).bind fun ds => noEx (runL mg mb ds (fz F env)) else .st
instance semS_forD {wi : TE → TI} {td : TE} {ts Fi : List Nat} {g : TG} {tb : TS} {md : En → Res D} {sel : D → Res (List D)} {mg : D → En → Res En} {mb : En → Res Fl} [hd : FixS K td Fi md] [hs : DSel K wi sel] [hg : SemG K g ts mg] [hb : SemS K Mu E tb mb] :
    SemS K Mu E (tLockO (tFor (wi td) g tb)) (mForD Mu ts Fi md sel mg mb) where
  run := fun {f B S0 D env σ S H} hm x0 q0 => by
    obtain ⟨S1, x, s1⟩ := x0.fz Fi
    unfold mForD at q0
    split at q0
    case isFalse => exact q0.elim
    rename_i hts
    cases e0 : md (fz Fi env) with
    | st => rw [e0] at q0; exact q0.elim
    | ex z => exact (hd.ex e0).elim
    | ok d =>
      rw [e0, Res.bind_ok] at q0
      cases e1 : sel d with
      | st => rw [e1] at q0; exact q0.elim
      | ex z => exact (hs.ex e1).elim
      | ok ds =>
        rw [e1, Res.bind_ok] at q0
        have q := Post.up q0 s1
        cases e2 : runL mg mb ds (fz Fi env) with
        | st => rw [e2] at q; exact q.elim
        | ex z => rw [e2] at q; exact q.elim
        | ok r =>
          rw [e2, a_noEx_ok] at q
          obtain ⟨v, rv, kv⟩ := hd.fix x.vw e0
          obtain ⟨p, u, rfl, hu, hp, go⟩ := hs.ok rv e1
          rcases hp with hp | ⟨od, hp⟩
          · have hHp := x.sub _ _ hp
            refine .inr ⟨p, u, hHp, (by cases u <;> first | trivial | cases hu), fun od => ?_⟩
            refine go upd_same (fun Q' q => kv _ Q' (fun a o ho ea => by rw [upd_ne (fun z => by subst z; rw [hHp] at ea; cases ea; rw [ho] at hu; cases hu)]; exact ea) q) fun J jok => ?_
            have j1 := jok (upd S1 p (.frz od u)) (upd B p (.frz od u)) (lock_le hu hp) upd_same
            obtain ⟨fps, h1, h2, h3⟩ := x.own
            have far : ∀ i, ∀ q ∈ fps i, q ≠ p := fun i q hq z => by rw [z] at hq; rw [(h2 i p hq).1] at hp; cases hp
            have x1 : StOk K f (upd B p (.frz od u)) (upd S1 p (.frz od u)) (fz Fi env) σ (upd S1 p (.frz od u)) (upd H p (.frz od u)) := by
              refine ⟨x.len, x.pin, same_lock x.sub, same_lock x.base, Same.refl _, fun a o e => .inl e, fps, fun i w e => ?_, fun i r hr => ?_, h3⟩
              · obtain ⟨v, a, b, c⟩ := h1 i w e
                exact ⟨v, a, b.le (lock_le hu hp) w fun q hq => upd_ne (far i q hq), c⟩
              · obtain ⟨a, b, c⟩ := h2 i r hr
                have hne := far i r hr
                exact ⟨by rw [upd_ne hne]; exact a, by rw [upd_ne hne]; exact b, by rw [upd_ne hne]; exact c⟩
            have S1B : ∀ {o : HO}, B p = some o → o = u := fun {o} e => by
              have := x.base p o e
              rw [hHp] at this
              cases this
              rfl
            have back : ∀ {S' H' : Hp}, Same (upd S1 p (.frz od u)) S' → Same S' H' → Same (upd B p (.frz od u)) H' → (∀ a o, S' a = some o → (upd S1 p (.frz od u)) a = some o ∨ (upd B p (.frz od u)) a = none ∨ tupO o = true) →
                Same (upd S' p u) (upd H' p u) ∧ Same B (upd H' p u) ∧ Same S1 (upd S' p u) ∧ Same S0 (upd S' p u) ∧ ∀ a o, (upd S' p u) a = some o → S0 a = some o ∨ B a = none ∨ tupO o = true := by
              intro S' H' a1 a2 a3 a4
              have a5 : Same S1 (upd S' p u) := fun a o e => by
                by_cases z : a = p
                · subst z; rw [hp] at e; cases e; exact upd_same
                · rw [upd_ne z]; exact a1 a o (by rw [upd_ne z]; exact e)
              refine ⟨same_lock a2, fun a o e => ?_, a5, x.ex0.trans a5, fun a o e => ?_⟩
              · by_cases z : a = p
                · subst z; rw [S1B e]; exact upd_same
                · rw [upd_ne z]; exact a3 a o (by rw [upd_ne z]; exact e)
              · by_cases z : a = p
                · subst z; rw [upd_same] at e; cases e; exact x.nw _ _ hp
                · rw [upd_ne z] at e
                  rcases a4 a o e with h | h | h
                  · rw [upd_ne z] at h; exact x.nw a o h
                  · rw [upd_ne z] at h; exact .inr (.inl h)
                  · exact .inr (.inr h)
            have st : ∀ {e5 : En} {σ' : L2.St} {S' H' : Hp}, StOk K f (upd B p (.frz od u)) (upd S1 p (.frz od u)) e5 σ' S' H' → H' p = some (.frz od u) ∧ StOk K f B S0 e5 σ' (upd S' p u) (upd H' p u) ∧ Same S1 (upd S' p u) := by
              intro e5 σ' S' H' x5
              obtain ⟨b1, b2, b3, b4, b5⟩ := back x5.ex0 x5.sub x5.base x5.nw
              obtain ⟨gps, g1, g2, g3⟩ := x5.own
              have far' : ∀ i, ∀ q ∈ gps i, q ≠ p := fun i q hq z => by
                have := (g2 i q hq).2.1
                rw [z, upd_same] at this
                cases this
              refine ⟨x5.base _ _ upd_same, ⟨x5.len, x5.pin, b1, b2, b4, b5, gps, fun i w e => ?_, fun i r hr => ?_, g3⟩, b3⟩
              · obtain ⟨v, a, b, c⟩ := g1 i w e
                exact ⟨v, a, b.le (unlock_le (od := od) hu (x5.ex0 _ _ upd_same)) w fun q hq => upd_ne (far' i q hq), c⟩
              · obtain ⟨a, b, c⟩ := g2 i r hr
                have hne := far' i r hr
                rw [upd_ne hne] at b
                exact ⟨by rw [upd_ne hne]; exact a, b, by rw [upd_ne hne]; exact c⟩
            refine for_run (hg := hg) (hb := hb) (f := f) (P0 := upd B p (.frz od u)) hm (by rw [hm]; exact hts) x1 j1 (fun S' H' _ _ hB => hB) ?_
            rw [e2]
            cases r with
            | nx e5 => exact fun σ' S' H' x5 _ => by obtain ⟨c1, c2, c3⟩ := st x5; exact ⟨c1, q σ' _ _ c2 c3⟩
            | bk e5 => exact fun σ' S' H' x5 _ => by obtain ⟨c1, c2, c3⟩ := st x5; exact ⟨c1, q σ' _ _ c2 c3⟩
            | ct e5 => exact fun σ' S' H' x5 _ => by obtain ⟨c1, c2, c3⟩ := st x5; exact ⟨c1, q σ' _ _ c2 c3⟩
            | rt w =>
              intro v' S' H' fp y
              obtain ⟨b1, b2, b3, b4, b5⟩ := back y.ex0 y.sub y.base y.nw
              have far' : ∀ q ∈ fp, q ≠ p := fun q hq z => by
                have := (y.new q hq).1
                rw [z, upd_same] at this
                cases this
              refine ⟨y.base _ _ upd_same, q v' (upd S' p u) (upd H' p u) fp ⟨b1, b2, b4, b5, y.own.le (unlock_le (od := od) hu (y.ex0 _ _ upd_same)) w fun q hq => upd_ne (far' q hq), y.nd, fun r hr => ?_⟩⟩
              obtain ⟨c1, c2⟩ := y.new r hr
              rw [upd_ne (far' r hr)] at c1 ⊢
              exact ⟨c1, c2⟩
          · have hHp := x.sub _ _ hp
            refine .inl (go hHp (fun Q' q => kv _ Q' (fun a o _ ea => ea) q) fun J jok => ?_)
            refine for_run (hg := hg) (hb := hb) (f := f) (P0 := S1) hm (by rw [hm]; exact hts) x (jok S1 S1 (.of (Same.refl S1)) hp) (fun S' H' a b _ => a.trans b) ?_
            rw [e2]
            exact q
end
end Ly

set_option Elab.async false
set_option linter.all false
set_option maxRecDepth 100000
/-! LyL3: d.get(k), d.get(k, x), xs.index(y), min, max (default=), sorted of data. -/
namespace Ly
open PySem L2 PyProof.Rows
section
variable {K : PySem.W.Frag} {E : XK}
/-! ### d.get -/
def isDc : D → Bool
  | .dic _ _ => true
  | .dit _ _ => true
  | _ => false
def lookD : D → D → Option (Option D)
  | .dic ks xs, k => (toK k).map fun key => dlook ks xs key
  | .dit ks xs, .tup ds => (toKs ds).map fun key => dlook ks xs key
  | _, _ => none
theorem isD_view {S H : Hp} {v : V} {d : D} (r : View K S H v d) (hs : Same S H) (h : isDc d = true) : ∃ a, v = .ref a ∧ IsD H a := by
  cases d <;> first | cases h | skip
  · obtain ⟨p, vs, rfl, hp, _, _⟩ := r.dic_inv hs
    exact ⟨p, rfl, .inl ⟨_, hp⟩⟩
  · obtain ⟨p, vs, rfl, hp, _, _⟩ := r.dit_inv hs
    exact ⟨p, rfl, .inr ⟨_, hp⟩⟩
theorem look_view {S H : Hp} {v y : V} {d k : D} {o : Option D} {a : Addr} (hs : Same S H) (r : View K S H v d) (rk : View K S H y k) (h : lookD d k = some o) (hv : v = .ref a) : ∃ o', DGet H a y o' ∧ ∀ z dz, Rep K S z dz → Rep K S (o'.getD z) (o.getD dz) := by
  subst hv
  cases d with
  | dic ks xs =>
    obtain ⟨key, hk, rfl⟩ := Option.map_eq_some_iff.mp h
    obtain ⟨p, vs, e, hp, hl, q⟩ := r.dic_inv hs
    cases e
    have hy : y = kV key := by
      cases k <;> first | cases hk | skip
      · cases rk.int_inv; rfl
      · cases rk.str_inv; rfl
    refine ⟨_, .inl ⟨_, key, hp, hy, rfl⟩, fun z dz rz => ?_⟩
    rcases dlook_rep (k := key) (ks := ks) q with ⟨h1, h2⟩ | ⟨v', d', h1, h2, h3⟩
    · rw [h1, h2]; exact rz
    · rw [h1, h2]; exact h3
  | dit ks xs =>
    cases k with
    | tup ds =>
      obtain ⟨key, hk, rfl⟩ := Option.map_eq_some_iff.mp h
      obtain ⟨p, vs, e, hp, hl, q⟩ := r.dit_inv hs
      cases e
      obtain ⟨b, us, rfl, hb, qb⟩ := rk.tup_inv
      refine ⟨_, .inr ⟨_, key, b, hp, rfl, by rw [hs _ _ hb, toKs_rep qb hk], rfl⟩, fun z dz rz => ?_⟩
      rcases dlook_rep (k := key) (ks := ks) q with ⟨h1, h2⟩ | ⟨v', d', h1, h2, h3⟩
      · rw [h1, h2]; exact rz
      · rw [h1, h2]; exact h3
    | _ => cases h
  | _ => cases h
def mGet1 (md mk : En → Res D) : En → Res W := fun e => (md e).bind fun d => if isDc d then (mk e).bind fun k => match lookD d k with
  | some o => .ok (.sh (o.getD .non))
  | none => .st
  else .st
def mGet2 (md mk : En → Res D) (mx : En → Res D) : En → Res W := fun e => (md e).bind fun d => if isDc d then (mk e).bind fun k => (mx e).bind fun z => match lookD d k with
  | some o => .ok (.sh (o.getD z))
  | none => .st
  else .st
instance semE_get1 {td ty : TE} {Fd Fk : List Nat} {md mk : En → Res D} [hd : SemV K E td Fd md] [hk : SemV K E ty Fk mk] : SemE K E (tDGet1 td ty) (Fd ++ Fk) (mGet1 md mk) where
  ok := fun {env σ S H Q w} x e k => by
    obtain ⟨d, e1, e⟩ := Res.of_ok e
    split at e
    · rename_i hc
      obtain ⟨kd, e2, e⟩ := Res.of_ok e
      cases ho : lookD d kd with
      | none => rw [ho] at e; cases e
      | some o =>
      rw [ho] at e
      cases e
      refine hd.ok x e1 fun v S1 H1 g1 r1 => ?_
      obtain ⟨a, rfl, ha⟩ := isD_view r1 g1.sub hc
      refine ⟨a, rfl, ha, hk.ok (x.gr g1) e2 fun y S2 H2 g2 r2 => ?_⟩
      obtain ⟨o', h1, h2⟩ := look_view g2.sub (r1.gr g2) r2 ho rfl
      exact ⟨o', h1, k _ S2 H2 [] (.sh (g1.trans g2) (h2 _ _ .non))⟩
    · cases e
  ex := fun {env σ S H Q w} x e k => by
    rcases Res.of_ex e with e1 | ⟨d, e1, e⟩
    · exact hd.ex x e1 k
    · split at e
      · rename_i hc
        refine hd.ok x e1 fun v S1 H1 g1 r1 => ?_
        obtain ⟨a, rfl, ha⟩ := isD_view r1 g1.sub hc
        refine ⟨a, rfl, ha, ?_⟩
        rcases Res.of_ex e with e2 | ⟨kd, e2, e⟩
        · exact hk.ex (x.gr g1) e2 fun c d H' s q => k c d H' (g1.hh.trans s) q
        · split at e <;> cases e
      · cases e
instance semE_get2 {td ty tx : TE} {Fd Fk Fx : List Nat} {md mk : En → Res D} {mx : En → Res W} [hd : SemV K E td Fd md] [hk : SemV K E ty Fk mk] [hx : SemE K E tx Fx mx] : SemE K E (tDGet2 td ty tx) (Fd ++ Fk ++ Fx) (mGet2 md mk (mD mx)) where
  ok := fun {env σ S H Q w} x e k => by
    obtain ⟨d, e1, e⟩ := Res.of_ok e
    split at e
    · rename_i hc
      obtain ⟨kd, e2, e⟩ := Res.of_ok e
      obtain ⟨z, e3, e⟩ := Res.of_ok e
      cases ho : lookD d kd with
      | none => rw [ho] at e; cases e
      | some o =>
      rw [ho] at e
      cases e
      refine hd.ok x e1 fun v S1 H1 g1 r1 => ?_
      obtain ⟨a, rfl, ha⟩ := isD_view r1 g1.sub hc
      refine ⟨a, rfl, ha, hk.ok (x.gr g1) e2 fun y S2 H2 g2 r2 => ?_⟩
      refine hx.okD ((x.gr g1).gr g2) e3 fun u S3 H3 g3 r3 => ?_
      obtain ⟨o', h1, h2⟩ := look_view g3.sub ((r1.gr g2).gr g3) (r2.gr g3) ho rfl
      exact ⟨o', h1, k _ S3 H3 [] (.sh ((g1.trans g2).trans g3) (h2 _ _ r3))⟩
    · cases e
  ex := fun {env σ S H Q w} x e k => by
    rcases Res.of_ex e with e1 | ⟨d, e1, e⟩
    · exact hd.ex x e1 k
    · split at e
      · rename_i hc
        refine hd.ok x e1 fun v S1 H1 g1 r1 => ?_
        obtain ⟨a, rfl, ha⟩ := isD_view r1 g1.sub hc
        refine ⟨a, rfl, ha, ?_⟩
        rcases Res.of_ex e with e2 | ⟨kd, e2, e⟩
        · exact hk.ex (x.gr g1) e2 fun c d H' s q => k c d H' (g1.hh.trans s) q
        · refine hk.ok (x.gr g1) e2 fun y S2 H2 g2 r2 => ?_
          rcases Res.of_ex e with e3 | ⟨z, e3, e⟩
          · exact hx.ex ((x.gr g1).gr g2) (Res.of_exm e3) fun c d H' s q => k c d H' ((g1.hh.trans g2.hh).trans s) q
          · split at e <;> cases e
      · cases e
/-! ### xs.index(y), flat items -/
def idxD (xs : List D) (y : D) : Option Nat := if flatD y && xs.all flatD then xs.findIdx? fun z => eqF z y else none
def mIdx (ma mb : En → Res D) : En → Res W := fun e => (ma e).bind fun a => match a with
  | .lst xs => (mb e).bind fun y => match idxD xs y with
    | some j => .ok (.sh (.int (j : Int)))
    | none => .st
  | _ => .st
instance semE_idx {ta tb : TE} {Fa Fb : List Nat} {ma mb : En → Res D} [ha : SemV K E ta Fa ma] [hb : SemV K E tb Fb mb] : SemE K E (tBM K "list" (rIndex K) ta (tCons tb tNil)) (Fa ++ Fb) (mIdx ma mb) where
  ok := fun {env σ S H Q w} x e k => by
    obtain ⟨a, e1, e⟩ := Res.of_ok e
    split at e
    · rename_i xs
      obtain ⟨y, e2, e⟩ := Res.of_ok e
      cases hj : idxD xs y with
      | none => rw [hj] at e; cases e
      | some j =>
      rw [hj] at e
      cases e
      unfold idxD at hj
      split at hj
      · rename_i hf
        rw [Bool.and_eq_true] at hf
        refine ha.ok x e1 fun v S1 H1 g1 r1 => ?_
        obtain ⟨p, vs, rfl, hp, q⟩ := r1.lst_inv g1.sub
        refine ⟨.inl ⟨rfl, _, SqL.of hp⟩, hb.ok (x.gr g1) e2 fun u S2 H2 g2 r2 => ?_⟩
        have ru : Rep K S2 u y := by cases r2 with | rep r => exact r | _ => cases hf.1
        have q2 := q.up g2.ss
        obtain ⟨hlt, hj1, hj2⟩ := List.findIdx?_eq_some_iff_getElem.mp hj
        obtain ⟨z, hz, rz⟩ := q2.get (i := j) (d := xs[j]) (List.getElem?_eq_getElem hlt)
        have fl : ∀ d ∈ xs, flatD d = true := fun d hd => List.all_eq_true.mp hf.2 d hd
        refine ⟨p, vs, u, j, z, rfl, rfl, g2.hh.seq (SqL.of hp), flat_rep ru hf.1, flats_rep q2 hf.2, hz, ?_, fun m z' hm hz' => ?_, k _ S2 H2 [] (.sh (g1.trans g2) (.int _))⟩
        · rw [eqF_rep rz ru (fl _ (List.getElem_mem hlt)) hf.1]; exact hj1
        · obtain ⟨d', hd', rd'⟩ := q2.getV hz'
          obtain ⟨hm', hm''⟩ := List.getElem?_eq_some_iff.mp hd'
          rw [eqF_rep rd' ru (fl _ (List.mem_of_getElem? hd')) hf.1, ← hm'']
          have := hj2 m hm
          simpa using this
      · cases hj
    · cases e
  ex := fun {env σ S H Q w} x e k => by
    rcases Res.of_ex e with e1 | ⟨d, e1, e⟩
    · exact ha.ex x e1 k
    · split at e
      · rename_i xs
        refine ha.ok x e1 fun v S1 H1 g1 r1 => ?_
        obtain ⟨p, vs, rfl, hp, q⟩ := r1.lst_inv g1.sub
        refine ⟨.inl ⟨rfl, _, SqL.of hp⟩, ?_⟩
        rcases Res.of_ex e with e2 | ⟨y, e2, e⟩
        · exact hb.ex (x.gr g1) e2 fun c d H' s q => k c d H' (g1.hh.trans s) q
        · split at e <;> cases e
      · cases e
end
end Ly

set_option Elab.async false
set_option linter.all false
set_option maxRecDepth 100000
set_option maxHeartbeats 1000000
/-! LyL4: min, max of numbers or of texts, with default= or without; sorted of alike data. -/
namespace Ly
open PySem L2 PyProof.Rows
def bestP (gt : Bool) (x : PyData) (xs : List PyData) : PyData := if gt then PySem.W.maxD x xs else PySem.W.minD x xs
def scalV : PyData → Option V
  | .int i => some (.int i)
  | .str z => some (.str z)
  | .bool b => some (.bl b)
  | _ => none
theorem reads_scal {h : Heap} {v : Value} {d : PyData} {as : List Addr} {z : V} (r : Reads h v d as) (e : scalV d = some z) : RelV z v := by
  cases r <;> first | cases e | skip
  · rfl
  · exact ⟨_, rfl⟩
  · exact ⟨_, rfl⟩
/-- min (gt: max) of a list of data -/
def rMM (K : PySem.W.Frag) (gt : Bool) : List V → Hp → VK → Prop := fun vs H Q => ∃ (a : Addr) (us : List V) (x : PyData) (xs : List PyData) (z : V), vs = [.ref a] ∧ SqL K H a us ∧ DpAll K H us (x :: xs) ∧ PySem.W.AlikeAll (x :: xs) ∧ PyData.depthAll (x :: xs) ≤ 60 ∧ scalV (bestP gt x xs) = some z ∧ Q z H
def rMMD (K : PySem.W.Frag) (gt : Bool) : List V → List V → Hp → VK → Prop := fun vs zs H Q => ∃ (a : Addr) (us : List V) (ds : List PyData) (d0 : V), vs = [.ref a] ∧ zs = [d0] ∧ SqL K H a us ∧ DpAll K H us ds ∧ PySem.W.AlikeAll ds ∧ PyData.depthAll ds ≤ 60 ∧ (ds = [] → Q d0 H) ∧ ∀ x xs, ds = x :: xs → ∃ z, scalV (bestP gt x xs) = some z ∧ Q z H
section
variable {X : Cx}
theorem cr_minS (hc : X.calm = true) (hu : X.A.units + 65 < cLine) : CallR X (.builtin "min") (rMM X.K false) := by
  intro pins s σ H vs us Q I r h
  obtain ⟨a, ws, x, xs, z, rfl, hs, hd, ha, hdp, hz, q⟩ := h
  obtain ⟨its, rv, hl, _⟩ := I.list hs
  rw [Vals.ref1 r]
  obtain ⟨as, hr⟩ := Dp.readsAll I _ _ _ hd rv
  exact PySem.W.min_list_data (I.ok.hd hc) hl.isList hr ha (by omega) fun i v h' tk bs hi hR hk => ⟨z, H, I.kept hk, reads_scal hR hz, q⟩
theorem cr_maxS (hc : X.calm = true) (hu : X.A.units + 65 < cLine) : CallR X (.builtin "max") (rMM X.K true) := by
  intro pins s σ H vs us Q I r h
  obtain ⟨a, ws, x, xs, z, rfl, hs, hd, ha, hdp, hz, q⟩ := h
  obtain ⟨its, rv, hl, _⟩ := I.list hs
  rw [Vals.ref1 r]
  obtain ⟨as, hr⟩ := Dp.readsAll I _ _ _ hd rv
  exact PySem.W.max_list_data (I.ok.hd hc) hl.isList hr ha (by omega) fun i v h' tk bs hi hR hk => ⟨z, H, I.kept hk, reads_scal hR hz, q⟩
theorem crk_min (hc : X.calm = true) (hu : X.A.units + 65 < cLine) : CallRK X (.builtin "min") [Str.ofString "default"] (rMMD X.K false) := by
  intro pins s σ H vs zs us ws Q I r rz h
  obtain ⟨a, wv, ds, d0, rfl, rfl, hs, hd, ha, hdp, q0, q1⟩ := h
  obtain ⟨its, rv, hl, _⟩ := I.list hs
  obtain ⟨w0, rfl, e0⟩ := vals1 rz
  rw [Vals.ref1 r]
  obtain ⟨as, hr⟩ := Dp.readsAll I _ _ _ hd rv
  refine PySem.W.min_list_default (I.ok.hd hc) hl.isList hr ha (by omega) (fun e h' tk hk => ⟨d0, H, I.kept hk, e0, q0 e⟩) fun y ys i v h' tk bs e hi hR hk => ?_
  obtain ⟨z, hz, q⟩ := q1 y ys e
  exact ⟨z, H, I.kept hk, reads_scal hR hz, q⟩
theorem crk_max (hc : X.calm = true) (hu : X.A.units + 65 < cLine) : CallRK X (.builtin "max") [Str.ofString "default"] (rMMD X.K true) := by
  intro pins s σ H vs zs us ws Q I r rz h
  obtain ⟨a, wv, ds, d0, rfl, rfl, hs, hd, ha, hdp, q0, q1⟩ := h
  obtain ⟨its, rv, hl, _⟩ := I.list hs
  obtain ⟨w0, rfl, e0⟩ := vals1 rz
  rw [Vals.ref1 r]
  obtain ⟨as, hr⟩ := Dp.readsAll I _ _ _ hd rv
  refine PySem.W.max_list_default (I.ok.hd hc) hl.isList hr ha (by omega) (fun e h' tk hk => ⟨d0, H, I.kept hk, e0, q0 e⟩) fun y ys i v h' tk bs e hi hR hk => ?_
  obtain ⟨z, hz, q⟩ := q1 y ys e
  exact ⟨z, H, I.kept hk, reads_scal hR hz, q⟩
end
section
variable {K : PySem.W.Frag} {E : XK}
/-! mirrors -/
def bestI (gt : Bool) (n : Int) (ns : List Int) : Int := if gt then ns.foldl max n else ns.foldl min n
def bestZ (gt : Bool) (z : Str) (zs : List Str) : Str := zs.foldl (fun a y => if (if gt then strLt a y else strLt y a) = true then y else a) z
def bestB (gt : Bool) (b : Bool) (bs : List Bool) : Bool := bs.foldl (fun a y => if gt then a || y else a && y) b
def boolsD : List D → Option (List Bool)
  | [] => some []
  | .bl b :: r => (boolsD r).map fun bs => b :: bs
  | _ => none
/-- none: no numbers, texts nor truths; some none: nothing -/
def bestL (gt : Bool) (xs : List D) : Option (Option D) := match intsD xs with
  | some [] => some none
  | some (n :: ns) => some (some (.int (bestI gt n ns)))
  | none => match strsD xs with
    | some (z :: zs) => some (some (.str (bestZ gt z zs)))
    | _ => match boolsD xs with
      | some (b :: bs) => some (some (.bl (bestB gt b bs)))
      | _ => none
theorem bestP_bools (gt : Bool) : ∀ (bs : List Bool) (b : Bool), bestP gt (.bool b) (bs.map .bool) = .bool (bestB gt b bs) := by
  intro bs
  induction bs with
  | nil => intro z; cases gt <;> rfl
  | cons y r ih =>
    intro z
    have h : ∀ a b : Bool, PySem.W.dataLt (.bool a) (.bool b) = (!a && b) := by decide +kernel
    have e : bestP gt (.bool z) ((y :: r).map .bool) = bestP gt (.bool (if gt then z || y else z && y)) (r.map .bool) := by
      unfold bestP
      cases gt with
      | true =>
        show PySem.W.maxD (.bool z) (.bool y :: r.map .bool) = PySem.W.maxD _ _
        unfold PySem.W.maxD
        rw [List.foldl_cons, h]
        cases z <;> cases y <;> rfl
      | false =>
        show PySem.W.minD (.bool z) (.bool y :: r.map .bool) = PySem.W.minD _ _
        unfold PySem.W.minD
        rw [List.foldl_cons, h]
        cases z <;> cases y <;> rfl
    rw [e, ih]
    rfl
theorem boolsD_rep {S : Hp} : ∀ {vs : List V} {ds : List D} {bs : List Bool}, Reps K S vs ds → boolsD ds = some bs → vs = bs.map V.bl
  | _, _, _, .nil, h => by cases h; rfl
  | _, _, bs, .cons (d := d) r t, h => by
    cases d <;> try (cases h; done)
    rename_i b
    unfold boolsD at h
    obtain ⟨cs, h1, rfl⟩ := Option.map_eq_some_iff.mp h
    cases r
    rw [boolsD_rep t h1]
    rfl
theorem bestP_ints (gt : Bool) (n : Int) (ns : List Int) : bestP gt (.int n) (ns.map .int) = .int (bestI gt n ns) := by
  unfold bestP bestI
  cases gt with
  | true => exact PySem.W.maxD_ints n ns
  | false => exact PySem.W.minD_ints n ns
theorem bestP_strs (gt : Bool) : ∀ (zs : List Str) (z : Str), bestP gt (.str z) (zs.map .str) = .str (bestZ gt z zs) := by
  intro zs
  induction zs with
  | nil => intro z; cases gt <;> rfl
  | cons y r ih =>
    intro z
    have e : bestP gt (.str z) ((y :: r).map .str) = bestP gt (if (if gt then strLt z y else strLt y z) = true then .str y else .str z) (r.map .str) := by
      unfold bestP strLt
      cases gt with
      | true =>
        show PySem.W.maxD (.str z) (.str y :: r.map .str) = PySem.W.maxD _ _
        unfold PySem.W.maxD
        rw [List.foldl_cons, PySem.W.dataLt_str]
        rfl
      | false =>
        show PySem.W.minD (.str z) (.str y :: r.map .str) = PySem.W.minD _ _
        unfold PySem.W.minD
        rw [List.foldl_cons, PySem.W.dataLt_str]
        rfl
    rw [e]
    have e2 : bestZ gt z (y :: r) = bestZ gt (if (if gt then strLt z y else strLt y z) = true then y else z) r := rfl
    rw [e2, ← ih]
    congr 1
    cases (if gt then strLt z y else strLt y z) <;> rfl
theorem DpAll.strs {H : Hp} : ∀ zs : List Str, DpAll K H (zs.map V.str) (zs.map PyData.str)
  | [] => .nil
  | z :: zs => .cons (.str z) (DpAll.strs zs)
theorem DpAll.bools {H : Hp} : ∀ zs : List Bool, DpAll K H (zs.map V.bl) (zs.map PyData.bool)
  | [] => .nil
  | z :: zs => .cons (.bl z) (DpAll.bools zs)
theorem alike_bools (ns : List Bool) : PySem.W.AlikeAll (ns.map PyData.bool) := by
  refine ⟨fun x hx y hy => ?_, fun x hx => ?_⟩
  · obtain ⟨a, _, rfl⟩ := List.mem_map.mp hx
    obtain ⟨b, _, rfl⟩ := List.mem_map.mp hy
    simp [PySem.W.alike]
  · obtain ⟨a, _, rfl⟩ := List.mem_map.mp hx
    exact fun z => by cases z
theorem depth_bools : ∀ ns : List Bool, PyData.depthAll (ns.map PyData.bool) = 0
  | [] => rfl
  | n :: ns => by rw [List.map_cons, PyData.depthAll, depth_bools ns]; rfl
theorem alike_ints (ns : List Int) : PySem.W.AlikeAll (ns.map PyData.int) := by
  refine ⟨fun x hx y hy => ?_, fun x hx => ?_⟩
  · obtain ⟨a, _, rfl⟩ := List.mem_map.mp hx
    obtain ⟨b, _, rfl⟩ := List.mem_map.mp hy
    simp [PySem.W.alike]
  · obtain ⟨a, _, rfl⟩ := List.mem_map.mp hx
    exact fun z => by cases z
theorem alike_strs (ns : List Str) : PySem.W.AlikeAll (ns.map PyData.str) := by
  refine ⟨fun x hx y hy => ?_, fun x hx => ?_⟩
  · obtain ⟨a, _, rfl⟩ := List.mem_map.mp hx
    obtain ⟨b, _, rfl⟩ := List.mem_map.mp hy
    simp [PySem.W.alike]
  · obtain ⟨a, _, rfl⟩ := List.mem_map.mp hx
    exact fun z => by cases z
theorem depth_ints : ∀ ns : List Int, PyData.depthAll (ns.map PyData.int) = 0
  | [] => rfl
  | n :: ns => by rw [List.map_cons, PyData.depthAll, depth_ints ns]; rfl
theorem depth_strs : ∀ ns : List Str, PyData.depthAll (ns.map PyData.str) = 0
  | [] => rfl
  | n :: ns => by rw [List.map_cons, PyData.depthAll, depth_strs ns]; rfl
def mmD (gt : Bool) : List D → Res W
  | [.lst xs] => match bestL gt xs with
    | some (some d) => .ok (.sh d)
    | _ => .st
  | _ => .st
theorem bestL_ok {gt : Bool} {S H : Hp} {p : Addr} {us : List V} {xs : List D} {o : Option D} (hp : H p = some (.lst us)) (q : Reps K S us xs) (h : bestL gt xs = some o) : ∃ ds : List PyData, DpAll K H us ds ∧ PySem.W.AlikeAll ds ∧ PyData.depthAll ds ≤ 60 ∧
    (ds = [] ↔ o = none) ∧ ∀ x r, ds = x :: r → ∃ z d, o = some d ∧ scalV (bestP gt x r) = some z ∧ ∀ S, Rep K S z d := by
  unfold bestL at h
  split at h
  · rename_i hn
    cases h
    have := intsD_rep q hn
    subst this
    exact ⟨[], .nil, alike_ints [], Nat.zero_le _, ⟨fun _ => rfl, fun _ => rfl⟩, fun x r e => by cases e⟩
  · rename_i n ns hn
    cases h
    have := intsD_rep q hn
    subst this
    refine ⟨(n :: ns).map .int, DpAll.ints _, alike_ints _, by rw [depth_ints]; exact Nat.zero_le _, ⟨fun e => (by cases e), fun e => (by cases e)⟩, fun x r e => ?_⟩
    rw [List.map_cons] at e
    cases e
    exact ⟨.int (bestI gt n ns), _, rfl, by rw [bestP_ints]; rfl, fun S => .int _⟩
  · split at h
    · rename_i z zs hz
      cases h
      have := strsD_rep q hz
      subst this
      refine ⟨(z :: zs).map .str, DpAll.strs _, alike_strs _, by rw [depth_strs]; exact Nat.zero_le _, ⟨fun e => (by cases e), fun e => (by cases e)⟩, fun x r e => ?_⟩
      rw [List.map_cons] at e
      cases e
      exact ⟨.str (bestZ gt z zs), _, rfl, by rw [bestP_strs]; rfl, fun S => .str _⟩
    · split at h <;> first | cases h | skip
      rename_i z zs hz
      have := boolsD_rep q hz
      subst this
      refine ⟨(z :: zs).map .bool, DpAll.bools _, alike_bools _, by rw [depth_bools]; exact Nat.zero_le _, ⟨fun e => (by cases e), fun e => (by cases e)⟩, fun x r e => ?_⟩
      rw [List.map_cons] at e
      cases e
      exact ⟨.bl (bestB gt z zs), _, rfl, by rw [bestP_bools]; rfl, fun S => .bl _⟩
instance calV_mm {gt : Bool} : CalV K (rMM K gt) (mmD gt) where
  ok := fun {S H vs ds Q w} hs r h k => by
    unfold mmD at h
    split at h <;> first | cases h | skip
    rename_i xs
    obtain ⟨v, rfl, r1⟩ := views1 r
    obtain ⟨p, us, rfl, hp, q⟩ := r1.lst_inv hs
    split at h <;> first | cases h | skip
    rename_i d hb
    obtain ⟨ds, h1, h2, h3, h4, h5⟩ := bestL_ok hp q hb
    cases ds with
    | nil => cases h4.mp rfl
    | cons x r =>
      obtain ⟨z, d', e, hz, rz⟩ := h5 x r rfl
      cases e
      exact ⟨p, us, x, r, z, rfl, SqL.of hp, h1, h2, h3, hz, k z S H [] (.sh (.refl hs) (rz S))⟩
  ex := fun h => by
    unfold mmD at h
    repeat' split at h
    all_goals cases h
def mMMD (gt : Bool) (ma mx : En → Res D) : En → Res W := fun e => (ma e).bind fun a => match a with
  | .lst xs => (mx e).bind fun z => match bestL gt xs with
    | some (some d) => .ok (.sh d)
    | some none => .ok (.sh z)
    | none => .st
  | _ => .st
instance semE_mmd {gt : Bool} {ta tx : TE} {Fa Fx : List Nat} {ma : En → Res D} {mx : En → Res W} [ha : SemV K E ta Fa ma] [hx : SemE K E tx Fx mx] : SemE K E (tCKw (rMMD K gt) (tCons ta tNil) (tCons tx tNil)) (Fa ++ Fx) (mMMD gt ma (mD mx)) where
  ok := fun {env σ S H Q w} x e k => by
    obtain ⟨a, e1, e⟩ := Res.of_ok e
    split at e
    · rename_i xs
      obtain ⟨z, e2, e⟩ := Res.of_ok e
      refine ha.ok x e1 fun v S1 H1 g1 r1 => ?_
      refine hx.okD (x.gr g1) e2 fun u S2 H2 g2 r2 => ?_
      obtain ⟨p, us, rfl, hp, q⟩ := (r1.gr g2).lst_inv g2.sub
      cases hb : bestL gt xs with
      | none => rw [hb] at e; cases e
      | some o =>
        rw [hb] at e
        obtain ⟨ds, h1, h2, h3, h4, h5⟩ := bestL_ok hp q hb
        refine ⟨p, us, ds, u, rfl, rfl, SqL.of hp, h1, h2, h3, fun e0 => ?_, fun y r e0 => ?_⟩
        · have := h4.mp e0
          subst this
          cases e
          exact k u S2 H2 [] (.sh (g1.trans g2) r2)
        · obtain ⟨z', d', e', hz, rz⟩ := h5 y r e0
          subst e'
          cases e
          exact ⟨z', hz, k z' S2 H2 [] (.sh (g1.trans g2) (rz S2))⟩
    · cases e
  ex := fun {env σ S H Q w} x e k => by
    rcases Res.of_ex e with e1 | ⟨a, e1, e⟩
    · exact ha.ex x e1 k
    · split at e
      · rename_i xs
        refine ha.ok x e1 fun v S1 H1 g1 r1 => ?_
        rcases Res.of_ex e with e2 | ⟨z, e2, e⟩
        · exact hx.ex (x.gr g1) (Res.of_exm e2) fun c d H' s q => k c d H' (g1.hh.trans s) q
        · split at e <;> cases e
      · cases e
/-! ### sorted of alike tuples -/
def leDat (a b : D) : Bool := !PySem.W.dataLt (toP b) (toP a)
def isTupP : PyData → Bool
  | .tuple (_ :: _) => true
  | _ => false
def okSort (xs : List D) : Bool := xs.all fun a => shp a && isTupP (toP a) && decide ((toP a).depth ≤ 60) && xs.all fun b => PySem.W.alike (toP a) (toP b)
def rSortDat (K : PySem.W.Frag) : List V → Hp → VK → Prop := fun vs H Q => ∃ (a : Addr) (bs : List (V × PyData)), vs = [.ref a] ∧ SqL K H a (bs.map (·.1)) ∧ (∀ b ∈ bs, Dp K H b.1 b.2) ∧ PySem.W.AllAlike (bs.map (·.2)) ∧ PySem.W.Sortable (bs.map (·.2)) ∧ (∀ b ∈ bs, b.2.depth ≤ 60) ∧
  ∀ p, H p = none → Q (.ref p) (upd H p (.lst ((bs.mergeSort (PySem.W.dataLe false (·.2))).map (·.1))))
theorem vals_each : ∀ {bs : List (V × PyData)} {its : List Value}, Vals (bs.map (·.1)) its → PySem.W.EachIs (fun v (b : V × PyData) => RelV b.1 v) its bs
  | [], _, h => by cases h; exact .nil
  | b :: bs, _, h => by cases h with | cons r t => exact .cons r (vals_each t)
theorem each_vals : ∀ {bs : List (V × PyData)} {its : List Value}, PySem.W.EachIs (fun v (b : V × PyData) => RelV b.1 v) its bs → Vals (bs.map (·.1)) its
  | _, _, .nil => .nil
  | _, _, .cons r t => .cons r (each_vals t)
theorem cr_sortDat {X : Cx} (hu : X.A.units + 65 < cLine) : CallR X (.builtin "sorted") (rSortDat X.K) := by
  intro pins s σ H vs us Q I r h
  obtain ⟨a, bs, rfl, hs, hd, hal, hk, hdp, q⟩ := h
  obtain ⟨its, rv, hl, hz⟩ := I.list hs
  rw [Vals.ref1 r]
  have e := vals_each rv
  have er : PySem.W.EachIs (fun v (b : V × PyData) => ∃ as, Reads s.heap v b.2 as) its bs := by
    have : ∀ {bs : List (V × PyData)} {its : List Value}, PySem.W.EachIs (fun v (b : V × PyData) => RelV b.1 v) its bs → (∀ b ∈ bs, Dp X.K H b.1 b.2) → PySem.W.EachIs (fun v (b : V × PyData) => ∃ as, Reads s.heap v b.2 as) its bs := by
      intro bs its h
      induction h with
      | nil => intro _; exact .nil
      | cons r t ih => intro hb; exact .cons (Dp.reads I _ _ _ (hb _ List.mem_cons_self) r) (ih fun b hb' => hb b (List.mem_cons_of_mem _ hb'))
    exact this e hd
  have hlen : bs.length ≤ sizeLine := by rw [List.length_map] at hz; exact hz
  refine PySem.W.sorted_data (enc := fun b : V × PyData => b.2) hl.isList e er hal hk hlen (fun b hb => by have := hdp b hb; show X.A.units + 2 + b.2.depth < cLine; omega) fun out ho eo => ?_
  obtain ⟨ep, he'⟩ := PyProof.Rows.sortedAll_at s.heap its out.toArray
  have hlen2 : ((bs.mergeSort (PySem.W.dataLe false (·.2))).map (·.1)).length ≤ sizeLine := by rw [List.length_map, List.length_mergeSort]; exact hlen
  exact ⟨.ref _, upd H (s.heap.objs.size + 1) (.lst ((bs.mergeSort (PySem.W.dataLe false (·.2))).map (·.1))), I.laid (t' := s.toks) (fun _ _ => PyProof.Rows.sortedAll_old) (Nat.le_succ _) ⟨hlen2, out, ep, each_vals eo, he'⟩, rfl, q _ (I.hok.fresh (Nat.le_succ _))⟩
theorem reps_zip {S : Hp} : ∀ {vs : List V} {ds : List D}, Reps K S vs ds → ∀ b ∈ vs.zip ds, Rep K S b.1 b.2
  | _, _, .nil, b, h => by cases h
  | _, _, .cons r t, b, h => by
    rw [List.zip_cons_cons] at h
    rcases List.mem_cons.mp h with rfl | h
    · exact r
    · exact reps_zip t b h
theorem reps_of_zip {S : Hp} : ∀ (zs : List (V × D)), (∀ b ∈ zs, Rep K S b.1 b.2) → Reps K S (zs.map (·.1)) (zs.map (·.2))
  | [], _ => .nil
  | z :: zs, h => .cons (h z List.mem_cons_self) (reps_of_zip zs fun b hb => h b (List.mem_cons_of_mem _ hb))
theorem zip_fst {α β : Type} : ∀ {xs : List α} {ys : List β}, xs.length = ys.length → (xs.zip ys).map (·.1) = xs
  | [], [], _ => rfl
  | x :: xs, y :: ys, h => by rw [List.zip_cons_cons, List.map_cons, zip_fst (by simpa using h)]
theorem zip_snd {α β : Type} : ∀ {xs : List α} {ys : List β}, xs.length = ys.length → (xs.zip ys).map (·.2) = ys
  | [], [], _ => rfl
  | x :: xs, y :: ys, h => by rw [List.zip_cons_cons, List.map_cons, zip_snd (by simpa using h)]
/-- sorted: of numbers, texts, a dict's keys; else of alike tuples -/
def rSortW (K : PySem.W.Frag) : List V → Hp → VK → Prop := fun xs H Q => rSortU K xs H Q ∨ rSortDat K xs H Q
theorem call_sortW {X : Cx} (K : PySem.W.Frag) (hK : X.K = K) (h : CallR X (.builtin "sorted") (rSortU X.K)) (hu : X.A.units + 65 < cLine) : CallR X (.builtin "sorted") (rSortW K) := by
  subst hK
  exact CallR.or h (cr_sortDat hu)
def sortW : List D → Res W
  | [.lst xs] => match sortD [.lst xs] with
    | .ok w => .ok w
    | _ => if okSort xs then .ok (.lst (xs.mergeSort leDat)) else .st
  | xs => sortD xs
instance calV_sortW : CalV K (rSortW K) sortW where
  ok := fun {S H vs ds Q w} hs r h k => by
    unfold sortW at h
    split at h
    · rename_i xs
      split at h
      · rename_i w' hw
        cases h
        exact .inl (calV_sort.ok hs r hw k)
      · split at h <;> first | cases h | skip
        rename_i hok
        obtain ⟨v, rfl, r1⟩ := views1 r
        obtain ⟨p, us, rfl, hp, q⟩ := r1.lst_inv hs
        have hall : ∀ a ∈ xs, shp a = true ∧ isTupP (toP a) = true ∧ (toP a).depth ≤ 60 ∧ ∀ b ∈ xs, PySem.W.alike (toP a) (toP b) = true := fun a ha => by
          have := List.all_eq_true.mp hok a ha
          simp only [Bool.and_eq_true] at this
          exact ⟨this.1.1.1, this.1.1.2, of_decide_eq_true this.1.2, fun b hb => List.all_eq_true.mp this.2 b hb⟩
        have ql := q.len
        have hmem : ∀ b ∈ us.zip xs, Rep K S b.1 b.2 ∧ b.2 ∈ xs := fun b hb => ⟨reps_zip q b hb, (List.of_mem_zip hb).2⟩
        refine .inr ⟨p, (us.zip xs).map fun b => (b.1, toP b.2), rfl, ?_, fun b hb => ?_, fun d hd d' hd' => ?_, .inl fun d hd => ?_, fun b hb => ?_, fun l hl => ?_⟩
        · rw [List.map_map, show ((fun x : V × PyData => x.1) ∘ fun b : V × D => (b.1, toP b.2)) = (·.1) from rfl, zip_fst ql]
          exact SqL.of hp
        · obtain ⟨c, hc, rfl⟩ := List.mem_map.mp hb
          obtain ⟨h1, h2⟩ := hmem c hc
          exact (h1.up hs).dpS (hall _ h2).1
        · obtain ⟨b, hb, rfl⟩ := List.mem_map.mp hd
          obtain ⟨b', hb', rfl⟩ := List.mem_map.mp hd'
          obtain ⟨c, hc, rfl⟩ := List.mem_map.mp hb
          obtain ⟨c', hc', rfl⟩ := List.mem_map.mp hb'
          exact (hall _ (hmem c hc).2).2.2.2 _ (hmem c' hc').2
        · obtain ⟨b, hb, rfl⟩ := List.mem_map.mp hd
          obtain ⟨c, hc, rfl⟩ := List.mem_map.mp hb
          have := (hall _ (hmem c hc).2).2.1
          show ∃ x r, toP c.2 = .tuple (x :: r)
          unfold isTupP at this
          split at this
          · rename_i y r e; exact ⟨_, _, e⟩
          · cases this
        · obtain ⟨c, hc, rfl⟩ := List.mem_map.mp hb
          exact (hall _ (hmem c hc).2).2.2.1
        · have e1 : (((us.zip xs).map fun b => (b.1, toP b.2)).mergeSort (PySem.W.dataLe false (·.2))) = ((us.zip xs).mergeSort fun a b => leDat a.2 b.2).map fun b => (b.1, toP b.2) := by
            rw [List.map_mergeSort (s := PySem.W.dataLe false (·.2))]
            intro a _ b _
            rfl
          rw [e1, List.map_map]
          have e2 : (((us.zip xs).mergeSort fun a b => leDat a.2 b.2).map (·.2)) = xs.mergeSort leDat := by
            rw [List.map_mergeSort (s := leDat) (fun a _ b _ => rfl), zip_snd ql]
          have hr := reps_of_zip ((us.zip xs).mergeSort fun a b => leDat a.2 b.2) fun b hb => (hmem b ((List.mergeSort_perm _ _).mem_iff.mp hb)).1
          rw [e2] at hr
          exact k _ S _ _ (.lst (.refl hs) (hs.free hl) hl hr)
    · exact .inl (calV_sort.ok hs r h k)
  ex := fun h => by
    unfold sortW at h
    split at h
    · split at h
      · cases h
      · split at h <;> cases h
    · exact (calV_sort (K := K)).ex h
end
end Ly

set_option Elab.async false
set_option linter.all false
set_option maxRecDepth 100000
namespace Ly
open PySem L2 PyProof.Rows
section
variable {K : PySem.W.Frag} {E : XK} {Mu : List Nat}
/-! x = [.. for .. in d] -/
theorem lock_set {t : TE} {i : Nat} {D : Ends} {σ : L2.St} {H : Hp} (h : tAsg (tLockOE t) (gName i) D σ H) : tLockO (tAsg t (gName i)) D σ H := by
  rcases h with h | ⟨d, u, h1, h2, h3⟩
  · exact .inl h
  · exact .inr ⟨d, u, h1, h2, fun od => h3 od⟩
instance semS_lockSet {t : TE} {i : Nat} {m : En → Res Fl} [h : SemS K Mu E (tAsg (tLockOE t) (gName i)) m] : SemS K Mu E (tLockO (tAsg t (gName i))) m where
  run := fun hm x p => lock_set (h.run hm x p)
end
end Ly

set_option Elab.async false
set_option linter.all false
set_option maxRecDepth 100000
/-! LyM: a, b = x, y of two names; sum of whole numbers. -/
namespace Ly
open PySem L2 PyProof.Rows
section
variable {K : PySem.W.Frag} {Mu : List Nat} {E : XK}
def mPar (Mu F : List Nat) (i j : Nat) (ma : En → Res (List D)) : En → Res Fl := fun env => if free0 Mu i && free0 Mu j then (ma (fz F env)).bind fun ds => match ds with
  | [a, b] => .ok (.nx (((fz F env).set i (some (.sh a))).set j (some (.sh b))))
  | _ => .st
  else .st
instance semS_par {i j : Nat} {t : TA} {F : List Nat} {ma : En → Res (List D)} [h : SemA K E t F ma] : SemS K Mu E (tPar i j t) (mPar Mu F i j ma) where
  run := fun {f B S0 D env σ S H} hm x p => by
    obtain ⟨S1, x1, s1⟩ := x.fz F
    unfold mPar at p
    split at p
    case isFalse => exact p.elim
    rename_i hi
    rw [← hm, Bool.and_eq_true] at hi
    cases e : ma (fz F env) with
    | ex z => rw [e] at p; exact h.ex x1.vw e (xr_up x1.base p)
    | st => rw [e] at p; exact p.elim
    | ok ds =>
      rw [e] at p
      refine h.ok x1.vw e fun vs S' H' g r => ?_
      simp only [Res.bind_ok] at p
      split at p
      · rename_i a b
        cases r with
        | cons r1 r2 =>
          cases r2 with
          | cons r3 r4 =>
            cases r4
            have x2 := x1.gr g
            have x3 := x2.set (.sh (.refl x2.sub) r1) i hi.1
            exact ⟨_, _, rfl, p _ _ _ (x3.set (.sh (.refl x3.sub) r3) j hi.2) (s1.trans g.ss)⟩
      · exact p.elim
def sumD : List D → Res W
  | [.lst xs] => match intsD xs with
    | some ns => .ok (.sh (.int ns.sum))
    | none => .st
  | _ => .st
theorem call_sumU {X : Cx} (hc : X.calm = true) : CallR X (.builtin "sum") (rSum X.K) := cr_sum hc
instance calV_sum : CalV K (rSum K) sumD where
  ok := fun {S H vs ds Q w} hs r h k => by
    unfold sumD at h
    split at h <;> first | cases h | skip
    rename_i xs
    split at h <;> first | cases h | skip
    rename_i ns hn
    obtain ⟨v, rfl, r1⟩ := views1 r
    obtain ⟨p, us, rfl, hp, q⟩ := r1.lst_inv hs
    have := intsD_rep q hn
    subst this
    exact ⟨p, ns, rfl, SqL.of hp, k _ S H [] (.sh (.refl hs) (.int _))⟩
  ex := fun h => by
    unfold sumD at h
    repeat' split at h
    all_goals cases h
end
end Ly

set_option Elab.async false
set_option linter.all false
set_option maxRecDepth 100000
/-! LyN: x = l.pop(i), a, b = l.pop(i), l.pop(i) and l.pop() as statements; d.pop(k) as a statement; l[i] = e of a list. -/
namespace Ly
open PySem L2 PyProof.Rows
section
variable {K : PySem.W.Frag} {Mu : List Nat} {E : XK}
theorem Reps.erase {S : Hp} : ∀ {vs : List V} {ds : List D} (k : Nat), Reps K S vs ds → Reps K S (vs.eraseIdx k) (ds.eraseIdx k)
  | _, _, _, .nil => .nil
  | _, _, 0, .cons _ t => t
  | _, _, k + 1, .cons r t => .cons r (t.erase k)
theorem Reps.setAt {S : Hp} {v : V} {d : D} (rv : Rep K S v d) : ∀ {vs : List V} {ds : List D} (k : Nat), Reps K S vs ds → Reps K S (vs.set k v) (ds.set k d)
  | _, _, _, .nil => .nil
  | _, _, 0, .cons _ t => .cons rv t
  | _, _, k + 1, .cons r t => .cons r (Reps.setAt rv k t)
/-- what pop takes: the item, and what is left -/
def popD (xs : List D) (n : Int) : Option (D × List D) := if -(2 ^ 63) ≤ n ∧ n < 2 ^ 63 then (seqIndex? n xs.length).bind fun k => (xs[k]?).map fun d => (d, xs.eraseIdx k) else none
def mPopTo (Mu ts F : List Nat) (i : Nat) (ma : En → Res (List D)) (mg : D → En → Res En) : En → Res Fl := fun env => if ts.all (free0 Mu) then match (fz F env)[i]? with
  | some (some (.lst xs)) => (ma (fz F env)).bind fun ds => match ds with
    | [.int n] => match popD xs n with
      | some (d, ys) => (mg d ((fz F env).set i (some (.lst ys)))).map .nx
      | none => .st
    | _ => .st
  | _ => .st
  else .st
theorem pop_ok {f : Fm} {B S0 S H : Hp} {env : En} {σ : L2.St} {i : Nat} {xs ys : List D} {d : D} {n : Int} {t : TA} {F : List Nat} {ma : En → Res (List D)} [h : SemA K E t F ma] (x1 : StOk K f B S0 env σ S H) (e : env[i]? = some (some (.lst xs))) (ea : ma env = .ok [.int n]) (hp : popD xs n = some (d, ys)) {Q : VK}
    (q : ∀ v S' H', Same S S' → Rep K S' v d → StOk K f B S0 (env.set i (some (.lst ys))) σ S' H' → Q v H') : tBM K "list" rPopAt (tVar i) t σ H Q := by
  obtain ⟨v, fp, a, b, c⟩ := x1.vw.at_ i _ e
  cases b with
  | lst hl hr =>
    refine ⟨_, a, .inl ⟨rfl, _, SqL.of hl⟩, ?_⟩
    refine h.ok x1.vw ea fun vs S2 H2 g r => ?_
    cases r with
    | cons r1 r2 =>
      cases r2
      cases r1
      unfold popD at hp
      split at hp
      · rename_i hn
        obtain ⟨k, hk, hp⟩ := Option.bind_eq_some_iff.mp hp
        obtain ⟨d', hd, e2⟩ := Option.map_eq_some_iff.mp hp
        cases e2
        obtain ⟨u, hu, ru⟩ := (hr.up g.ss).get hd
        have x2 := x1.gr g
        refine ⟨_, _, _, k, u, rfl, rfl, g.hh _ _ hl, hn.1, hn.2, by rw [hr.len]; exact hk, hu, ?_⟩
        refine q u _ _ g.ss ru (x2.mut e (fun fq o => ?_) a (.lst upd_same ((hr.up g.ss).erase k)))
        cases o; rfl
      · cases hp
instance semS_popName {i j : Nat} {t : TA} {F : List Nat} {ma : En → Res (List D)} [h : SemA K E t F ma] : SemS K Mu E (tAsg (tBM K "list" rPopAt (tVar i) t) (gName j)) (mPopTo Mu [j] F i ma (mName j)) where
  run := fun {f B S0 D env σ S H} hm x p => by
    obtain ⟨S1, x1, s1⟩ := x.fz F
    unfold mPopTo at p
    split at p
    case isFalse => exact p.elim
    rename_i hi
    rw [← hm] at hi
    split at p
    · rename_i xs e
      cases ea : ma (fz F env) with
      | ex z =>
        rw [ea] at p
        obtain ⟨v, fp, a, b, c⟩ := x1.vw.at_ i _ e
        cases b with
        | lst hl hr => exact ⟨_, a, .inl ⟨rfl, _, SqL.of hl⟩, h.ex x1.vw ea (xr_up x1.base p)⟩
      | st => rw [ea] at p; exact p.elim
      | ok ds =>
        rw [ea] at p
        simp only [Res.bind_ok] at p
        split at p
        · rename_i n
          split at p
          · rename_i d ys hp
            refine pop_ok (h := h) x1 e ea hp fun v S' H' ss rv x' => ?_
            exact semG_name.run (K := K) hi x' rv rfl fun σ' y => p _ _ _ y (s1.trans ss)
          · exact p.elim
        · exact p.elim
    · exact p.elim
instance semS_popTup {i n : Nat} {gs : TGs} {ts : List Nat} {t : TA} {F : List Nat} {ma : En → Res (List D)} {mg : D → En → Res En} [h : SemA K E t F ma] [hg : SemG K (gTup K n gs) ts mg] : SemS K Mu E (tAsg (tBM K "list" rPopAt (tVar i) t) (gTup K n gs)) (mPopTo Mu ts F i ma mg) where
  run := fun {f B S0 D env σ S H} hm x p => by
    obtain ⟨S1, x1, s1⟩ := x.fz F
    unfold mPopTo at p
    split at p
    case isFalse => exact p.elim
    rename_i hi
    rw [← hm] at hi
    split at p
    · rename_i xs e
      cases ea : ma (fz F env) with
      | ex z =>
        rw [ea] at p
        obtain ⟨v, fp, a, b, c⟩ := x1.vw.at_ i _ e
        cases b with
        | lst hl hr => exact ⟨_, a, .inl ⟨rfl, _, SqL.of hl⟩, h.ex x1.vw ea (xr_up x1.base p)⟩
      | st => rw [ea] at p; exact p.elim
      | ok ds =>
        rw [ea] at p
        simp only [Res.bind_ok] at p
        split at p
        · rename_i n
          split at p
          · rename_i d ys hp
            refine pop_ok (h := h) x1 e ea hp fun v S' H' ss rv x' => ?_
            cases eg : mg d ((fz F env).set i (some (.lst ys))) with
            | ex z => exact (hg.ex eg).elim
            | st => rw [eg] at p; exact p.elim
            | ok e2 =>
              rw [eg] at p
              exact hg.run hi x' rv eg fun σ' y => p _ _ _ y (s1.trans ss)
          · exact p.elim
        · exact p.elim
    · exact p.elim
/-! d.pop(k), dropped -/
def dropKs (ks : List Key) (k : Key) : List Key := ks.filter fun c => decide (c ≠ k)
def dropXs {α : Type} : List Key → List α → Key → List α
  | c :: ks, x :: xs, k => if c = k then dropXs ks xs k else x :: dropXs ks xs k
  | _, _, _ => []
theorem drop_zip (k : Key) : ∀ (ks : List Key) (vs : List V), vs.length = ks.length → dropK (ks.zip vs) k = (dropKs ks k).zip (dropXs ks vs k)
  | [], [], _ => rfl
  | c :: ks, v :: vs, h => by
    have ih := drop_zip k ks vs (by simpa using h)
    unfold dropK dropKs at ih ⊢
    rw [List.zip_cons_cons, List.filter_cons, List.filter_cons]
    unfold dropXs
    by_cases e : c = k
    · simp only [e, ne_eq, not_true_eq_false, decide_false, Bool.false_eq_true, if_false, if_true]
      exact ih
    · simp only [e, ne_eq, not_false_eq_true, decide_true, if_true, if_false]
      rw [ih, List.zip_cons_cons]
theorem drop_len (k : Key) : ∀ (ks : List Key) (vs : List V), vs.length = ks.length → (dropXs ks vs k).length = (dropKs ks k).length
  | [], [], _ => rfl
  | c :: ks, v :: vs, h => by
    have ih := drop_len k ks vs (by simpa using h)
    unfold dropKs at ih ⊢
    rw [List.filter_cons]
    unfold dropXs
    by_cases e : c = k
    · simp only [e, ne_eq, not_true_eq_false, decide_false, Bool.false_eq_true, if_false, if_true]
      exact ih
    · simp only [e, ne_eq, not_false_eq_true, decide_true, if_true, if_false]
      rw [List.length_cons, List.length_cons, ih]
theorem drop_rep {S : Hp} (k : Key) : ∀ (ks : List Key) (vs : List V) (xs : List D), Reps K S vs xs → Reps K S (dropXs ks vs k) (dropXs ks xs k)
  | [], _, _, _ => by unfold dropXs; exact .nil
  | c :: ks, _, _, .nil => by unfold dropXs; exact .nil
  | c :: ks, _, _, .cons r t => by
    unfold dropXs
    split
    · exact drop_rep k ks _ _ t
    · exact .cons r (drop_rep k ks _ _ t)
def mDPop (F : List Nat) (i : Nat) (mk : En → Res D) : En → Res Fl := fun env => match (fz F env)[i]? with
  | some (some (.dic ks xs)) => (mk (fz F env)).bind fun d => match toK d with
    | some k => if (dlook ks xs k).isSome then .ok (.nx ((fz F env).set i (some (.dic (dropKs ks k) (dropXs ks xs k))))) else .st
    | none => .st
  | _ => .st
instance semS_dpop {i : Nat} {tk : TE} {F : List Nat} {mk : En → Res W} [hk : SemE K E tk F mk] : SemS K Mu E (tDrop (tDPop1 (tVar i) tk)) (mDPop F i (mD mk)) where
  run := fun {f B S0 D env σ S H} hm x p => by
    obtain ⟨S1, x1, s1⟩ := x.fz F
    unfold mDPop at p
    split at p
    · rename_i ks xs e
      obtain ⟨v, fp, a, b, c⟩ := x1.vw.at_ i _ e
      cases b with
      | dic hp hl hr =>
        refine ⟨_, a, _, rfl, .inl ⟨_, Rd.of hp⟩, ?_⟩
        cases ek : mD mk (fz F env) with
        | ex z => rw [ek] at p; exact hk.ex x1.vw (Res.of_exm ek) (xr_up x1.base p)
        | st => rw [ek] at p; exact p.elim
        | ok d =>
          rw [ek] at p
          simp only [Res.bind_ok] at p
          refine hk.okD x1.vw ek fun y S2 H2 g r => ?_
          split at p
          · rename_i k hkk
            split at p
            · rename_i hs
              rcases dlook_rep (k := k) (ks := ks) (hr.up g.ss) with ⟨h1, h2⟩ | ⟨v', d', h1, h2, h3⟩
              · rw [h2] at hs; cases hs
              · have x2 := x1.gr g
                refine ⟨_, k, v', g.hh _ _ hp, toK_rep r hkk, h1, ?_⟩
                rw [drop_zip k ks _ hl]
                refine p _ _ _ (x2.mut e (fun fq o => ?_) a (.dic upd_same (drop_len k ks _ hl) (drop_rep k ks _ _ (hr.up g.ss)))) (s1.trans g.ss)
                cases o; rfl
            · exact p.elim
          · exact p.elim
    · exact p.elim
end
end Ly

set_option Elab.async false
set_option linter.all false
set_option maxRecDepth 100000
/-! LyN2: max(d.values()), whole numbers. -/
namespace Ly
open PySem L2 PyProof.Rows
section
variable {X : Cx}
def tMaxVals (td : TE) : TE := fun σ H Q => td σ H fun x H1 => ∃ a kvs is, x = V.ref a ∧ Rd H1 a (.dK kvs) ∧ kvs.map (·.2) = is.map V.int ∧ is ≠ [] ∧ ∀ m, m ∈ is → (∀ j ∈ is, j ≤ m) → Q (.int m) H1
variable {o : Expr} {p pos apos mpos : Pos} {td : TE}
theorem pe_maxVals (hc : X.calm = true) (hg : Gl X "max") (hm : X.mg "max" = none) (hd : PE X o td) (hbase : attributeBase o "values" X.env (eval o X.env) = eval o X.env := by rfl) (hline : (apos.endLine == mpos.line) = true := by rfl)
    (hse : starEach [Expr.Call (.Attribute o "values" apos) [] [] mpos] X.env = [(false, eval (Expr.Call (.Attribute o "values" apos) [] [] mpos) X.env)] := by rfl) :
    PE X (.Call (.Name "max" p) [.Call (.Attribute o "values" apos) [] [] mpos] [] pos) (tMaxVals td) := by
  refine ⟨fun pins s σ H Q I h => ?_⟩
  refine wpAny_Call_Name_kw (ld_blt I hg hm (u := .builtin "max") (by first | rfl | decide +kernel) ?_ (by first | decide +kernel | decide) (by first | decide +kernel | decide))
  rw [hse]
  refine PySem.callWith_builtin1 (wpAny_Call_method0_late hbase hline (thn (hd.run pins s σ H _ I h) fun v s1 ⟨x, H1, I1, r1, a, kvs, is, ex, ha, hv, hne, q⟩ => ?_))
  subst ex
  obtain rfl : v = Value.ref a := r1
  obtain ⟨_, hsys, vs, rel, dof⟩ := dk_rd I1.hok ha
  obtain ⟨ep, dat⟩ := dof.dictAt
  have dat' := dat
  obtain ⟨ob, es, ho, ex, hdat, hko, hpr, hnd⟩ := dat'
  refine ⟨"dict", "dict.values", F.plainAttrs_dict, F.slot_dict_values, F.type_dict_values, ⟨ob, ho, ex.1⟩, fun b e => ?_, Calls.callWith_builtin rfl (PySem.evalArgs_none ?_)⟩
  · cases e
    exact ⟨ob, ho, ex.2.1⟩
  refine call_meetsIn F.slot_dict_values ⟨ob, ho, ex.1⟩ F.entry_dict_values (F.args_dict_values_1 _) (meets_dict_values (mixKind X.prog X.w) a hsys) ⟨⟨vs, dof⟩, ?_⟩
  have k1 : ∀ b u, s1.heap.get? b = some u → (s1.heap.push { cls := .type "dict_values", data := .fields #[.ref a] }).get? b = some u := fun b u e => Heap.get?_push_of_some _ e
  have dat1 : (s1.heap.push { cls := .type "dict_values", data := .fields #[.ref a] }).DictAt (mixKind X.prog X.w) a vs ep := dat.keep k1
  have hlv : vs.length = is.length := by
    have e1 := congrArg List.length hv
    rw [List.length_map, List.length_map] at e1
    rw [← e1]
    exact (KV.length rel).symm
  have hlen : 0 < vs.length := by
    rw [hlv]
    exact List.length_pos_iff.mpr hne
  have hval : ∀ (i : Nat) (v : Value), (∃ k, vs[i]? = some (k, v)) → ∃ t, v = Value.int (is.getD i 0) t := fun i v ⟨k, hk⟩ => by
    obtain ⟨x, h1, h2⟩ := KV.at' rel hk
    have e1 : (kvs.map (·.2))[i]? = some x := by rw [List.getElem?_map, h1] <;> rfl
    rw [hv, List.getElem?_map] at e1
    obtain ⟨j, hj, e2⟩ := Option.map_eq_some_iff.mp e1
    subst e2
    obtain ⟨t, e3⟩ := h2
    refine ⟨t, ?_⟩
    rw [e3, List.getD_eq_getElem?_getD, hj] <;> rfl
  refine call_max_walk (wpAny_pyIter_values (v := s1.heap.objs.size) (d := a) ⟨_, Heap.get?_push_size _ rfl, rfl, rfl⟩ dat1 ?_)
  have hlt : a < s1.heap.objs.size := Heap.lt_size ho
  have hsz : (s1.heap.push { cls := .type "dict_values", data := .fields #[.ref a] }).objs.size = s1.heap.objs.size + 1 := Heap.size_push _ _
  refine ⟨_, _, _, _, _, _, _, rfl, Walks.dictValues (knd := mixKind X.prog X.w) (A := X.A.in1) (I.ok.hd hc) (s1.heap.push { cls := .type "dict_values", data := .fields #[.ref a] }).objs.size a (by rw [hsz]; exact Nat.ne_of_lt (Nat.lt_succ_of_lt hlt)) vs ep,
    ⟨⟨_, Heap.get?_push_size _ rfl, rfl, rfl⟩, dat1.keep fun b u e => Heap.get?_push_of_some _ e⟩, fun b hb => ?_, hlen, CmpOf.ints_gt (fun i => is.getD i 0) hval, fun v h' tk hP hk => ?_⟩
  · show b < ((s1.heap.push _).push _).objs.size
    rw [Heap.size_push, Heap.size_push]
    rw [hsz] at hb
    rcases List.mem_cons.mp hb with e | hb
    · rw [e]
      exact Nat.lt_succ_self _
    · have e : b = a := List.mem_singleton.mp hb
      rw [e]
      exact Nat.lt_succ_of_lt (Nat.lt_succ_of_lt hlt)
  · obtain ⟨t, rfl⟩ := hval _ v hP
    obtain ⟨b1, b2⟩ := argBest_gt (fun i => is.getD i 0) (vs.length - 1)
    refine ⟨.int _, H1, I1.kept (t' := tk) fun b u e => hk b u (fun hmem => ?_) (Heap.get?_push_of_some _ (k1 b u e)), ⟨t, rfl⟩, q _ ?_ fun j hj => ?_⟩
    · have e1 : b = (s1.heap.push { cls := .type "dict_values", data := .fields #[.ref a] }).objs.size := List.mem_singleton.mp hmem
      have e2 := Heap.lt_size e
      rw [hsz] at e1
      rw [e1] at e2
      exact absurd e2 (Nat.not_lt.mpr (Nat.le_succ _))
    · have hb : argBest (fun i j => decide (is.getD i 0 > is.getD j 0)) (vs.length - 1) < is.length := by
        have : argBest (fun i j => decide (is.getD i 0 > is.getD j 0)) (vs.length - 1) ≤ vs.length - 1 := b1
        omega
      rw [List.getD_eq_getElem?_getD, List.getElem?_eq_getElem hb]
      exact List.getElem_mem hb
    · obtain ⟨i, hi, e⟩ := List.mem_iff_getElem.mp hj
      have e2 : is.getD i 0 = j := by rw [List.getD_eq_getElem?_getD, List.getElem?_eq_getElem hi, ← e] <;> rfl
      rw [← e2]
      exact b2 i (by omega)
end
/-! max(d.values()) on data -/
section
variable {K : PySem.W.Frag} {E : XK}
def mMaxV (md : En → Res D) : En → Res W := fun e => (md e).bind fun d => match d with
  | .dic ks xs => match intsD xs with
    | some (n :: ns) => .ok (.sh (.int (bestI true n ns)))
    | _ => .st
  | _ => .st
theorem bestI_max : ∀ (ns : List Int) (n : Int), bestI true n ns ∈ n :: ns ∧ ∀ j ∈ n :: ns, j ≤ bestI true n ns
  | [], n => ⟨List.mem_cons_self, fun j hj => by
    rcases List.mem_cons.mp hj with rfl | h
    · exact Int.le_refl _
    · cases h⟩
  | m :: ns, n => by
    have ih := bestI_max ns (max n m)
    have e : bestI true n (m :: ns) = bestI true (max n m) ns := rfl
    rw [e]
    refine ⟨?_, fun j hj => ?_⟩
    · rcases List.mem_cons.mp ih.1 with h | h
      · rw [h]
        rcases Int.le_total n m with q | q
        · rw [Int.max_eq_right q]; exact List.mem_cons_of_mem _ List.mem_cons_self
        · rw [Int.max_eq_left q]; exact List.mem_cons_self
      · exact List.mem_cons_of_mem _ (List.mem_cons_of_mem _ h)
    · have h0 := ih.2 (max n m) List.mem_cons_self
      rcases List.mem_cons.mp hj with rfl | hj
      · omega
      · rcases List.mem_cons.mp hj with rfl | hj
        · omega
        · exact ih.2 j (List.mem_cons_of_mem _ hj)
theorem best_uniq {is : List Int} {m k : Int} (h1 : m ∈ is) (h2 : ∀ j ∈ is, j ≤ m) (h3 : k ∈ is) (h4 : ∀ j ∈ is, j ≤ k) : m = k := Int.le_antisymm (h4 m h1) (h2 k h3)
instance semE_maxV {td : TE} {Fd : List Nat} {md : En → Res D} [hd : SemV K E td Fd md] : SemE K E (tMaxVals td) Fd (mMaxV md) where
  ok := fun {env σ S H Q w} x e k => by
    obtain ⟨d, e1, e⟩ := Res.of_ok e
    refine hd.ok x e1 fun v S1 H1 g r => ?_
    split at e
    · rename_i ks xs
      split at e
      · rename_i n ns hn
        cases e
        obtain ⟨p, vs, rfl, hp, hl, q⟩ := r.dic_inv g.sub
        have hv := intsD_rep q hn
        refine ⟨p, ks.zip vs, n :: ns, rfl, hp, ?_, by simp, fun m hm hj => ?_⟩
        · rw [List.map_snd_zip (by omega)]
          exact hv
        · obtain ⟨b1, b2⟩ := bestI_max ns n
          rw [best_uniq hm hj b1 b2]
          exact k _ S1 H1 [] (.sh g (.int _))
      · cases e
    · cases e
  ex := fun {env σ S H Q w} x e k => by
    rcases Res.of_ex e with e1 | ⟨d, e1, e⟩
    · exact hd.ex x e1 k
    · split at e
      · split at e <;> cases e
      · cases e
end
end Ly

set_option Elab.async false
set_option linter.all false
set_option maxRecDepth 100000
/-! LyN3: list(d.values()). -/
namespace Ly
open PySem L2 PyProof.Rows
section
variable {X : Cx}
def tListVals (td : TE) : TE := fun σ H Q => td σ H fun x H1 => ∃ a kvs, x = V.ref a ∧ Rd H1 a (.dK kvs) ∧ ∀ p, H1 p = none → Q (.ref p) (upd H1 p (.lst (kvs.map (·.2))))
variable {o : Expr} {p pos apos mpos : Pos} {td : TE}
theorem pe_listVals (hc : X.calm = true) (hg : Gl X "list") (hm : X.mg "list" = none) (hd : PE X o td) (hbase : attributeBase o "values" X.env (eval o X.env) = eval o X.env := by rfl) (hline : (apos.endLine == mpos.line) = true := by rfl)
    (hse : starEach [Expr.Call (.Attribute o "values" apos) [] [] mpos] X.env = [(false, eval (Expr.Call (.Attribute o "values" apos) [] [] mpos) X.env)] := by rfl) :
    PE X (.Call (.Name "list" p) [.Call (.Attribute o "values" apos) [] [] mpos] [] pos) (tListVals td) := by
  refine ⟨fun pins s σ H Q I h => ?_⟩
  refine wpAny_Call_Name_kw (ld_blt I hg hm (u := .type "list") (by first | rfl | decide +kernel) ?_ (by first | decide +kernel | decide) (by first | decide +kernel | decide))
  rw [hse]
  refine PySem.callWith_type1 (wpAny_Call_method0_late hbase hline (thn (hd.run pins s σ H _ I h) fun v s1 ⟨x, H1, I1, r1, a, kvs, ex, ha, q⟩ => ?_))
  subst ex
  obtain rfl : v = Value.ref a := r1
  obtain ⟨z, hsys, vs, rel, dof⟩ := dk_rd I1.hok ha
  obtain ⟨ep, dat⟩ := dof.dictAt
  have dat' := dat
  obtain ⟨ob, es, ho, ex, hdat, hko, hpr, hnd⟩ := dat'
  refine ⟨"dict", "dict.values", F.plainAttrs_dict, F.slot_dict_values, F.type_dict_values, ⟨ob, ho, ex.1⟩, fun b e => ?_, Calls.callWith_builtin rfl (PySem.evalArgs_none ?_)⟩
  · cases e
    exact ⟨ob, ho, ex.2.1⟩
  refine call_meetsIn F.slot_dict_values ⟨ob, ho, ex.1⟩ F.entry_dict_values (F.args_dict_values_1 _) (meets_dict_values (mixKind X.prog X.w) a hsys) ⟨⟨vs, dof⟩, ?_⟩
  have k1 : ∀ b u, s1.heap.get? b = some u → (s1.heap.push { cls := .type "dict_values", data := .fields #[.ref a] }).get? b = some u := fun b u e => Heap.get?_push_of_some _ e
  have dat1 : (s1.heap.push { cls := .type "dict_values", data := .fields #[.ref a] }).DictAt (mixKind X.prog X.w) a vs ep := dat.keep k1
  have hsz : (s1.heap.push { cls := .type "dict_values", data := .fields #[.ref a] }).objs.size = s1.heap.objs.size + 1 := Heap.size_push _ _
  refine PySem.W.kdl_call (PySem.W.kdl_values (knd := mixKind X.prog X.w) (r := s1.heap.objs.size) (d := a) (kvs := vs) (ep := ep)) (I.ok.hd hc) ⟨⟨_, Heap.get?_push_size _ rfl, rfl, rfl⟩, dat1⟩ (by rw [← rel.length]; exact z) fun h' tk acc c' hk hD hacc => ?_
  have hle : s1.heap.objs.size ≤ (s1.heap.push { cls := .type "dict_values", data := .fields #[.ref a] }).objs.size := by rw [hsz]; exact Nat.le_succ _
  have hv : Vals (kvs.map (·.2)) acc.toList := by
    refine vals_of_at (by
      have e1 : acc.toList.length = acc.size := by simp
      rw [List.length_map, e1, hacc.1]
      exact rel.length) fun j x w h1 h2 => ?_
    obtain ⟨k, hkj⟩ := hacc.2 j w (by rw [← Array.getElem?_toList]; exact h2)
    obtain ⟨y, g1, g2⟩ := KV.at' rel hkj
    rw [List.getElem?_map, g1] at h1
    cases h1
    exact g2
  refine ⟨.ref _, upd H1 _ (.lst (kvs.map (·.2))), I1.laid (t' := tk) (fun b u e => hk b u (k1 b u e)) hle
    (show ObjOk X.prog X.w _ _ _ (.lst (kvs.map (·.2))) from ⟨by rw [List.length_map]; exact z, acc.toList, c', hv, by rw [Array.toArray_toList]; exact hD⟩), rfl, q _ (I1.hok.fresh hle)⟩
end
/-! on data -/
section
variable {K : PySem.W.Frag} {E : XK}
def mListV (md : En → Res D) : En → Res W := fun e => (md e).bind fun d => match d with
  | .dic ks xs => .ok (.lst xs)
  | _ => .st
instance semE_listV {td : TE} {Fd : List Nat} {md : En → Res D} [hd : SemV K E td Fd md] : SemE K E (tListVals td) Fd (mListV md) where
  ok := fun {env σ S H Q w} x e k => by
    obtain ⟨d, e1, e⟩ := Res.of_ok e
    refine hd.ok x e1 fun v S1 H1 g r => ?_
    split at e
    · rename_i ks xs
      cases e
      obtain ⟨p, vs, rfl, hp, hl, q⟩ := r.dic_inv g.sub
      refine ⟨p, ks.zip vs, rfl, hp, fun a ha => ?_⟩
      rw [List.map_snd_zip (by omega)]
      exact k _ S1 _ [a] ⟨g.trans (.hp g.sub fun b o e => by rw [upd_ne (ne_of_none e ha)]; exact e), .lst upd_same q, by simp, fun q hq => by rw [List.mem_singleton.mp hq]; exact ⟨g.hh.free ha, g.sub.free ha⟩⟩
    · cases e
  ex := fun {env σ S H Q w} x e k => by
    rcases Res.of_ex e with e1 | ⟨d, e1, e⟩
    · exact hd.ex x e1 k
    · split at e <;> cases e
end
end Ly

set_option Elab.async false
set_option linter.all false
set_option maxRecDepth 100000
/-! LyN4: == of lists, tuples and dicts within one another (where it holds). -/
namespace Ly
open PySem L2 PyProof.Rows
section
variable {K : PySem.W.Frag}
def shl (d : D) : Bool := (toP d).canLay0 && decide ((toP d).depth ≤ 48)
def deqT : Nat → D → D → Bool
  | 0, a, b => shl a && shl b && PyData.eqv (toP a) (toP b)
  | n + 1, a, b => (shl a && shl b && PyData.eqv (toP a) (toP b)) || match a, b with
    | .lst xs, .lst ys => xs.length == ys.length && (xs.zip ys).all fun p => deqT n p.1 p.2
    | .tup xs, .tup ys => xs.length == ys.length && (xs.zip ys).all fun p => deqT n p.1 p.2
    | .dic ks xs, .dic ls ys => ks.length == ls.length && (ks.zip xs).all fun p => match dlook ls ys p.1 with
      | some y => deqT n p.2 y
      | none => false
    | _, _ => false
theorem reps_at {S : Hp} : ∀ {vs : List V} {ds : List D}, Reps K S vs ds → ∀ j (h1 : j < vs.length) (h2 : j < ds.length), Rep K S vs[j] ds[j]
  | _, _, .cons r t, 0, _, _ => r
  | _, _, .cons r t, j + 1, h1, h2 => reps_at t j (Nat.lt_of_succ_lt_succ h1) (Nat.lt_of_succ_lt_succ h2)
theorem vals_at : ∀ {vs : List V} {us : List Value}, Vals vs us → ∀ j (h1 : j < vs.length) (h2 : j < us.length), RelV vs[j] us[j]
  | _, _, .cons r t, 0, _, _ => r
  | _, _, .cons r t, j + 1, h1, h2 => vals_at t j (Nat.lt_of_succ_lt_succ h1) (Nat.lt_of_succ_lt_succ h2)
theorem zip_all {xs ys : List D} {q : D × D → Bool} (h : (xs.zip ys).all q = true) (j : Nat) (h1 : j < xs.length) (h2 : j < ys.length) : q (xs[j], ys[j]) = true := by
  rw [List.all_eq_true] at h
  refine h _ ?_
  rw [List.mem_iff_getElem]
  exact ⟨j, by rw [List.length_zip]; omega, List.getElem_zip⟩
/-- what a dict's value list tells by key -/
theorem kv_mem {ks : List (Key × V)} {va : List (Key × Value)} (r : KV ks va) {k : Key} {v : Value} (h : (k, v) ∈ va) : ∃ x, (k, x) ∈ ks ∧ RelV x v := by
  unfold KV at r
  induction r with
  | nil => cases h
  | cons a t ih =>
    rename_i p q ps qs
    rcases List.mem_cons.mp h with e | h
    · obtain ⟨r1, r2⟩ := a
      refine ⟨p.2, ?_, ?_⟩
      · rw [show (k, p.2) = p from by
          have : p.1 = q.1 := r1
          rw [← e] at this
          exact Prod.ext this.symm rfl]
        exact List.mem_cons_self
      · rw [← e] at r2
        exact r2
    · obtain ⟨x, hx, rx⟩ := ih h
      exact ⟨x, List.mem_cons_of_mem _ hx, rx⟩
theorem kzip_at {ks : List Key} {vs : List V} {xs : List D} {S : Hp} (r : Reps K S vs xs) (hl : vs.length = ks.length) {k : Key} {x : V} (h : (k, x) ∈ ks.zip vs) : ∃ d, (k, d) ∈ ks.zip xs ∧ Rep K S x d := by
  obtain ⟨j, hj, e⟩ := List.mem_iff_getElem.mp h
  rw [List.length_zip] at hj
  rw [List.getElem_zip] at e
  have hx : vs.length = xs.length := r.len
  refine ⟨xs[j]'(by omega), List.mem_iff_getElem.mpr ⟨j, by rw [List.length_zip]; omega, ?_⟩, ?_⟩
  · rw [List.getElem_zip]
    exact Prod.ext (show ks[j]'(by omega) = k from congrArg (fun q : Key × V => q.1) e) rfl
  · have := reps_at r j (by omega) (by omega)
    rw [show vs[j]'(by omega) = x from congrArg (fun q : Key × V => q.2) e] at this
    exact this
/-- the parts of two that are alike -/
inductive DeqP (X : Cx) (s : Shared) (n : Nat) : Value → Value → Prop
  | leaf {v u : Value} {a b : PyData} {as bs : List Addr} : Reads s.heap v a as → Reads s.heap u b bs → a.canLay0 = true → b.canLay0 = true → a.depth ≤ 48 → PyData.eqv a b = true → DeqP X s n v u
  | lists {p q : Addr} {us ws : Array Value} : s.heap.IsList p us → s.heap.IsList q ws → us.size = ws.size → (∀ j (h1 : j < us.size) (h2 : j < ws.size), PySem.W.EqTree X.prog X.w s n us[j] ws[j] true) → DeqP X s n (.ref p) (.ref q)
  | tuples {p q : Addr} {us ws : Array Value} : s.heap.IsTuple p us → s.heap.IsTuple q ws → us.size = ws.size → (∀ j (h1 : j < us.size) (h2 : j < ws.size), PySem.W.EqTree X.prog X.w s n us[j] ws[j] true) → DeqP X s n (.ref p) (.ref q)
  | dicts {p q : Addr} {va vb : List (Key × Value)} : (p == sysModules) = false → (q == sysModules) = false → s.heap.DictOf (mixKind X.prog X.w) p va → s.heap.DictOf (mixKind X.prog X.w) q vb → va.length = vb.length → (∀ k v, (k, v) ∈ va → ∃ z, valueAt vb k = some z ∧ PySem.W.EqTree X.prog X.w s n v z true) → DeqP X s n (.ref p) (.ref q)
theorem all_t {us : Array Value} : ((List.range us.size).all fun _ => true) = true := List.all_eq_true.mpr fun _ _ => rfl
theorem DeqP.tree {X : Cx} {s : Shared} {n : Nat} {v u : Value} (h : DeqP X s n v u) (hn : 48 ≤ n) : PySem.W.EqTree X.prog X.w s (n + 1) v u true := by
  cases h with
  | leaf ra rb ha hb hd he =>
    refine .leaf fun A hu => ?_
    have := SeqAt.eqAt_reads _ _ A s v u _ _ ra rb ha hb (by have := Nat.min_le_left (PyData.depth ‹PyData›) (PyData.depth ‹PyData›); rename_i a b _ _; have := Nat.min_le_left a.depth b.depth; omega)
    rw [he] at this
    exact this
  | lists hp hq hs hi =>
    rename_i p q us ws
    by_cases e : p = q
    · subst e; exact .same
    · have := PySem.W.EqTree.lists (prog := X.prog) (w := X.w) (e := fun _ => true) e hp hq hs hi
      rw [all_t] at this
      exact this
  | tuples hp hq hs hi =>
    rename_i p q us ws
    by_cases e : p = q
    · subst e; exact .same
    · have := PySem.W.EqTree.tuples (prog := X.prog) (w := X.w) (e := fun _ => true) e hp hq hi
      rw [show ((List.range (min us.size ws.size)).all (fun _ => true) && us.size == ws.size) = true from by
        rw [Bool.and_eq_true, beq_iff_eq]
        exact ⟨List.all_eq_true.mpr fun _ _ => rfl, hs⟩] at this
      exact this
  | dicts h1 h2 hp hq hs hi =>
    rename_i p q va vb
    by_cases e : p = q
    · subst e; exact .same
    · have := PySem.W.EqTree.dicts (prog := X.prog) (w := X.w) (e := fun _ => true) e h1 h2 hp hq fun k v z hm hz => by
        obtain ⟨z', e1, e2⟩ := hi k v hm
        rw [e1] at hz
        cases hz
        exact e2
      rw [show (va.length == vb.length && va.all fun q => (valueAt vb q.1).isSome && true) = true from by
        rw [Bool.and_eq_true, beq_iff_eq]
        refine ⟨hs, List.all_eq_true.mpr fun q hq => ?_⟩
        obtain ⟨z', e1, _⟩ := hi q.1 q.2 hq
        rw [e1]
        rfl] at this
      exact this
section
variable {X : Cx} {pins : List (Addr × Obj)} {σ : L2.St} {H : Hp} {s : Shared}
theorem deq_leafP (I : Inv X pins σ H s) {a b : D} {x y : V} {v u : Value} (h : (shl a && shl b && PyData.eqv (toP a) (toP b)) = true) (ra : Rep X.K H x a) (rb : Rep X.K H y b) (rx : RelV x v) (ry : RelV y u) (n : Nat) : DeqP X s n v u := by
  rw [Bool.and_eq_true, Bool.and_eq_true] at h
  obtain ⟨⟨h1, h2⟩, h3⟩ := h
  unfold shl at h1 h2
  rw [Bool.and_eq_true, decide_eq_true_iff] at h1 h2
  obtain ⟨as, qa⟩ := Dp.reads I _ _ _ (ra.dp a h1.1) rx
  obtain ⟨bs, qb⟩ := Dp.reads I _ _ _ (rb.dp b h2.1) ry
  exact .leaf qa qb h1.1 h2.1 h1.2 h3
theorem deq_run (I : Inv X pins σ H s) : ∀ (n : Nat) (a b : D) (x y : V) (v u : Value), deqT n a b = true → Rep X.K H x a → Rep X.K H y b → RelV x v → RelV y u → DeqP X s (n + 48) v u
  | 0, a, b, x, y, v, u, h, ra, rb, rx, ry => deq_leafP I h ra rb rx ry _
  | n + 1, a, b, x, y, v, u, h, ra, rb, rx, ry => by
    unfold deqT at h
    rw [Bool.or_eq_true] at h
    rcases h with h | h
    · exact deq_leafP I h ra rb rx ry _
    have ih : ∀ (a b : D) (x y : V) (v u : Value), deqT n a b = true → Rep X.K H x a → Rep X.K H y b → RelV x v → RelV y u → PySem.W.EqTree X.prog X.w s (n + 1 + 48) v u true := fun a b x y v u h1 h2 h3 h4 h5 => by
      rw [show n + 1 + 48 = n + 48 + 1 by omega]
      exact (deq_run I n a b x y v u h1 h2 h3 h4 h5).tree (by omega)
    split at h
    · rename_i xs ys
      rw [Bool.and_eq_true, beq_iff_eq] at h
      obtain ⟨hl, hz⟩ := h
      cases ra with | lst ea qa => ?_
      cases rb with | lst eb qb => ?_
      rename_i p vs p' vs'
      obtain rfl : v = Value.ref p := rx
      obtain rfl : u = Value.ref p' := ry
      obtain ⟨us, r1, p1, _⟩ := I.list (SqL.of ea)
      obtain ⟨ws, r2, p2, _⟩ := I.list (SqL.of eb)
      have l1 := r1.length; have l2 := r2.length; have l3 : vs.length = xs.length := qa.len; have l4 : vs'.length = ys.length := qb.len
      refine .lists p1.isList p2.isList (by rw [List.size_toArray, List.size_toArray]; omega) fun j h1 h2 => ?_
      rw [List.size_toArray] at h1 h2
      have := ih _ _ _ _ _ _ (zip_all hz j (by omega) (by omega)) (reps_at qa j (by omega) (by omega)) (reps_at qb j (by omega) (by omega)) (vals_at r1 j (by omega) h1) (vals_at r2 j (by omega) h2)
      simpa using this
    · rename_i xs ys
      rw [Bool.and_eq_true, beq_iff_eq] at h
      obtain ⟨hl, hz⟩ := h
      cases ra with | tup ea qa => ?_
      cases rb with | tup eb qb => ?_
      rename_i p vs p' vs'
      obtain rfl : v = Value.ref p := rx
      obtain rfl : u = Value.ref p' := ry
      obtain ⟨us, r1, p1, _⟩ := I.tuple (SqT.of ea)
      obtain ⟨ws, r2, p2, _⟩ := I.tuple (SqT.of eb)
      have l1 := r1.length; have l2 := r2.length; have l3 : vs.length = xs.length := qa.len; have l4 : vs'.length = ys.length := qb.len
      refine .tuples p1 p2 (by rw [List.size_toArray, List.size_toArray]; omega) fun j h1 h2 => ?_
      rw [List.size_toArray] at h1 h2
      have := ih _ _ _ _ _ _ (zip_all hz j (by omega) (by omega)) (reps_at qa j (by omega) (by omega)) (reps_at qb j (by omega) (by omega)) (vals_at r1 j (by omega) h1) (vals_at r2 j (by omega) h2)
      simpa using this
    · rename_i ks xs ls ys
      rw [Bool.and_eq_true, beq_iff_eq] at h
      obtain ⟨hl, hz⟩ := h
      cases ra with | dic ea la qa => ?_
      cases rb with | dic eb lb qb => ?_
      rename_i p vs p' vs'
      obtain rfl : v = Value.ref p := rx
      obtain rfl : u = Value.ref p' := ry
      obtain ⟨_, y1, va, r1, da⟩ := dk_rd I.hok ea
      obtain ⟨_, y2, vb, r2, db⟩ := dk_rd I.hok eb
      refine .dicts y1 y2 da db ?_ fun k v hm => ?_
      · rw [← r1.length, ← r2.length, List.length_zip, List.length_zip, la, lb, Nat.min_self, Nat.min_self]
        exact hl
      · obtain ⟨x, hx, rx⟩ := kv_mem r1 hm
        obtain ⟨d, hd, rd⟩ := kzip_at qa la hx
        have hq := List.all_eq_true.mp hz _ hd
        rcases dlook_rep (k := k) (ks := ls) qb with ⟨h1, h2⟩ | ⟨x', d', h1, h2, h3⟩
        · simp only [h2] at hq
          cases hq
        · simp only [h2] at hq
          have := r2.val k
          rw [h1] at this
          obtain ⟨z, e1, e2⟩ := this.some_of
          exact ⟨z, e1, ih _ _ _ _ _ _ hq rd h3 rx e2⟩
    · cases h
theorem DeqP.run {n : Nat} {v u : Value} (h : DeqP X s n v u) {A : Around} (hu : A.units + (n + 1) < cLine) (hn : 48 ≤ n) {E Q : Value → Shared → Prop} (q : Q (.bool true) s) : wpAny (model X.prog X.w) A (compareOp .Eq v u) Q E s := by
  cases h with
  | leaf ra rb ha hb hd he =>
    rename_i a b as bs
    have := SeqAt.compareEq_reads (prog := X.prog) (w := X.w) (E := E) (Q := Q) (A := A) ra rb ha hb (by have := Nat.min_le_left a.depth b.depth; omega) (by rw [he]; exact q)
    exact this
  | lists hp hq hs hi =>
    refine PySem.W.eq_listsT (e := fun _ => true) hp hq hs hi hu ?_
    rw [all_t]
    exact q
  | tuples hp hq hs hi =>
    rename_i us ws
    refine PySem.W.eq_tuplesT (e := fun _ => true) hp hq hi hu ?_
    rw [show ((List.range (min us.size ws.size)).all (fun _ => true) && us.size == ws.size) = true from by
      rw [Bool.and_eq_true, beq_iff_eq]
      exact ⟨List.all_eq_true.mpr fun _ _ => rfl, hs⟩]
    exact q
  | dicts h1 h2 hp hq hs hi =>
    rename_i va vb
    refine PySem.W.eq_dictsT (e := fun _ => true) h1 h2 hp hq (fun k v z hm hz => ?_) hu ?_
    · obtain ⟨z', e1, e2⟩ := hi k v hm
      rw [e1] at hz
      cases hz
      exact e2
    · rw [show (va.length == vb.length && va.all fun q => (valueAt vb q.1).isSome && true) = true from by
        rw [Bool.and_eq_true, beq_iff_eq]
        refine ⟨hs, List.all_eq_true.mpr fun q hq => ?_⟩
        obtain ⟨z', e1, _⟩ := hi q.1 q.2 hq
        rw [e1]
        rfl]
      exact q
end
def rDeep (K : PySem.W.Frag) : R2 := fun x y H Q => ∃ a b, Rep K H x a ∧ Rep K H y b ∧ deqT 12 a b = true ∧ Q (.bl true) H
theorem op_eqZ {X : Cx} (hK : X.K = K) (hu : X.A.units + 65 < cLine) : OpR X (compareOp .Eq) (rDeep K) := by
  subst hK
  intro pins s σ H x y v u Q I rx ry h
  obtain ⟨a, b, ra, rb, hd, q⟩ := h
  exact (deq_run I 12 a b x y v u hd ra rb rx ry).run (by omega) (by omega) ⟨.bl true, H, I, rfl, q⟩
def rEqZ (K : PySem.W.Frag) : R2 := fun x y H Q => rEqW K x y H Q ∨ rDeep K x y H Q
theorem kz_eq {X : Cx} (K : PySem.W.Frag) (hK : X.K = K) (hu : X.A.units + 65 < cLine) : OpR X (compareOp .Eq) (rEqZ K) := OpR.or (kx_eq K hK (by omega)) (op_eqZ hK hu)
def eqZ (a b : D) : Res D := if deqT 12 a b then .ok (.bl true) else eqE a b
instance opX_eqZ : OpX K (rEqZ K) eqZ where
  ok := fun {H v u d e Q z} rv ru h k => by
    unfold eqZ at h
    split at h
    · rename_i hd
      cases h
      exact .inr ⟨d, e, rv, ru, hd, k _ fun S => .bl _⟩
    · exact .inl (opX_eqE.ok rv ru h k)
  ex := fun h => by
    unfold eqZ at h
    split at h
    · cases h
    · exact opX_eqE.ex (K := K) h
end
end Ly

set_option Elab.async false
set_option linter.all false
set_option maxRecDepth 100000
/-! LyN5: l[i] = e of an own list; max(d.values(), default=e). -/
namespace Ly
open PySem L2 PyProof.Rows
section
variable {K : PySem.W.Frag} {Mu : List Nat} {E : XK}
def mLSet (F : List Nat) (i : Nat) (mk mv : En → Res D) : En → Res Fl := fun env => (mv (fz F env)).bind fun x => match (fz F env)[i]? with
  | some (some (.lst xs)) => (mk (fz F env)).bind fun k => match k with
    | .int n => match ixN xs.length n with
      | some j => .ok (.nx ((fz F env).set i (some (.lst (xs.set j x)))))
      | none => .st
    | _ => .st
  | _ => .st
instance semS_lset {i : Nat} {tk tv : TE} {Fk Fv : List Nat} {mk mv : En → Res W} [hv : SemE K E tv Fv mv] [hk : SemE K E tk Fk mk] : SemS K Mu E (tAsg tv (gSub (tVar i) tk rSetL)) (mLSet (Fv ++ Fk) i (mD mk) (mD mv)) where
  run := fun {f B S0 D env σ S H} hm x p => by
    obtain ⟨S1, x1, s1⟩ := x.fz (Fv ++ Fk)
    unfold mLSet at p
    cases ev : mD mv (fz (Fv ++ Fk) env) with
    | ex z => rw [ev] at p; exact hv.ex x1.vw (Res.of_exm ev) (xr_up x1.base p)
    | st => rw [ev] at p; exact p.elim
    | ok d =>
      rw [ev] at p
      simp only [Res.bind_ok] at p
      refine hv.okD x1.vw ev fun v S2 H2 g2 r2 => ?_
      have x2 := x1.gr g2
      split at p
      · rename_i xs e
        obtain ⟨u, fp, a, b, c⟩ := x2.vw.at_ i _ e
        refine ⟨u, a, ?_⟩
        cases ek : mD mk (fz (Fv ++ Fk) env) with
        | st => rw [ek] at p; exact p.elim
        | ex z => rw [ek] at p; exact hk.ex x2.vw (Res.of_exm ek) (xr_up x2.base p)
        | ok kd =>
          rw [ek] at p
          simp only [Res.bind_ok] at p
          refine hk.okD x2.vw ek fun y S3 H3 g3 r3 => ?_
          split at p
          · rename_i n
            cases r3
            split at p
            · rename_i j hj
              cases b with
              | lst hl hr =>
                have x3 := x2.gr g3
                refine ⟨_, _, n, j, rfl, rfl, g3.hh _ _ hl, by rw [hr.len]; exact hj, ?_⟩
                refine p _ _ _ (x3.mut e (fun fq o => ?_) a (.lst upd_same ((hr.up g3.ss).setAt (r2.up g3.ss) j))) ((s1.trans g2.ss).trans g3.ss)
                cases o; rfl
            · exact p.elim
          · exact p.elim
      · exact p.elim
end
section
variable {X : Cx}
def tMaxValsD (td tc : TE) : TE := fun σ H Q => td σ H fun x H1 => ∃ a kvs is, x = V.ref a ∧ Rd H1 a (.dK kvs) ∧ kvs.map (·.2) = is.map V.int ∧ tc σ H1 fun y H2 => Rd H2 a (.dK kvs) ∧ (is = [] → Q y H2) ∧ (is ≠ [] → ∀ m, m ∈ is → (∀ j ∈ is, j ≤ m) → Q (.int m) H2)
variable {o c : Expr} {p pos apos mpos kpos : Pos} {td tc : TE}
theorem pe_maxValsD (hc : X.calm = true) (hg : Gl X "max") (hm : X.mg "max" = none) (hd : PE X o td) (hcv : PE X c tc) (hbase : attributeBase o "values" X.env (eval o X.env) = eval o X.env := by rfl) (hline : (apos.endLine == mpos.line) = true := by rfl)
    (hse : starEach [Expr.Call (.Attribute o "values" apos) [] [] mpos] X.env = [(false, eval (Expr.Call (.Attribute o "values" apos) [] [] mpos) X.env)] := by rfl) :
    PE X (.Call (.Name "max" p) [.Call (.Attribute o "values" apos) [] [] mpos] [⟨some "default", c, kpos⟩] pos) (tMaxValsD td tc) := by
  refine ⟨fun pins s σ H Q I h => ?_⟩
  refine wpAny_Call_Name_kw (ld_blt I hg hm (u := .builtin "max") (by first | rfl | decide +kernel) ?_ (by first | decide +kernel | decide) (by first | decide +kernel | decide))
  refine PyProof.Rows.callWith_kw ?_
  rw [hse]
  show wpAny _ _ (spliced ((false, eval (Expr.Call (.Attribute o "values" apos) [] [] mpos) X.env) :: [])) _ _ s
  refine Calls.spliced_cons (wpAny_Call_method0_late hbase hline (thn (hd.run pins s σ H _ I h) fun v s1 ⟨x, H1, I1, r1, a, kvs, is, ex, ha, hv, q⟩ => ?_))
  subst ex
  obtain rfl : v = Value.ref a := r1
  obtain ⟨_, hsys, vs, rel, dof⟩ := dk_rd I1.hok ha
  obtain ⟨ep, dat⟩ := dof.dictAt
  have dat' := dat
  obtain ⟨ob, es, ho, ex, hdat, hko, hpr, hnd⟩ := dat'
  refine ⟨"dict", "dict.values", F.plainAttrs_dict, F.slot_dict_values, F.type_dict_values, ⟨ob, ho, ex.1⟩, fun b e => ?_, Calls.callWith_builtin rfl (PySem.evalArgs_none ?_)⟩
  · cases e
    exact ⟨ob, ho, ex.2.1⟩
  refine call_meetsIn F.slot_dict_values ⟨ob, ho, ex.1⟩ F.entry_dict_values (F.args_dict_values_1 _) (meets_dict_values (mixKind X.prog X.w) a hsys) ⟨⟨vs, dof⟩, ?_⟩
  have k1 : ∀ b u, s1.heap.get? b = some u → (s1.heap.push { cls := .type "dict_values", data := .fields #[.ref a] }).get? b = some u := fun b u e => Heap.get?_push_of_some _ e
  refine Calls.spliced_nil ?_
  have I2 : Inv X ((s1.heap.objs.size, { cls := .type "dict_values", data := .fields #[.ref a] }) :: pins) σ H1 { s1 with heap := s1.heap.push { cls := .type "dict_values", data := .fields #[.ref a] }, toks := s1.toks } := ClX.pin_new I1 k1 (Nat.le_refl _) (Heap.get?_push_size _ rfl) fun v e => by cases e
  refine thn ((pk_cons (nm := some "default") (kpos := kpos) hcv pk_nil).run pos _ _ σ H1 (fun ys H2 => match ys with
    | [y] => Rd H2 a (HO.dK kvs) ∧ (is = [] → Q y H2) ∧ (is ≠ [] → ∀ m, m ∈ is → (∀ j ∈ is, j ≤ m) → Q (.int m) H2)
    | _ => False) I2 q) ?_
  rintro us s2 ⟨ys, H2, I3, r3, q3⟩
  cases r3 with
  | nil => exact q3.elim
  | cons ry rt =>
    cases rt with
    | cons _ _ => exact q3.elim
    | nil =>
      rename_i y u
      obtain ⟨ha3, q0, q1⟩ := q3
      have hvw := ClX.pin_at I3
      have I4 := ClX.unpin I3
      obtain ⟨_, _, vs3, rel3, dof3⟩ := dk_rd I4.hok ha3
      obtain ⟨ep3, dat3⟩ := dof3.dictAt
      have dat4 := dat3
      obtain ⟨ob3, es3, ho3, ex3, hdat3, hko3, hpr3, hnd3⟩ := dat4
      have hlv : vs3.length = is.length := by
        have e1 := congrArg List.length hv
        rw [List.length_map, List.length_map] at e1
        rw [← e1]
        exact (KV.length rel3).symm
      have hval : ∀ (i : Nat) (v : Value), (∃ k, vs3[i]? = some (k, v)) → ∃ t, v = Value.int (is.getD i 0) t := fun i v ⟨k, hk⟩ => by
        obtain ⟨x, h1, h2⟩ := KV.at' rel3 hk
        have e1 : (kvs.map (·.2))[i]? = some x := by rw [List.getElem?_map, h1] <;> rfl
        rw [hv, List.getElem?_map] at e1
        obtain ⟨j, hj, e2⟩ := Option.map_eq_some_iff.mp e1
        subst e2
        obtain ⟨t, e3⟩ := h2
        refine ⟨t, ?_⟩
        rw [e3, List.getD_eq_getElem?_getD, hj] <;> rfl
      show wpAny _ _ (call (.builtin "max") [Value.ref s1.heap.objs.size] [(Str.ofString "default", u)]) _ _ s2
      refine PySem.call_max_walkD (wpAny_pyIter_values (v := s1.heap.objs.size) (d := a) ⟨_, hvw, rfl, rfl⟩ dat3 ?_)
      have hlt : a < s2.heap.objs.size := Heap.lt_size ho3
      have k2 : ∀ b u, s2.heap.get? b = some u → (s2.heap.push { cls := .type "dict_valueiterator", data := .fields #[.ref a, .int 0 0, .int vs3.length 0, .int ep3 0] }).get? b = some u := fun b u e => Heap.get?_push_of_some _ e
      have back : ∀ {s' : Shared}, Moved [s2.heap.objs.size] (fun a b => b = a) { s2 with heap := s2.heap.push { cls := .type "dict_valueiterator", data := .fields #[.ref a, .int 0 0, .int vs3.length 0, .int ep3 0] } } s' → Inv X pins σ H2 s' := fun {s'} m => by
        have e : s' = { s2 with heap := s'.heap, toks := s'.toks } := by
          have h1 := m.gens; have h2 := m.drawn; have h3 := m.os
          cases s'
          simp only at h1 h2 h3
          subst h1 h2 h3
          rfl
        rw [e]
        refine I4.kept fun b u q => m.heap b u (fun hm => ?_) (k2 b u q)
        rw [List.mem_singleton.mp hm] at q
        exact absurd (Heap.lt_size q) (Nat.lt_irrefl _)
      refine ⟨_, _, _, _, _, _, _, s2.heap, _, rfl, (Walks.dictValues (knd := mixKind X.prog X.w) (A := X.A.in1) (I.ok.hd hc) s2.heap.objs.size a (Nat.ne_of_lt hlt) vs3 ep3).toS,
        ⟨⟨_, Heap.get?_push_size _ rfl, rfl, rfl⟩, dat3.keep k2⟩, fun b hb => ?_, fun b u e hm => ?_, k2, fun hn s' m => ?_, fun hn => ⟨fun i j vi vj s5 Q5 E5 _ hi hj hQ => CmpOf.ints_gt (fun i => is.getD i 0) hval i j vi vj s5 Q5 E5 hi hj hQ, fun v s' hP m => ?_⟩⟩
      · show b < (s2.heap.push _).objs.size
        rw [Heap.size_push]
        rcases List.mem_cons.mp hb with e | hb
        · rw [e]
          exact Nat.lt_succ_self _
        · have e : b = a := List.mem_singleton.mp hb
          rw [e]
          exact Nat.lt_succ_of_lt hlt
      · rw [List.mem_singleton.mp hm] at e
        exact absurd (Heap.lt_size e) (Nat.lt_irrefl _)
      · refine ⟨y, H2, back m, ry, q0 ?_⟩
        rw [hlv] at hn
        exact List.length_eq_zero_iff.mp hn
      · obtain ⟨t, rfl⟩ := hval _ v hP
        obtain ⟨b1, b2⟩ := argBest_gt (fun i => is.getD i 0) (vs3.length - 1)
        refine ⟨.int _, H2, back m, ⟨t, rfl⟩, q1 (fun e => by
          have h1 : 0 < vs3.length := hn
          rw [hlv, e] at h1
          exact Nat.lt_irrefl _ h1) _ ?_ fun j hj => ?_⟩
        · have hb : argBest (fun i j => decide (is.getD i 0 > is.getD j 0)) (vs3.length - 1) < is.length := by
            have : argBest (fun i j => decide (is.getD i 0 > is.getD j 0)) (vs3.length - 1) ≤ vs3.length - 1 := b1
            have h1 : 0 < vs3.length := hn
            rw [← hlv]
            exact Nat.lt_of_le_of_lt this (Nat.sub_lt h1 Nat.one_pos)
          rw [List.getD_eq_getElem?_getD, List.getElem?_eq_getElem hb]
          exact List.getElem_mem hb
        · obtain ⟨i, hi, e⟩ := List.mem_iff_getElem.mp hj
          have e2 : is.getD i 0 = j := by rw [List.getD_eq_getElem?_getD, List.getElem?_eq_getElem hi, ← e] <;> rfl
          rw [← e2]
          exact b2 i (Nat.le_sub_one_of_lt (by rw [hlv]; exact hi))
end
/-! max(d.values(), default=c) on data -/
section
variable {K : PySem.W.Frag} {E : XK}
def maxVD (d c : D) : Res W := match d with
  | .dic _ xs => match intsD xs with
    | some [] => .ok (.sh c)
    | some (n :: ns) => .ok (.sh (.int (bestI true n ns)))
    | none => .st
  | _ => .st
def dicI (d : D) : Bool := match d with
  | .dic _ xs => (intsD xs).isSome
  | _ => false
def mMaxVD (md mc : En → Res D) : En → Res W := fun e => (md e).bind fun d => if dicI d = true then (mc e).bind fun c => maxVD d c else .st
instance semE_maxVD {td tc : TE} {Fd Fc : List Nat} {md : En → Res D} {mc : En → Res W} [hd : SemV K E td Fd md] [hc : SemE K E tc Fc mc] : SemE K E (tMaxValsD td tc) (Fd ++ Fc) (mMaxVD md (mD mc)) where
  ok := fun {env σ S H Q w} x e k => by
    obtain ⟨d, e1, e⟩ := Res.of_ok e
    split at e
    case isFalse => cases e
    obtain ⟨c, e2, e⟩ := Res.of_ok e
    refine hd.ok x e1 fun v S1 H1 g r => ?_
    cases d with
    | dic ks xs =>
      obtain ⟨p, vs, rfl, hp, hl, q⟩ := r.dic_inv g.sub
      simp only [maxVD] at e
      split at e
      · rename_i hn
        cases e
        have hv := intsD_rep q hn
        refine ⟨p, ks.zip vs, [], rfl, hp, ?_, hc.okD (x.gr g) e2 fun y S2 H2 g2 r2 => ⟨rd_up g2.hh hp, fun _ => k _ S2 H2 [] (.sh (g.trans g2) r2), fun h => (h rfl).elim⟩⟩
        rw [List.map_snd_zip (by omega)]
        exact hv
      · rename_i n ns hn
        cases e
        have hv := intsD_rep q hn
        refine ⟨p, ks.zip vs, n :: ns, rfl, hp, ?_, hc.okD (x.gr g) e2 fun y S2 H2 g2 r2 => ⟨rd_up g2.hh hp, (fun h => by cases h), fun _ m hm hj => ?_⟩⟩
        · rw [List.map_snd_zip (by omega)]
          exact hv
        · obtain ⟨b1, b2⟩ := bestI_max ns n
          rw [best_uniq hm hj b1 b2]
          exact k _ S2 H2 [] (.sh (g.trans g2) (.int _))
      · cases e
    | _ => cases e
  ex := fun {env σ S H Q w} x e k => by
    rcases Res.of_ex e with e1 | ⟨d, e1, e⟩
    · exact hd.ex x e1 k
    split at e
    case isFalse => cases e
    rename_i hi
    rcases Res.of_ex e with e2 | ⟨c, e2, e⟩
    · refine hd.ok x e1 fun v S1 H1 g r => ?_
      cases d with
      | dic ks xs =>
        obtain ⟨p, vs, rfl, hp, hl, q⟩ := r.dic_inv g.sub
        obtain ⟨is, hn⟩ := Option.isSome_iff_exists.mp (show (intsD xs).isSome = true from hi)
        have hv := intsD_rep q hn
        refine ⟨p, ks.zip vs, is, rfl, hp, ?_, hc.ex (x.gr g) (Res.of_exm e2) fun c d H2 s q => k c d H2 (g.hh.trans s) q⟩
        rw [List.map_snd_zip (by omega)]
        exact hv
      | _ => cases hi
    · unfold maxVD at e
      split at e
      · split at e <;> cases e
      · cases e
end
end Ly

set_option Elab.async false
set_option linter.all false
set_option maxRecDepth 100000
/-! LyN6: an expression that is looked at alone: what is owned stays so, its result holds nothing that changes. -/
namespace Ly
open PySem L2 PyProof.Rows
section
variable {K : PySem.W.Frag} {E : XK}
def fzA (env : En) : En := env.map fun o => o.map fun w => .sh w.toD
theorem vw_all {env : En} {σ : L2.St} {S H : Hp} (x : Vw K env σ S H) : Vw K (fzA env) σ H H := by
  refine ⟨by unfold fzA; rw [List.length_map]; exact x.len, Same.refl H, fun i w e => ?_⟩
  unfold fzA at e
  rw [List.getElem?_map] at e
  obtain ⟨o, h1, h2⟩ := Option.map_eq_some_iff.mp e
  obtain ⟨w0, rfl, rfl⟩ := Option.map_eq_some_iff.mp h2
  obtain ⟨v, fp, a, b, c⟩ := x.at_ i w0 h1
  exact ⟨v, [], a, .sh (b.rep x.sub w0 fun p hp => rfl), fun p hp => nomatch hp⟩
def tKeep (t : TE) : TE := t
theorem pe_keep {X : Cx} {e : Expr} {t : TE} (h : PE X e t) : PE X e (tKeep t) := h
def mKeep (m : En → Res W) : En → Res W := fun env => onlyFlat (m (fzA env))
instance semE_keep {t : TE} {F : List Nat} {m : En → Res W} [h : SemE K E t F m] : SemE K E (tKeep t) [] (mKeep m) where
  ok := fun {env σ S H Q w} x e k => by
    unfold mKeep onlyFlat at e
    split at e
    · rename_i w' e1
      split at e
      · rename_i hf
        cases e
        refine h.ok (vw_all x) e1 fun v S' H' fp n => ?_
        obtain ⟨S3, n3⟩ := n.flat hf x.sub
        exact k v S3 H' fp n3
      · cases e
    · rename_i hne
      exact (hne _ e).elim
  ex := fun {env σ S H Q z} x e k => by
    unfold mKeep onlyFlat at e
    split at e
    · split at e <;> cases e
    · exact h.ex (vw_all x) e k
/-- a statement behind which some slots are made stable -/
def tFix (F : List Nat) (t : TS) : TS := t
theorem ps_fix {X : Cx} {st : Stmt} {t : TS} (F : List Nat) (h : PS X st t) : PS X st (tFix F t) := h
def mFix (F : List Nat) (m : En → Res Fl) : En → Res Fl := fun env => (m env).map fun f => match f with
  | .nx e => .nx (fz F e)
  | f => f
instance semS_fix {Mu F : List Nat} {t : TS} {m : En → Res Fl} [h : SemS K Mu E t m] : SemS K Mu E (tFix F t) (mFix F m) where
  run := fun {f B S0 D env σ S H} hm x p => by
    refine h.run hm x ?_
    unfold mFix at p
    cases e : m env with
    | st => rw [e] at p; exact p
    | ex z => rw [e] at p; exact p
    | ok g =>
      rw [e] at p
      cases g with
      | nx e2 =>
        intro σ' S' H' y ss
        obtain ⟨S2, y2, s2⟩ := y.fz F
        exact p _ _ _ y2 (ss.trans s2)
      | rt w => exact p
      | bk e2 => exact p
      | ct e2 => exact p
end
end Ly

set_option Elab.async false
set_option linter.all false
set_option maxRecDepth 100000
/-! LyN7: lists and tuples with own parts: how they are made; x[k].append(e). -/
namespace Ly
open PySem L2 PyProof.Rows
section
variable {K : PySem.W.Frag} {E : XK}
/-- arguments with what they own -/
class SemN (K : PySem.W.Frag) (E : XK) (t : TA) (F : outParam (List Nat)) (m : outParam (En → Res (List W))) : Prop where
  ok : ∀ {env σ S H Q ws}, Vw K env σ S H → m env = .ok ws → (∀ vs S' H' fp, Gr S H S' H' → Owns K S' H' vs ws fp → fp.Nodup → (∀ p ∈ fp, H p = none ∧ S' p = none) → Q vs H') → t σ H Q
  ex : ∀ {env σ S H Q x}, Vw K env σ S H → m env = .ex x → (∀ cls d H', Same H H' → XR K x cls d H' → E cls d H') → t σ H Q
theorem Owns.gr {S S' H H' : Hp} {vs : List V} {ws : List W} {fp : List Addr} (o : Owns K S H vs ws fp) (g : Gr S H S' H') : Owns K S' H' vs ws fp := Owns.carry g.ss ws o fun p hp => by
  obtain ⟨u, e, _⟩ := isMu_some (Owns.there ws o p hp)
  rw [e]
  exact g.hh p u e
theorem Owns.len {S H : Hp} : ∀ {vs : List V} {ws : List W} {fp : List Addr}, Owns K S H vs ws fp → vs.length = ws.length
  | _, _, _, .nil => rfl
  | _, _, _, .cons _ t => congrArg (· + 1) (Owns.len t)
theorem Owns.shs {S H : Hp} : ∀ {vs : List V} {xs : List D}, Reps K S vs xs → Owns K S H vs (xs.map .sh) []
  | _, _, .nil => .nil
  | _, _, .cons a t => .cons (fp := []) (.sh a) (Owns.shs t)
theorem Owns.app {S H : Hp} : ∀ {vs us : List V} {ws zs : List W} {fp fq : List Addr}, Owns K S H vs ws fp → Owns K S H us zs fq → Owns K S H (vs ++ us) (ws ++ zs) (fp ++ fq)
  | _, _, _, _, _, _, .nil, s => s
  | _, _, _, _, _, _, .cons a t, s => by
    rw [List.append_assoc]
    exact .cons a (Owns.app t s)
theorem New.nst {S H S' H' : Hp} {p : Addr} {vs : List V} {ws : List W} {fp : List Addr} (g : Gr S H S' H') (hp : S' p = none) (hn : H' p = none) (o : Owns K S' H' vs ws fp) (nd : fp.Nodup) (nw : ∀ q ∈ fp, H q = none ∧ S' q = none) : New K S H S' (upd H' p (.lst vs)) (.ref p) (.nst ws) (p :: fp) := by
  have far : ∀ q ∈ fp, q ≠ p := fun q hq z => by
    have := Owns.there ws o q hq
    rw [z, hn] at this
    cases this
  refine ⟨g.trans (.hp g.sub fun a o e => by rw [upd_ne (ne_of_none e hn)]; exact e), .nst upd_same (Owns.carry (Same.refl _) ws o fun q hq => upd_ne (far q hq)), List.nodup_cons.mpr ⟨fun h => far p h rfl, nd⟩, fun q hq => ?_⟩
  rcases List.mem_cons.mp hq with rfl | hq
  · exact ⟨g.hh.free hn, hp⟩
  · exact nw q hq
theorem New.ntp {S H S' H' : Hp} {p : Addr} {vs : List V} {ws : List W} {fp : List Addr} (g : Gr S H S' H') (hn : H' p = none) (o : Owns K S' H' vs ws fp) (nd : fp.Nodup) (nw : ∀ q ∈ fp, H q = none ∧ S' q = none) : New K S H (upd S' p (.tup vs)) (upd H' p (.tup vs)) (.ref p) (.ntp ws) fp := by
  have g2 := g.trans (.new (o := .tup vs) g.sub hn)
  have far : ∀ q ∈ fp, q ≠ p := fun q hq z => by
    have := Owns.there ws o q hq
    rw [z, hn] at this
    cases this
  exact ⟨g2, .ntp upd_same (Owns.carry (fun a o q => by rw [upd_ne (ne_of_none q (g.sub.free hn))]; exact q) ws o fun q hq => upd_ne (far q hq)), nd, fun q hq => ⟨(nw q hq).1, by rw [upd_ne (far q hq)]; exact (nw q hq).2⟩⟩
def mNNil : En → Res (List W) := fun _ => .ok []
def mNCons (m : En → Res W) (mr : En → Res (List W)) : En → Res (List W) := fun e => (m e).bind fun d => (mr e).map fun ds => d :: ds
instance semN_nil : SemN K E tNil [] mNNil where
  ok := fun {env σ S H Q w} x e k => by cases e; exact k [] S H [] (.refl x.sub) .nil List.nodup_nil (fun p hp => nomatch hp)
  ex := fun x e k => by cases e
instance semN_cons {ta : TE} {Fa : List Nat} {ma : En → Res W} {tr : TA} {Fr : List Nat} {mr : En → Res (List W)} [ha : SemE K E ta Fa ma] [hr : SemN K E tr Fr mr] : SemN K E (tCons ta tr) (Fa ++ Fr) (mNCons ma mr) where
  ok := fun {env σ S H Q w} x e k => by
    obtain ⟨d, e1, e2⟩ := Res.of_ok e
    obtain ⟨ds, e3, rfl⟩ := Res.of_okm e2
    refine ha.ok x e1 fun v S1 H1 f1 n1 => ?_
    refine hr.ok (x.gr n1.gr) e3 fun vs S2 H2 f2 g2 o2 nd2 nw2 => ?_
    refine k _ S2 H2 (f1 ++ f2) (n1.gr.trans g2) (.cons (n1.own.gr g2) o2) (List.nodup_append.mpr ⟨n1.nd, nd2, fun a ha b hb z => ?_⟩) fun p hp => ?_
    · subst z
      have h1 := Own.there _ n1.own a ha
      rw [(nw2 a hb).1] at h1
      cases h1
    · rcases List.mem_append.mp hp with hp | hp
      · exact ⟨(n1.new p hp).1, g2.gone (n1.new p hp).2 (Own.there _ n1.own p hp)⟩
      · exact ⟨n1.gr.hh.free (nw2 p hp).1, (nw2 p hp).2⟩
  ex := fun {env σ S H Q w} x e k => by
    rcases Res.of_ex e with e1 | ⟨d, e1, e2⟩
    · exact ha.ex x e1 k
    · refine ha.ok x e1 fun v S1 H1 f1 n1 => ?_
      exact hr.ex (x.gr n1.gr) (Res.of_exm e2) fun c d H' s q => k c d H' (n1.gr.hh.trans s) q
/-- a thing whose parts stay owned -/
def tNst (t : TE) : TE := t
theorem pe_nst {X : Cx} {e : Expr} {t : TE} (h : PE X e t) : PE X e (tNst t) := h
def mLstN (ma : En → Res (List W)) : En → Res W := fun e => (ma e).bind fun ds => if small ds.length then .ok (.nst ds) else .st
def mTupN (ma : En → Res (List W)) : En → Res W := fun e => (ma e).bind fun ds => if small ds.length then .ok (.ntp ds) else .st
instance semE_lstN {t : TA} {Fa : List Nat} {ma : En → Res (List W)} [ha : SemN K E t Fa ma] : SemE K E (tNst (tLst t)) Fa (mLstN ma) where
  ok := fun {env σ S H Q w} x e k => by
    obtain ⟨ds, e1, e2⟩ := Res.of_ok e
    split at e2
    · rename_i hs
      cases e2
      refine ha.ok x e1 fun vs S1 H1 fp g r nd nw => ⟨by rw [r.len]; exact Nat.le_of_lt (small_line hs), fun p hp => ?_⟩
      have hS : S1 p = none := g.sub.free hp
      exact k _ S1 _ _ (.nst g hS hp r nd nw)
    · cases e2
  ex := fun {env σ S H Q w} x e k => by
    rcases Res.of_ex e with e1 | ⟨d, e1, e2⟩
    · exact ha.ex x e1 k
    · split at e2 <;> cases e2
instance semE_tupN {t : TA} {Fa : List Nat} {ma : En → Res (List W)} [ha : SemN K E t Fa ma] : SemE K E (tNst (tTup t)) Fa (mTupN ma) where
  ok := fun {env σ S H Q w} x e k => by
    obtain ⟨ds, e1, e2⟩ := Res.of_ok e
    split at e2
    · rename_i hs
      cases e2
      exact ha.ok x e1 fun vs S1 H1 fp g r nd nw => ⟨by rw [r.len]; exact Nat.le_of_lt (small_line hs), fun p hp => k _ _ _ _ (.ntp g hp r nd nw)⟩
    · cases e2
  ex := fun {env σ S H Q w} x e k => by
    rcases Res.of_ex e with e1 | ⟨d, e1, e2⟩
    · exact ha.ex x e1 k
    · split at e2 <;> cases e2
/-- a tuple and a display whose parts stay owned -/
def mAddN (ma : En → Res D) (mb : En → Res (List W)) : En → Res W := fun e => (ma e).bind fun a => (mb e).bind fun ws => match a with
  | .tup xs => if small (xs.length + ws.length) && !xs.isEmpty && !ws.isEmpty then .ok (.ntp (xs.map .sh ++ ws)) else .st
  | _ => .st
instance semE_addN {ta : TE} {tb : TA} {Fa Fb : List Nat} {ma : En → Res D} {mb : En → Res (List W)} [ha : SemV K E ta Fa ma] [hb : SemN K E tb Fb mb] : SemE K E (tNst (tOp (rAddU K) ta (tTup tb))) (Fa ++ Fb) (mAddN ma mb) where
  ok := fun {env σ S H Q w} x e k => by
    obtain ⟨a, e1, e⟩ := Res.of_ok e
    obtain ⟨ws, e2, e⟩ := Res.of_ok e
    split at e
    · rename_i xs
      split at e
      · rename_i hz
        cases e
        simp only [Bool.and_eq_true, Bool.not_eq_true', List.isEmpty_eq_false_iff] at hz
        refine ha.ok x e1 fun v S1 H1 g1 r1 => ?_
        refine hb.ok (x.gr g1) e2 fun us S2 H2 fp g2 o2 nd2 nw2 => ?_
        have hlen := o2.len
        have hsm := small_line hz.1.1
        refine ⟨by omega, fun q hq => ?_⟩
        obtain ⟨p, vs, rfl, hp, r⟩ := r1.tup_inv
        have hp2 : S2 p = some (.tup vs) := g2.ss _ _ hp
        have n1 : vs ≠ [] := fun z => by subst z; cases r; exact hz.1.2 rfl
        have n2 : us ≠ [] := fun z => by subst z; cases o2; exact hz.2 rfl
        have n3 := New.ntp (K := K) (g1.trans g2) hq o2 nd2 fun q hq => ⟨g1.hh.free (nw2 q hq).1, (nw2 q hq).2⟩
        have sq : Same S2 (upd S2 q (.tup us)) := fun a o z => by rw [upd_ne (ne_of_none z (g2.sub.free hq))]; exact z
        have hq2 : ∀ r' ∈ fp, r' ≠ q := fun r' hr' z => by
          have := Owns.there ws o2 r' hr'
          rw [z, hq] at this
          cases this
        refine .inr (.inr (.inr ⟨_, _, _, _, rfl, rfl, SqT.of ?_, SqT.of upd_same, n1, by rw [r.len]; omega, fun z => (n2 z).elim, fun _ l hl => ?_⟩))
        · rw [upd_ne (ne_of_none (g2.sub _ _ hp2) hq)]
          exact g2.sub _ _ hp2
        · refine k _ _ _ fp (.ntp n3.gr hl (Owns.app (fp := []) (Owns.shs ((r.up g2.ss).up sq)) (Owns.carry sq ws o2 fun r' hr' => upd_ne (hq2 r' hr'))) nd2 n3.new)
      · cases e
    · cases e
  ex := fun {env σ S H Q w} x e k => by
    rcases Res.of_ex e with e1 | ⟨a, e1, e⟩
    · exact ha.ex x e1 k
    · refine ha.ok x e1 fun v S1 H1 g1 r1 => ?_
      rcases Res.of_ex e with e2 | ⟨ws, e2, e⟩
      · exact hb.ex (x.gr g1) e2 fun c d H' s q => k c d H' (g1.hh.trans s) q
      · split at e
        · split at e <;> cases e
        · cases e

/-! a comprehension whose elements stay owned -/
def runCW (mg : D → En → Res En) (mt : En → Res Bool) (me : En → Res W) : List D → En → Res (List W)
  | [], _ => .ok []
  | d :: ds, env => (mg d env).bind fun e => (mt e).bind fun b => if b = true then (me e).bind fun y => (runCW mg mt me ds env).map fun ys => y :: ys else runCW mg mt me ds env
def mLcN (ts vs : List Nat) (mi : En → Res (List D)) (mg : D → En → Res En) (mt : En → Res Bool) (me : En → Res W) : En → Res W := fun env => if ts.all (fun i => vs.contains i) then
  (mi env).bind fun ds => (noEx (runCW mg mt me ds (wipeE env vs))).bind fun ys => if small ys.length then .ok (.nst ys) else .st
  else .st
instance semE_lcN {wi : TI} {g : TG} {tt : TT} {te : TE} {vs ts Fi Ft Fe : List Nat} {mi : En → Res (List D)} {mg : D → En → Res En} {mt : En → Res Bool} {me : En → Res W} [hi : SemIV K E wi Fi mi] [hg : SemG K g ts mg] [ht : SemT K E0 tt Ft mt] [he : SemE K E0 te Fe me] :
    SemE K E (tNst (tLc wi g tt te vs)) (Fi ++ Ft ++ Fe) (mLcN ts vs mi mg mt me) where
  ok := fun {env σ S H Q w} x e k => by
    unfold mLcN at e
    split at e
    · rename_i hts
      have hts' : ∀ i ∈ ts, i ∈ vs := fun i h => by
        have := List.all_eq_true.mp hts i h
        simpa using this
      obtain ⟨ds, e1, e⟩ := Res.of_ok e
      obtain ⟨ys, e2, e⟩ := Res.of_ok e
      split at e
      · rename_i hsm
        cases e
        have e3 : runCW mg mt me ds (wipeE env vs) = .ok ys := by
          unfold noEx at e2
          split at e2
          · cases e2; assumption
          · cases e2
        refine hi.ok x e1 fun J S1 H1 g1 jok => ?_
        intro D hD
        have hSD : S1 D = none := g1.sub.free hD
        have x1 := x.gr g1
        refine ⟨fun i m H => m = ds.length - i ∧ ∃ S us acc rest fp, Gr S1 H1 S H ∧ S D = none ∧ H D = some (.lst us) ∧ Owns K S H us acc fp ∧ fp.Nodup ∧ (∀ q ∈ fp, H1 q = none ∧ S q = none ∧ q ≠ D) ∧ runCW mg mt me (ds.drop i) (wipeE env vs) = .ok rest ∧ acc ++ rest = ys,
          ⟨_, rfl, S1, [], [], ys, [], (Gr.refl g1.sub).trans (.hp g1.sub fun a o q => by rw [upd_ne (ne_of_none q hD)]; exact q), hSD, upd_same, .nil, List.nodup_nil, (fun q hq => nomatch hq), by rw [List.drop_zero]; exact e3, rfl⟩, ?_⟩
        rintro i m H2 ⟨rfl, S2, us, acc, rest, fp, g2, hS2, hH2, r2, nd2, nw2, e4, e5⟩
        obtain ⟨j1, j2⟩ := jok S2 H2 g2.ss g2.sub g2.hh i
        cases hd : ds[i]? with
        | none =>
          have hl : ds.length ≤ i := List.getElem?_eq_none_iff.mp hd
          rw [List.drop_eq_nil_of_le hl] at e4
          have e4' : rest = [] := by unfold runCW at e4; cases e4; rfl
          subst e4'
          rw [List.append_nil] at e5
          subst e5
          refine .inl ⟨j2 hd, k _ S2 H2 (D :: fp) ⟨g1.trans g2, .nst hH2 r2, List.nodup_cons.mpr ⟨fun h => (nw2 D h).2.2 rfl, nd2⟩, fun p hp => ?_⟩⟩
          rcases List.mem_cons.mp hp with rfl | hp
          · exact ⟨g1.hh.free hD, hS2⟩
          · exact ⟨g1.hh.free (nw2 p hp).1, (nw2 p hp).2.1⟩
        | some d =>
          obtain ⟨hlt, hdd⟩ := List.getElem?_eq_some_iff.mp hd
          have hdrop : ds.drop i = d :: ds.drop (i + 1) := by rw [List.drop_eq_getElem_cons hlt, hdd]
          rw [hdrop] at e4
          unfold runCW at e4
          obtain ⟨en, f1, e4⟩ := Res.of_ok e4
          obtain ⟨b, f2, e4⟩ := Res.of_ok e4
          obtain ⟨go, yld⟩ := j1 d hd
          refine .inr ⟨go, fun H' => ∃ S us acc rest fp, Gr S1 H1 S H' ∧ S D = none ∧ H' D = some (.lst us) ∧ Owns K S H' us acc fp ∧ fp.Nodup ∧ (∀ q ∈ fp, H1 q = none ∧ S q = none ∧ q ≠ D) ∧ runCW mg mt me (ds.drop (i + 1)) (wipeE env vs) = .ok rest ∧ acc ++ rest = ys, fun H' z => ⟨_, by omega, rfl, z⟩, fun y H' hy => ?_⟩
          obtain ⟨S3, g3, r3⟩ := yld y H' hy
          have hHD : isMu (H2 D) = true := by rw [hH2]; rfl
          have hS3 : S3 D = none := g3.gone hS2 hHD
          refine hg.vw (((x1.gr g2).gr g3).wiped vs) r3 f1 fun σ2 x4 wq => ⟨by rw [wq vs hts']; exact wipe_wipe _ _, ?_⟩
          refine ht.ok x4 f2 fun H4 g4 => ?_
          have y4 := Gr.hp g3.sub g4
          have up : ∀ q ∈ fp, H1 q = none ∧ S3 q = none ∧ q ≠ D := fun q hq => ⟨(nw2 q hq).1, g3.gone (nw2 q hq).2.1 (Owns.there _ r2 q hq), (nw2 q hq).2.2⟩
          cases b with
          | false =>
            rw [if_neg Bool.false_ne_true] at e4 ⊢
            exact ⟨S3, us, acc, rest, fp, (g2.trans g3).trans y4, hS3, g4 _ _ (g3.hh _ _ hH2), r2.gr (g3.trans y4), nd2, up, e4, e5⟩
          | true =>
            rw [if_pos rfl] at e4 ⊢
            obtain ⟨dy, f3, e4⟩ := Res.of_ok e4
            obtain ⟨rest', f4, rfl⟩ := Res.of_okm e4
            refine he.ok (x4.gr y4) f3 fun v S5 H5 f5 n5 => ?_
            have g5 := n5.gr
            have hD4 : H4 D = some (.lst us) := g4 _ _ (g3.hh _ _ hH2)
            have hD5 : H5 D = some (.lst us) := g5.hh _ _ hD4
            have hS5 : S5 D = none := g5.gone hS3 (by rw [hD4]; rfl)
            have o4 : Owns K S3 H4 us acc fp := r2.gr (g3.trans y4)
            have hlen : us.length < sizeLine := by
              rw [r2.len]
              have := congrArg List.length e5
              rw [List.length_append] at this
              have h2 := small_line hsm
              omega
            have gg := ((g2.trans g3).trans y4).trans g5
            have far5 : ∀ q ∈ f5, q ≠ D := fun q hq z => by
              have := (n5.new q hq).1
              rw [z, hD4] at this
              cases this
            refine ⟨us, hD5, hlen, S5, us ++ [v], acc ++ [dy], rest', fp ++ (f5 ++ []), ?_, hS5, upd_same, ?_, ?_, ?_, f4, by rw [← e5]; simp⟩
            · exact ⟨gg.ss, fun a o q => by rw [upd_ne (ne_of_none q hD)]; exact gg.hh a o q, fun a o q => by rw [upd_ne (ne_of_none q hS5)]; exact gg.sub a o q, gg.nw⟩
            · refine Owns.app (Owns.carry (Same.refl _) _ (o4.gr g5) fun q hq => upd_ne (nw2 q hq).2.2) (.cons (n5.own.carry (Same.refl _) _ fun q hq => upd_ne (far5 q hq)) .nil)
            · rw [List.append_nil]
              refine List.nodup_append.mpr ⟨nd2, n5.nd, fun a ha b hb z => ?_⟩
              subst z
              have h1 := Owns.there _ o4 a ha
              rw [(n5.new a hb).1] at h1
              cases h1
            · intro q hq
              rw [List.append_nil] at hq
              rcases List.mem_append.mp hq with hq | hq
              · exact ⟨(up q hq).1, g5.gone (up q hq).2.1 (Owns.there _ o4 q hq), (up q hq).2.2⟩
              · exact ⟨((g2.trans g3).trans y4).hh.free (n5.new q hq).1, (n5.new q hq).2, far5 q hq⟩
      · cases e
    · cases e
  ex := fun {env σ S H Q w} x e k => by
    unfold mLcN at e
    split at e
    · rcases Res.of_ex e with e1 | ⟨ds, e1, e⟩
      · exact hi.ex x e1 k
      · rcases Res.of_ex e with e1 | ⟨ds, e1, e⟩
        · unfold noEx at e1
          split at e1 <;> cases e1
        · split at e <;> cases e
    · cases e

/-! x[k].append(e) -/
variable {Mu : List Nat}
theorem Owns.get {S H : Hp} : ∀ {vs : List V} {ws : List W} {fp : List Addr} {j : Nat} {w : W}, Owns K S H vs ws fp → ws[j]? = some w → ∃ v fq, vs[j]? = some v ∧ Own K S H v w fq ∧ ∀ q ∈ fq, q ∈ fp
  | _, _, _, _, _, .nil, e => by simp at e
  | _, _, _, 0, _, .cons a t, e => by
    simp at e
    subst e
    exact ⟨_, _, rfl, a, fun q hq => List.mem_append_left _ hq⟩
  | _, _, _, j + 1, _, .cons a t, e => by
    obtain ⟨v, fq, h1, h2, h3⟩ := Owns.get (j := j) t (by simpa using e)
    exact ⟨v, fq, by simpa using h1, h2, fun q hq => List.mem_append_right _ (h3 q hq)⟩
/-- the j-th part is changed at its one address -/
theorem Owns.chg {S H : Hp} {o : HO} {w' : W} : ∀ {vs : List V} {ws : List W} {fp : List Addr} {j : Nat} {w : W} {v : V} {p : Addr}, Owns K S H vs ws fp → fp.Nodup → ws[j]? = some w → vs[j]? = some v → (∀ fq, Own K S H v w fq → fq = [p]) → Own K S (upd H p o) v w' [p] → p ∈ fp ∧ Owns K S (upd H p o) vs (ws.set j w') fp
  | _, _, _, _, _, _, _, .nil, _, e, _, _, _ => by simp at e
  | _, _, _, 0, _, _, _, .cons a t, nd, e, ev, hu, ho => by
    simp at e ev
    subst e ev
    have ef := hu _ a
    subst ef
    have hd := List.nodup_append.mp nd
    refine ⟨by simp, .cons ho (Owns.carry (Same.refl S) _ t fun q hq => upd_ne fun z => ?_)⟩
    exact hd.2.2 _ (by simp) q hq z.symm
  | _, _, _, j + 1, _, _, p, .cons a t, nd, e, ev, hu, ho => by
    have hd := List.nodup_append.mp nd
    obtain ⟨h1, h2⟩ := Owns.chg (j := j) t hd.2.1 (by simpa using e) (by simpa using ev) hu ho
    refine ⟨List.mem_append_right _ h1, .cons (a.carry (Same.refl S) _ fun q hq => upd_ne fun z => ?_) h2⟩
    subst z
    exact hd.2.2 q hq q h1 rfl
/-- the parts of a list or a tuple with own parts -/
def nestP : Option (Option W) → Option (List W)
  | some (some (.nst ws)) => some ws
  | some (some (.ntp ws)) => some ws
  | _ => none
def nestS (u : Option (Option W)) (ws : List W) : Option W := match u with
  | some (some (.nst _)) => some (.nst ws)
  | some (some (.ntp _)) => some (.ntp ws)
  | _ => none
def mNAppend (F : List Nat) (i : Nat) (mk : En → Res D) (ma : En → Res (List D)) : En → Res Fl := fun env => match nestP (fz F env)[i]? with
  | some ws => (mk (fz F env)).bind fun kd => match kd with
    | .int n => match ixN ws.length n with
      | some j => match ws[j]? with
        | some (.lst xs) => (ma (fz F env)).bind fun ds => match ds with
          | [d] => if small xs.length then .ok (.nx ((fz F env).set i (nestS (fz F env)[i]? (ws.set j (.lst (xs ++ [d])))))) else .st
          | _ => .st
        | _ => .st
      | none => .st
    | _ => .st
  | none => .st
instance (priority := high) semS_nappend {i : Nat} {tk : TE} {t : TA} {Fk F : List Nat} {mk : En → Res W} {ma : En → Res (List D)} [hk : SemE K E tk Fk mk] [h : SemA K E t F ma] : SemS K Mu E (tDrop (tBM K "list" rAppend (tOp (rIxU K) (tVar i) tk) t)) (mNAppend (Fk ++ F) i (mD mk) ma) where
  run := fun {f B S0 D env σ S H} hm x p => by
    obtain ⟨S1, x1, s1⟩ := x.fz (Fk ++ F)
    unfold mNAppend at p
    split at p
    case h_2 => exact p.elim
    rename_i ws ew
    have hw : ∃ w, (fz (Fk ++ F) env)[i]? = some (some w) := by
      unfold nestP at ew
      split at ew <;> first | exact ⟨_, by assumption⟩ | cases ew
    obtain ⟨w, e⟩ := hw
    obtain ⟨v, fp, a, b, c⟩ := x1.vw.at_ i _ e
    refine ⟨v, a, ?_⟩
    cases ek : mD mk (fz (Fk ++ F) env) with
    | st => rw [ek] at p; exact p.elim
    | ex z => rw [ek] at p; exact hk.ex x1.vw (Res.of_exm ek) (xr_up x1.base p)
    | ok kd =>
      rw [ek] at p
      simp only [Res.bind_ok] at p
      refine hk.okD x1.vw ek fun y S2 H2 g2 r2 => ?_
      split at p
      case h_2 => exact p.elim
      rename_i n
      cases r2
      split at p
      case h_2 => exact p.elim
      rename_i j hj
      split at p
      case h_2 => exact p.elim
      rename_i xs hx
      have x2 := x1.gr g2
      -- where it lies
      have lie : ∃ a0 vs fp0, v = .ref a0 ∧ Owns K S1 H vs ws fp0 ∧ (w = .nst ws ∧ H a0 = some (.lst vs) ∨ w = .ntp ws ∧ S1 a0 = some (.tup vs)) := by
        rw [e] at ew
        cases b with
        | nst hp o => cases ew; exact ⟨_, _, _, rfl, o, .inl ⟨rfl, hp⟩⟩
        | ntp hp o => cases ew; exact ⟨_, _, _, rfl, o, .inr ⟨rfl, hp⟩⟩
        | _ => cases ew
      obtain ⟨a0, vs, fp0, rfl, ow, sq⟩ := lie
      obtain ⟨u, fq, hu, ou, _⟩ := ow.get hx
      cases ou with
      | lst hq rq =>
      rename_i q us _
      have hix : atI vs n = some (.ref q) := by
        unfold atI
        rw [show ixN vs.length n = some j by rw [ow.len]; exact hj]
        exact hu
      have goal2 : tyV K "list" (.ref q) H2 ∧ t σ H2 fun zs H3 => rAppend (.ref q) zs H3 fun _ H4 => D.nx σ H4 := by
        refine ⟨.inl ⟨rfl, _, SqL.of (g2.hh _ _ hq)⟩, ?_⟩
        cases ea : ma (fz (Fk ++ F) env) with
        | ex z => rw [ea] at p; exact h.ex x2.vw ea (xr_up x2.base p)
        | st => rw [ea] at p; exact p.elim
        | ok ds =>
          rw [ea] at p
          simp only [Res.bind_ok] at p
          refine h.ok x2.vw ea fun zs S3 H3 g3 r3 => ?_
          split at p
          case h_2 => exact p.elim
          rename_i d
          split at p
          case isFalse => exact p.elim
          rename_i hs
          cases r3 with
          | cons r31 r32 =>
          cases r32
          rename_i z1
          have x3 := x2.gr g3
          have hq3 := g3.hh _ _ (g2.hh _ _ hq)
          refine ⟨_, _, _, rfl, rfl, hq3, by rw [rq.len]; exact small_line hs, ?_⟩
          have rq3 := (rq.up g2.ss).up g3.ss
          have nn : New K S3 H3 S3 H3 .non (.sh .non) [] := .sh (.refl g3.sub) .non
          have one : ∀ fq, Own K S3 H3 (.ref q) (.lst xs) fq → fq = [q] := fun fq o => by cases o; rfl
          have new : Own K S3 (upd H3 q (.lst (us ++ [z1]))) (.ref q) (.lst (xs ++ [d])) [q] := .lst upd_same (rq3.app (.cons r31 .nil))
          rcases sq with ⟨rfl, hp⟩ | ⟨rfl, hp⟩
          · have hp3 := g3.hh _ _ (g2.hh _ _ hp)
            rw [e] at p
            refine p _ _ _ (x3.mutN nn e a rfl fun fpx ho hnd _ => ?_) ((s1.trans g2.ss).trans g3.ss)
            cases ho with
            | nst hp' o' =>
            rw [hp3] at hp'
            cases hp'
            have hnd' := List.nodup_cons.mp hnd
            obtain ⟨h1, h2⟩ := Owns.chg o' hnd'.2 hx hu one new
            exact ⟨List.mem_cons_of_mem _ h1, _, .nst (by rw [upd_ne fun z => hnd'.1 (by rw [z]; exact h1)]; exact hp3) h2, hnd, fun q hq => .inl hq⟩
          · have hp3 := g3.ss _ _ (g2.ss _ _ hp)
            rw [e] at p
            refine p _ _ _ (x3.mutN nn e a rfl fun fpx ho hnd _ => ?_) ((s1.trans g2.ss).trans g3.ss)
            cases ho with
            | ntp hp' o' =>
            rw [hp3] at hp'
            cases hp'
            obtain ⟨h1, h2⟩ := Owns.chg o' hnd hx hu one new
            exact ⟨h1, _, .ntp hp3 h2, hnd, fun q hq => .inl hq⟩
      rcases sq with ⟨_, hp⟩ | ⟨_, hp⟩
      · exact .inl (.inl ⟨_, _, _, _, rfl, rfl, SqL.of (g2.hh _ _ hp), hix, goal2⟩)
      · exact .inl (.inr (.inl ⟨_, _, _, _, rfl, rfl, SqT.of (g2.sub _ _ (g2.ss _ _ hp)), hix, goal2⟩))
end
end Ly

set_option Elab.async false
set_option linter.all false
set_option maxRecDepth 100000
/-! LyN8: targets that put into dicts and lists; a.append(b.pop(i)); wide products; >>. -/
namespace Ly
open PySem L2 PyProof.Rows
section
variable {K : PySem.W.Frag} {Mu : List Nat} {E : XK}
/-- what a target makes of an item, where the heap may change -/
class SemGP (K : PySem.W.Frag) (g : TG) (ts F : outParam (List Nat)) (m : outParam (D → En → Res En)) : Prop where
  run : ∀ {f B S0 env σ S H v d Q e}, ts.all (free0 f.mu) = true → StOk K f B S0 env σ S H → Rep K S v d → m d env = .ok e → (∀ σ' S' H', StOk K f B S0 e σ' S' H' → Same S S' → Q σ' H') → g v σ H Q
  ex : ∀ {d env x}, m d env = .ex x → False
class SemGsP (K : PySem.W.Frag) (g : TGs) (ts F : outParam (List Nat)) (m : outParam (List D → En → Res En)) : Prop where
  run : ∀ {f B S0 env σ S H vs ds Q e}, ts.all (free0 f.mu) = true → StOk K f B S0 env σ S H → Reps K S vs ds → m ds env = .ok e → (∀ σ' S' H', StOk K f B S0 e σ' S' H' → Same S S' → Q σ' H') → g vs σ H Q
  ex : ∀ {d env x}, m d env = .ex x → False
instance semGP_name {i : Nat} : SemGP K (gName i) [i] [] (mName i) where
  run := fun hi x r e k => semG_name.run hi x r e fun σ' y => k σ' _ _ y (Same.refl _)
  ex := fun e => by cases e
def noX {α : Type} : Res α → Res α
  | .ok a => .ok a
  | _ => .st
theorem noX_ok {α : Type} {r : Res α} {a : α} (h : noX r = .ok a) : r = .ok a := by
  cases r with
  | ok b => exact h
  | _ => cases h
theorem noX_ex {α : Type} {r : Res α} {x : Xc} (h : noX r = .ex x) : False := by cases r <;> cases h
/-- d[k] = what comes -/
def mGDSub (i : Nat) (mk : En → Res D) : D → En → Res En := fun d env => match env[i]? with
  | some (some w) => (noX (mk env)).bind fun kd => (noX (putDic kd d w)).map fun w' => env.set i (some w')
  | _ => .st
instance semGP_dsub {i : Nat} {tk : TE} {Fk : List Nat} {mk : En → Res W} [hk : SemE K E0 tk Fk mk] : SemGP K (gSub (tVar i) tk rSetD) [] Fk (mGDSub i (mD mk)) where
  run := fun {f B S0 env σ S H v d Q e} hi x r e' k => by
    unfold mGDSub at e'
    split at e'
    · rename_i w ew
      obtain ⟨kd, ek, e'⟩ := Res.of_ok e'
      obtain ⟨w', ep, rfl⟩ := Res.of_okm e'
      obtain ⟨u, fp, a, b, c⟩ := x.vw.at_ i _ ew
      refine ⟨u, a, ?_⟩
      refine hk.okD x.vw (noX_ok ek) fun y S2 H2 g2 r2 => ?_
      show ∃ a H', u = .ref a ∧ DPut H2 a y v H' ∧ Q σ H'
      exact putDic_ok (x.gr g2) ew a r2 (r.up g2.ss) (noX_ok ep) fun H' x' => k _ _ _ x' g2.ss
    · cases e'
  ex := fun {d env x} e => by
    unfold mGDSub at e
    split at e
    · rcases Res.of_ex e with e | ⟨kd, _, e⟩
      · exact noX_ex e
      · exact noX_ex (Res.of_exm e)
    · cases e
/-- l[k] = what comes -/
def mGLSub (i : Nat) (mk : En → Res D) : D → En → Res En := fun d env => match env[i]? with
  | some (some (.lst xs)) => (noX (mk env)).bind fun kd => match kd with
    | .int n => match ixN xs.length n with
      | some j => .ok (env.set i (some (.lst (xs.set j d))))
      | none => .st
    | _ => .st
  | _ => .st
instance semGP_lsub {i : Nat} {tk : TE} {Fk : List Nat} {mk : En → Res W} [hk : SemE K E0 tk Fk mk] : SemGP K (gSub (tVar i) tk rSetL) [] Fk (mGLSub i (mD mk)) where
  run := fun {f B S0 env σ S H v d Q e} hi x r e' k => by
    unfold mGLSub at e'
    split at e'
    · rename_i xs ew
      obtain ⟨kd, ek, e'⟩ := Res.of_ok e'
      split at e'
      · rename_i n
        split at e'
        · rename_i j hj
          cases e'
          obtain ⟨u, fp, a, b, c⟩ := x.vw.at_ i _ ew
          refine ⟨u, a, ?_⟩
          cases b with
          | lst hl hr =>
            refine hk.okD x.vw (noX_ok ek) fun y S2 H2 g2 r2 => ?_
            cases r2
            have x2 := x.gr g2
            refine ⟨_, _, n, j, rfl, rfl, g2.hh _ _ hl, by rw [hr.len]; exact hj, ?_⟩
            refine k _ _ _ (x2.mut ew (fun fq o => ?_) a (.lst upd_same ((hr.up g2.ss).setAt (r.up g2.ss) j))) g2.ss
            cases o; rfl
        · cases e'
      · cases e'
    · cases e'
  ex := fun {d env x} e => by
    unfold mGLSub at e
    split at e
    · rcases Res.of_ex e with e | ⟨kd, _, e⟩
      · exact noX_ex e
      · split at e
        · split at e <;> cases e
        · cases e
    · cases e
instance semGsP_nil : SemGsP K gNil [] [] mGNil where
  run := fun {f B S0 env σ S H vs ds Q e} hi x r e k => by
    cases ds with
    | nil => cases r; cases e; exact ⟨rfl, k _ _ _ x (Same.refl S)⟩
    | cons _ _ => cases e
  ex := fun {d env x} e => by cases d <;> cases e
instance semGsP_cons {g : TG} {gr : TGs} {ts tr F1 F2 : List Nat} {m : D → En → Res En} {mr : List D → En → Res En} [hg : SemGP K g ts F1 m] [hr : SemGsP K gr tr F2 mr] : SemGsP K (gCons g gr) (ts ++ tr) (F1 ++ F2) (mGCons m mr) where
  run := fun {f B S0 env σ S H vs ds Q e} hi x r e k => by
    cases ds with
    | nil => cases e
    | cons d ds =>
      cases r with
      | cons r1 r2 =>
        rw [List.all_append, Bool.and_eq_true] at hi
        obtain ⟨e1, h1, h2⟩ := Res.of_ok e
        refine ⟨_, _, rfl, hg.run hi.1 x r1 h1 fun σ' S' H' y s => ?_⟩
        exact hr.run hi.2 y (r2.up s) h2 fun σ2 S2 H2 z s2 => k _ _ _ z (s.trans s2)
  ex := fun {d env x} e => by
    cases d with
    | nil => cases e
    | cons d ds =>
      rcases Res.of_ex e with e | ⟨_, _, e⟩
      · exact hg.ex e
      · exact hr.ex e
instance semGP_tup {n : Nat} {g : TGs} {ts F1 : List Nat} {m : List D → En → Res En} [hg : SemGsP K g ts F1 m] : SemGP K (gTup K n g) ts F1 (mGTup n m) where
  run := fun {f B S0 env σ S H v d Q e} hi x r e k => by
    unfold mGTup at e
    split at e
    · rename_i xs
      split at e
      · rename_i hn
        cases r with
        | tup a b => exact ⟨_, _, rfl, SqT.of (x.sub _ _ a), by rw [b.len]; exact hn, hg.run hi x b e k⟩
      · cases e
    · cases e
  ex := fun {d env x} e => by
    unfold mGTup at e
    split at e
    · split at e
      · exact hg.ex e
      · cases e
    · cases e
def mAsgP (Mu ts F : List Nat) (me : En → Res W) (mg : D → En → Res En) : En → Res Fl := fun env => if ts.all (free0 Mu) then (mD me (fz F env)).bind fun d => (mg d (fz F env)).map .nx else .st
instance (priority := low) semS_asgP {te : TE} {F : List Nat} {me : En → Res W} {n : Nat} {g : TGs} {ts F1 : List Nat} {mg : D → En → Res En} [h : SemE K E te F me] [hg : SemGP K (gTup K n g) ts F1 mg] : SemS K Mu E (tAsg te (gTup K n g)) (mAsgP Mu ts (F ++ F1) me mg) where
  run := fun {f B S0 D env σ S H} hm x p => by
    obtain ⟨S1, x1, s1⟩ := x.fz (F ++ F1)
    unfold mAsgP at p
    split at p
    case isFalse => exact p.elim
    rename_i hi
    rw [← hm] at hi
    cases e : mD me (fz (F ++ F1) env) with
    | ok d =>
      rw [e] at p
      refine h.okD x1.vw e fun v S' H' g r => ?_
      show gTup K n _ v σ H' D.nx
      cases e2 : mg d (fz (F ++ F1) env) with
      | ok e3 =>
        simp only [Res.bind_ok, e2, Res.map_ok] at p
        exact hg.run hi (x1.gr g) r e2 fun σ' S2 H2 y s => p _ _ _ y ((s1.trans g.ss).trans s)
      | ex z => exact (hg.ex e2).elim
      | st => simp only [Res.bind_ok, e2, Res.map_st] at p; exact p.elim
    | ex z =>
      rw [e] at p
      exact h.ex x1.vw (Res.of_exm e) (xr_up x1.base p)
    | st => rw [e] at p; exact p.elim
/-! a.append(b.pop(i)) -/
def mAppPop (F : List Nat) (i j : Nat) (ma : En → Res (List D)) : En → Res Fl := fun env => if i = j then .st else match (fz F env)[i]?, (fz F env)[j]? with
  | some (some (.lst xs)), some (some (.lst ys)) => (noX (ma (fz F env))).bind fun ds => match ds with
    | [.int n] => match popD ys n with
      | some (d, zs) => if small xs.length then .ok (.nx (((fz F env).set j (some (.lst zs))).set i (some (.lst (xs ++ [d]))))) else .st
      | none => .st
    | _ => .st
  | _, _ => .st
instance (priority := high) semS_appPop {i j : Nat} {t : TA} {F : List Nat} {ma : En → Res (List D)} [h : SemA K E t F ma] : SemS K Mu E (tDrop (tBM K "list" rAppend (tVar i) (tCons (tBM K "list" rPopAt (tVar j) t) tNil))) (mAppPop F i j ma) where
  run := fun {f B S0 D env σ S H} hm x p => by
    obtain ⟨S1, x1, s1⟩ := x.fz F
    unfold mAppPop at p
    split at p
    case isTrue => exact p.elim
    rename_i hij
    split at p
    case h_2 => exact p.elim
    rename_i xs ys ei ej
    cases ea : noX (ma (fz F env)) with
    | ex z => exact (noX_ex ea).elim
    | st => rw [ea] at p; exact p.elim
    | ok ds =>
      rw [ea] at p
      simp only [Res.bind_ok] at p
      split at p
      case h_2 => exact p.elim
      rename_i n
      split at p
      case h_2 => exact p.elim
      rename_i d zs hp
      split at p
      case isFalse => exact p.elim
      rename_i hs
      obtain ⟨v, fp, a, b, c⟩ := x1.vw.at_ i _ ei
      cases b with
      | lst hl hr =>
        refine ⟨_, a, .inl ⟨rfl, _, SqL.of hl⟩, ?_⟩
        refine pop_ok (h := h) x1 ej (noX_ok ea) hp fun u S2 H2 ss ru x2 => ?_
        have ei2 : ((fz F env).set j (some (.lst zs)))[i]? = some (some (.lst xs)) := by rw [List.getElem?_set_ne (Ne.symm hij)]; exact ei
        obtain ⟨v2, fp2, a2, b2, c2⟩ := x2.vw.at_ i _ ei2
        rw [a] at a2
        cases a2
        cases b2 with
        | lst hl2 hr2 =>
          refine ⟨_, _, _, rfl, rfl, hl2, by rw [hr2.len]; exact small_line hs, ?_⟩
          refine p _ _ _ (x2.mut ei2 (fun fq o => ?_) a (.lst upd_same (hr2.app (.cons ru .nil)))) (s1.trans ss)
          cases o; rfl
/-! wide products, shifts -/
def wide4 (i : Int) : Prop := -(2 ^ 240) < i ∧ i < 2 ^ 240
instance (i : Int) : Decidable (wide4 i) := inferInstanceAs (Decidable (_ ∧ _))
def mulWD : D → D → Res D
  | .int a, .int b => if wide4 a ∧ wide4 b then .ok (.int (a * b)) else .st
  | _, _ => .st
def rMulWI : R2 := rI CMulW fun i j => .int (i * j)
theorem op_mulWI {X : Cx} : OpR X (binaryOp .Mult) rMulWI := op_mulW
theorem wide4_nat {i : Int} (h : wide4 i) : i.natAbs < 2 ^ 240 := by
  obtain ⟨h1, h2⟩ := h
  have e : ((2 ^ 240 : Nat) : Int) = 2 ^ 240 := by rw [Int.natCast_pow]; rfl
  generalize (2 ^ 240 : Nat) = n at *
  omega
instance opX_mulW : OpX K rMulWI mulWD where
  ok := fun {H v u d e Q z} rv ru h k => by
    unfold mulWD at h
    split at h <;> first | cases h | skip
    split at h
    · rename_i hc
      cases h; cases rv; cases ru
      exact ⟨_, _, rfl, rfl, wide_mul (wide4_nat hc.1) (wide4_nat hc.2) (by decide) (by decide) (by decide), k _ fun S => .int _⟩
    · cases h
  ex := fun h => by unfold mulWD at h; split at h <;> first | (split at h <;> cases h) | cases h
def shrD : D → D → Res D
  | .int a, .int b => if 0 ≤ b then .ok (.int (a / 2 ^ b.toNat)) else .st
  | _, _ => .st
def rShrI : R2 := rI (fun _ j => 0 ≤ j) fun i j => .int (i / 2 ^ j.toNat)
theorem op_shrI {X : Cx} : OpR X (binaryOp .RShift) rShrI := op_shr
instance opX_shr : OpX K rShrI shrD where
  ok := fun {H v u d e Q z} rv ru h k => by
    unfold shrD at h
    split at h <;> first | cases h | skip
    split at h
    · rename_i hc
      cases h; cases rv; cases ru; exact ⟨_, _, rfl, rfl, hc, k _ fun S => .int _⟩
    · cases h
  ex := fun h => by unfold shrD at h; split at h <;> first | (split at h <;> cases h) | cases h
/-! a, b = a list -/
def mGUnl (n : Nat) (m : List D → En → Res En) : D → En → Res En := fun d env => match d with
  | .lst xs => if xs.length = n then m xs env else .st
  | _ => .st
instance semG_unl {n : Nat} {g : TGs} {ts : List Nat} {m : List D → En → Res En} [hg : SemGs K g ts m] : SemG K (gUnl K n g) ts (mGUnl n m) where
  run := fun {f B S0 env σ S H v d Q e} hi x r e k => by
    unfold mGUnl at e
    split at e
    · rename_i xs
      split at e
      · rename_i hn
        cases r with
        | lst a b => exact ⟨_, _, rfl, SqL.of (x.sub _ _ a), by rw [b.len]; exact hn, hg.run hi x b e k⟩
      · cases e
    · cases e
  vw := fun {env σ S H v d Q e} x r e k => by
    unfold mGUnl at e
    split at e
    · rename_i xs
      split at e
      · rename_i hn
        cases r with
        | lst a b => exact ⟨_, _, rfl, SqL.of (x.sub _ _ a), by rw [b.len]; exact hn, hg.vw x b e fun σ' y wp => k σ' y wp⟩
      · cases e
    · cases e
  ex := fun {d env x} e => by
    unfold mGUnl at e
    split at e
    · split at e
      · exact hg.ex e
      · cases e
    · cases e
instance semS_asgU {te : TE} {F : List Nat} {me : En → Res W} {n : Nat} {g : TGs} {ts : List Nat} {mg : D → En → Res En} [h : SemE K E te F me] [hg : SemG K (gUnl K n g) ts mg] : SemS K Mu E (tAsg te (gUnl K n g)) (mAsgT Mu ts F me mg) where
  run := fun {f B S0 D env σ S H} hm x p => by
    obtain ⟨S1, x1, s1⟩ := x.fz F
    unfold mAsgT at p
    split at p
    case isFalse => exact p.elim
    rename_i hi
    rw [← hm] at hi
    cases e : mD me (fz F env) with
    | ok d =>
      rw [e] at p
      refine h.okD x1.vw e fun v S' H' g r => ?_
      show gUnl K n _ v σ H' D.nx
      cases e2 : mg d (fz F env) with
      | ok e3 =>
        simp only [Res.bind_ok, e2, Res.map_ok] at p
        exact hg.run hi (x1.gr g) r e2 fun σ' y => p _ _ _ y (s1.trans g.ss)
      | ex z => exact (hg.ex e2).elim
      | st => simp only [Res.bind_ok, e2, Res.map_st] at p; exact p.elim
    | ex z =>
      rw [e] at p
      exact h.ex x1.vw (Res.of_exm e) (xr_up x1.base p)
    | st => rw [e] at p; exact p.elim
end
section
variable {X : Cx} (K : PySem.W.Frag) (hK : X.K = K)
include hK
theorem kg_unl {es : List Expr} {k : Nat} {t : TGs} {n : Nat} {pos : Pos} (hc : X.calm = true) (h : PGs X es t)
    (hn : (assignEach es X.env).length = n := by rfl) (hst : (assignEach es X.env).findIdx? (·.1) = none := by rfl) : PG X (.Tuple es k pos) (gUnl K n t) := by subst hK; exact pg_unl hc h hn hst
end
end Ly

set_option Elab.async false
set_option linter.all false
set_option maxRecDepth 100000
set_option maxHeartbeats 4000000
/-! LyE1: an own exception that a try catches and a name keeps behind it. -/
namespace Ly
open PySem PySem.Spec PyProof.Rows L2
/-- an exception of the class cls, its dict d, at a -/
def ExH (cls : Value) (d : Option Addr) (a : Addr) : HO := .ext fun h => ∃ (oe : Obj) (vs : Array Value), h.get? a = some oe ∧ Zc cls d oe ∧ oe.data = .fields vs
section
variable {X : Cx} {pins : List (Addr × Obj)} {σ : L2.St} {H : Hp} {s : Shared} {a : Addr} {o : HO}
/-- an object that stood there untracked is tracked from now on -/
theorem inv_track (I : Inv X pins σ H s) (hn : H a = none) (hL : a ≠ X.env.locals) (hC : ∀ x c, X.env.cells.lookup x = some c → c ≠ a) (h0 : X.s_0.heap.get? a = none) (hp : ∀ p ∈ X.pn ++ pins, p.1 ≠ a) (new : ObjOk X.prog X.w (upd H a o) s.heap a o) : Inv X pins σ (upd H a o) s where
  ok := I.ok
  os := I.os
  bare := I.bare
  base := ⟨I.base.keep, I.base.slot, fun b u q n hx => by
    rw [upd_ne (fun z => by rw [z, h0] at q; cases q)]
    exact I.base.free b u q n hx, I.base.there, fun b xs q => by
    have q1 := I.base.tups b xs q
    rw [upd_ne (ne_of_none q1 hn)]; exact q1, fun b ob u q => by
    have q1 := I.base.frzs b ob u q
    rw [upd_ne (ne_of_none q1 hn)]; exact q1, fun b ps q => by
    obtain ⟨m, q1⟩ := I.base.tbls b ps q
    exact ⟨m, by rw [upd_ne (ne_of_none q1 hn)]; exact q1⟩⟩
  loc := I.loc
  cell := I.cell
  free := by rw [upd_ne (Ne.symm hL)]; exact I.free
  freeC := fun x c e => by rw [upd_ne (hC x c e)]; exact I.freeC x c e
  pin := fun p hp' => by
    obtain ⟨e, n, r⟩ := I.pin p hp'
    exact ⟨e, by rw [upd_ne (hp p hp')]; exact n, r⟩
  hok := I.hok.laidN (fun _ _ q => q) hn new
  len := I.len
/-- what the clause wishes of an exception of the body: it is of the class, and what follows goes on with it under the kept name (slot j); the clause's own name (slot i) is gone -/
def wKept (K : PySem.W.Frag) (c : Value) (i j : Nat) (D : Ends) : WX := fun cls d σ H =>
  PySem.W.exmOne K cls c = some true ∧ ∀ a, H a = none → D.nx (((σ.set i (some (.ref a))).set j (some (.ref a))).set i none) (upd H a (ExH cls d a))
end
section
variable {X : Cx} {x n y : Str} {c : Value} {i j : Nat} {body : List Stmt} {np py pe pa pos pos' : Pos} {tb : WX → TS}
/-- try: body / except x as n: y = n -/
theorem ps_try_kept (hx : X.ex = []) (hs : X.stack = X.env :: X.outer) (hf : X.env.frame = some X.env.locals) (hN : X.N.Nodup) (hi : X.N[i]? = some n) (hln : X.env.kindOf n = some .local) (hj : X.N[j]? = some y) (hlj : X.env.kindOf y = some .local) (hc : Names X x c)
    (hsu : ∀ (a : Addr) (oe : Obj) (pn : List (Addr × Obj)), PSs (X.suite a ((a, oe) :: pn)) [.Assign [.Name y py] (.Name n pe) pa] (tAsg (tVar i) (gName j)))
    (hb : ∀ (W : WX) (pn : List (Addr × Obj)) (xe : Value → Shared → Prop), Takes (X.tr pn xe) W → PassesOwn (model X.prog X.w) X.A X.env xe → PSs (X.tr pn xe) body (tb W)) :
    PS X (.Try body [.ExceptHandler (some (.Name x np)) (some n) [.Assign [.Name y py] (.Name n pe) pa] pos'] [] [] pos) (fun D σ H => tb (wKept X.K c i j D) D σ H) := by
  refine ⟨fun pins s σ H D I h => ?_⟩
  have ok := I.ok
  have frs_ : X.A.frames = some (X.env :: X.outer) := by rw [ok.frames, hs]
  refine wpAny_Try_except ?_
  refine wpAny_mono ((hb _ _ (fun e s1 => wpAny (model X.prog X.w) X.A (noteFrame e X.env) (fun _ s2 => wpAny (model X.prog X.w) X.A (setFlight e none) (fun _ s3 =>
    wpAny (model X.prog X.w) X.A (handleBy e X.env [.ExceptHandler (some (.Name x np)) (some n) [.Assign [.Name y py] (.Name n pe) pa] pos']) (SP X pins D) X.xe s3) X.xe s2) X.xe s1) (fun u s1 q => ?_) PassesOwn.looking).run [] s σ H D (I.toTry _) h) (fun f s1 q => ?_) (fun _ _ q => q)
  · obtain ⟨a, B, sI, pI, σ1, H1, cls, d, rfl, IT, nb, up, sky, na, os, ag, yes, go⟩ := q
    have J := IT.ofTry ok
    -- the exception is no thing that stood there before
    refine Sky.land Zc.steady frs_ hf (by rw [← hs]; exact sky) fun h3 fl3 up3 => ?_
    obtain ⟨o3, v3, g3, z3, d3⟩ := fl3.there
    have nfr : a ∉ frs (X.env :: X.outer) := fun hm => by
      obtain ⟨_, o', g', nf⟩ := fl3.2.2.1.mem hm
      rw [g3] at g'
      cases g'
      exact nf _ d3
    have new : sI.heap.get? a = none := by
      cases e : sI.heap.get? a with
      | none => rfl
      | some o' =>
        have := nb a o' e (by rw [hs]; exact nfr)
        rw [fl3.2.1] at this
        cases this
    have nL : a ≠ X.env.locals := fun z => nfr (List.mem_filterMap.mpr ⟨X.env, List.mem_cons_self, by rw [hf, z]⟩)
    have nF : a ∉ X.fs := fun hm => by
      obtain ⟨e, he, q⟩ := List.mem_filterMap.mp hm
      exact nfr (List.mem_filterMap.mpr ⟨e, List.mem_cons_of_mem _ he, q⟩)
    have n0 : X.s_0.heap.get? a = none := by
      cases e : X.s_0.heap.get? a with
      | none => rfl
      | some o' =>
        obtain ⟨o2, e2⟩ := J.base.there a o' e (by rw [hx]; simp)
        rw [new] at e2
        cases e2
    have nC : ∀ z c, X.env.cells.lookup z = some c → c ≠ a := fun z c e q => by
      obtain ⟨v, o', g', _⟩ := J.cell z c e
      rw [q, new] at g'
      cases g'
    have nP : ∀ p ∈ X.pn ++ pins, p.1 ≠ a := fun p hp q => by
      have := (J.pin p hp).1
      rw [q, new] at this
      cases this
    have S3 := (J.landed nb fl3.1 (up.trans up3) os ag : Inv X pins σ1 H1 { s1 with heap := h3 }).suite g3 d3 na nL nF
    refine wpAny_handleBy_cons (codeAny_handlers_test ?_) (by intro q; cases q)
    have LT : PySem.W.Looks (model X.prog X.w) h3 (typeOf (.ref a)) cls := fun A Q E s k q => wpAny_typeOf_ref (k _ _ g3) (by rw [z3.1]; exact q)
    have hit := PySem.W.exm_one (M := model X.prog X.w) S3.kIn LT yes
    have nameOf : ∀ {Q : Value → Shared → Prop} {E : Value → Shared → Prop}, Q c { s1 with heap := h3 } → wpAny (model X.prog X.w) (X.A.mark (some (.ref a))) (eval (.Name x np) X.env) Q E { s1 with heap := h3 } := fun {Q E} q => by
      obtain ⟨hg, hdbg, hm | ⟨hm, hv, hnn⟩⟩ := hc
      · exact ld_glob (X := X.suite a ((a, o3) :: (X.pn ++ pins))) S3 hg hm q hdbg
      · exact ld_blt (X := X.suite a ((a, o3) :: (X.pn ++ pins))) S3 hg hm hv q hnn hdbg
    refine nameOf (hit.here (codeAny_handlers_suite_as (HandSPX.lands_againZ fl3 fun h4 fl4 up4 => ?_)))
    obtain ⟨o4, v4, g4, z4, d4⟩ := fl4.there
    have S4 := (J.landed nb fl4.1 ((up.trans up3).trans up4) os ag : Inv X pins σ1 H1 { s1 with heap := h4 }).suite g4 d4 na nL nF
    refine store_ok (X := X.suite a ((a, o4) :: (X.pn ++ pins))) (v := .ref a) S4 hN hi (.inl hln) rfl (fun s5 S5 => ?_) (.inr hln)
    refine wpAny_mono ((hsu a o4 (X.pn ++ pins)).run [] s5 _ H1 { nx := fun σ' H' => σ' = (σ1.set i (some (.ref a))).set j (some (.ref a)) ∧ H' = H1, rt := fun _ _ => False, bk := fun _ _ => False, ct := fun _ _ => False } S5 ?_) (fun f s6 q => ?_) (fun _ _ z => False.elim z)
    · refine ⟨.ref a, ?_, rfl, rfl⟩
      rw [List.getElem?_set_self]
      have := (List.getElem?_eq_some_iff.mp hi).1
      rw [J.len]
      exact this
    · cases f with
      | next =>
        obtain ⟨σ6, H6, S6, rfl, rfl⟩ := q
        refine gone_ok (X := X.suite a ((a, o4) :: (X.pn ++ pins))) S6 hN hi hln fun s7 S7 => ?_
        obtain ⟨g7, n7, _⟩ := S7.pin (a, o4) (List.mem_append_left _ List.mem_cons_self)
        have T7 := inv_track (o := ExH cls d a) (S7.unsuite ok) n7 nL nC n0 nP ⟨⟨o4, v4, g7, z4, d4⟩, ⟨o4, g7⟩, fun _ _ ⟨o, v, q, r⟩ k => ⟨o, v, k o q, r⟩⟩
        exact ⟨_, _, T7, go a na⟩
      | brk => obtain ⟨_, _, _, q⟩ := q; cases q
      | cont => obtain ⟨_, _, _, q⟩ := q; cases q
      | ret u => obtain ⟨_, _, _, _, _, q⟩ := q; cases q
  · cases f with
    | next => obtain ⟨σ1, H1, J, q⟩ := q; exact wpAny_execs_nil ⟨σ1, H1, J.ofTry ok, q⟩
    | brk => obtain ⟨σ1, H1, J, q⟩ := q; exact ⟨σ1, H1, J.ofTry ok, q⟩
    | cont => obtain ⟨σ1, H1, J, q⟩ := q; exact ⟨σ1, H1, J.ofTry ok, q⟩
    | ret u => obtain ⟨v, σ1, H1, J, r, q⟩ := q; exact ⟨v, σ1, H1, J.ofTry ok, r, q⟩
end
end Ly

set_option Elab.async false
set_option linter.all false
set_option maxRecDepth 100000
set_option maxHeartbeats 4000000
/-! LyE2: isinstance of a kept exception; a name that holds one or None. -/
namespace Ly
open PySem PySem.Spec PyProof.Rows L2
section
variable {X : Cx}
/-- a kept exception of the class D at a; its dict, if it has one, is tracked -/
def ExAt (H : Hp) (a D : Addr) : Prop := ∃ d, H a = some (ExH (.ref D) d a) ∧ (d = none ∨ ∃ p fs, d = some p ∧ H p = some (.xd fs))
theorem ExAt.up {H H' : Hp} {a D : Addr} (h : ExAt H a D) (s : Same H H') : ExAt H' a D := by
  obtain ⟨d, h1, h2⟩ := h
  refine ⟨d, s a _ h1, ?_⟩
  rcases h2 with h2 | ⟨p, fs, h2, h3⟩
  · exact .inl h2
  · exact .inr ⟨p, fs, h2, s p _ h3⟩
theorem exh_inst {pins : List (Addr × Obj)} {σ : L2.St} {H : Hp} {s : Shared} {a D : Addr} (I : Inv X pins σ H s) (ha : ExAt H a D) : ∃ oe od, PySem.W.InstAt s.heap a oe D od := by
  obtain ⟨d, ha, hd⟩ := ha
  obtain ⟨⟨oe, vs, g, z, dt⟩, _⟩ := (show ObjOk X.prog X.w H s.heap a (ExH (.ref D) d a) from I.hok a _ ha)
  rcases hd with rfl | ⟨p, fs, rfl, hp⟩
  · exact ⟨oe, none, g, z.1, by unfold PySem.W.notCls; rw [dt] <;> rfl, by rw [z.2]; trivial⟩
  · obtain ⟨mA, hns, hr⟩ := (show ObjOk X.prog X.w H s.heap p (.xd fs) from I.hok p _ hp)
    obtain ⟨od, ho, hl⟩ := lookIn_ns hns
    exact ⟨oe, some od, g, z.1, by unfold PySem.W.notCls; rw [dt] <;> rfl, by rw [z.2]; exact ho⟩
theorem kit_exc {K : PySem.W.Frag} {a D : Addr} {oe : Obj} {od : Option Obj} (C : ExcC K D) : PySem.W.KitX K (.ref a) (.ref D) (fun h => PySem.W.InstAt h a oe D od) := by
  refine PySem.W.kitx_exc (gt := none) ?_ C.hg C.hk C.hs C.ha C.hn C.ht C.hm
  obtain ⟨cd, hc, _⟩ := PySem.W.any_some C.hd
  rw [hc]
  rfl
/-- isinstance(x, c), x a kept exception of the class D, c one class -/
def rIsH (K : PySem.W.Frag) : List V → Hp → VK → Prop := fun xs H Q => ∃ (a D : Addr) (c : V) (u : Value) (b : Bool), xs = [.ref a, c] ∧ ClsV c u ∧ ExAt H a D ∧ ExcC K D ∧ PySem.W.kitOne K (.ref D) u = some b ∧ Q (.bl b) H
/-- .. a tuple of classes -/
def rIsHT (K : PySem.W.Frag) : List V → Hp → VK → Prop := fun xs H Q => ∃ (a D tp : Addr) (cs : List V) (us : List Value) (b : Bool), xs = [.ref a, .ref tp] ∧ H tp = some (.tup cs) ∧ Paired ClsV cs us ∧ ExAt H a D ∧ ExcC K D ∧ PySem.W.kitAny K (.ref D) us = some b ∧ Q (.bl b) H
theorem call_isH : CallR X (.builtin "isinstance") (rIsH X.K) := by
  intro pins s σ H xs us Q I r h
  obtain ⟨a, D, c, u, b, rfl, k, ha, C, e, q⟩ := h
  obtain ⟨u1, u2, rfl, r1, r2⟩ := vals2 r
  have e2 := k.eq r2
  subst e2
  cases r1
  obtain ⟨oe, od, J⟩ := exh_inst I ha
  exact PySem.W.kia_one (kit_exc C) I.kIn J e (fun z => nomatch z) fun tk => ⟨.bl b, H, I.tok tk, rfl, q⟩
theorem call_isHT : CallR X (.builtin "isinstance") (rIsHT X.K) := by
  intro pins s σ H xs us Q I r h
  obtain ⟨a, D, tp, cs, ws, b, rfl, hT, k, ha, C, e, q⟩ := h
  obtain ⟨u1, u2, rfl, r1, r2⟩ := vals2 r
  cases (show u2 = Value.ref tp from r2)
  cases r1
  obtain ⟨oe, od, J⟩ := exh_inst I ha
  obtain ⟨_, its, rv, o, h1, h2, n, h3⟩ := (show ObjOk X.prog X.w H s.heap tp (.tup cs) from I.hok tp _ hT)
  have e3 := ClsV.all k rv
  subst e3
  obtain ⟨oc, od, dt, sl⟩ := o
  simp only at h2 h3
  subst h2 h3
  exact PySem.W.kia_tup (kit_exc C) I.kIn J h1 e (fun z => nomatch z) fun tk => ⟨.bl b, H, I.tok tk, rfl, q⟩
/-- None or a kept exception; one class, several -/
def rIsE1 (K : PySem.W.Frag) : List V → Hp → VK → Prop := fun xs H Q => rIsi K xs H Q ∨ rIsH K xs H Q
def rIsEn (K : PySem.W.Frag) : List V → Hp → VK → Prop := fun xs H Q => rIsiT K xs H Q ∨ rIsHT K xs H Q
theorem call_isE1 : CallR X (.builtin "isinstance") (rIsE1 X.K) := CallR.or call_isi call_isH
theorem call_isEn : CallR X (.builtin "isinstance") (rIsEn X.K) := CallR.or call_isiT call_isHT
end
end Ly

set_option Elab.async false
set_option linter.all false
set_option maxRecDepth 100000
set_option maxHeartbeats 4000000
/-! LyE3: raise of an own class without own __init__; a def that tells how a call was refused. -/
namespace Ly
open PySem PySem.Spec PyProof.Rows L2
/-- where an own class stands (a fact that instances ask for) -/
class IsCls (K : PySem.W.Frag) (n : outParam Str) (C : Addr) : Prop where
  at_ : IsC K n C
def tRaiseO (C : Addr) (E : XK) : TS := fun _ _ H => E (.ref C) none H
theorem ps_raiseO {X : Cx} {E : XK} {C : Addr} {bmB : List Value} {B newId initId : String} {x m : Str} {j : Nat} {p p2 pos pos' : Pos} (F : ExcBaseFacts B newId initId bmB) (q : PySem.W.excIn X.K C bmB newId = true) (gC : X.mg x = some (.ref C)) (kC : PySem.W.keepIn X.K (.ref C) = true) (r : Raises X (.ref C)) (hg : Gl X x) (hc : X.calm = true) (tk : Takes X fun cls d _ H => E cls d H)
    (hdb : (x == ("__debug__" : Str)) = false := by decide) : PS X (.Raise (some (.Call (.Name x p) [.Constant (.str m) j p2] [] pos)) none pos') (tRaiseO C E) :=
  ps_raise hc tk (pmk_own F q gC kC r hg hdb)
/-- an own exception without own fields is raised -/
def mRaise (n : Str) : En → Res Fl := fun _ => .ex ⟨n, none⟩
section
variable {K : PySem.W.Frag} {Mu : List Nat} {E : XK}
instance semS_raiseO {n : Str} {C : Addr} [h : IsCls K n C] : SemS K Mu E (tRaiseO C E) (mRaise n) where
  run := fun _ x p => p _ _ _ x.base ⟨⟨C, h.at_, rfl⟩, rfl⟩
/-! what follows a try: tests of the name that keeps the exception (or None) -/
theorem xr_same {K : PySem.W.Frag} {x : Xc} {cls : Value} {d : Option Addr} {H H' : Hp} (h : XR K x cls d H) (s : Same H H') : XR K x cls d H' := by
  obtain ⟨h1, h2⟩ := h
  refine ⟨h1, ?_⟩
  cases e : x.fld with
  | none => rw [e] at h2; exact h2
  | some fz =>
    rw [e] at h2
    obtain ⟨p, v, hd, hp, r⟩ := h2
    exact ⟨p, v, hd, s p _ hp, r.up s⟩
def KV (K : PySem.W.Frag) (j : Nat) (x : Option Xc) (σ : L2.St) (H : Hp) : Prop := match x with
  | none => σ[j]? = some (some .non)
  | some x => ∃ a D d, IsC K x.cls D ∧ σ[j]? = some (some (.ref a)) ∧ H a = some (ExH (.ref D) d a) ∧ XR K x (.ref D) d H
theorem KV.up {K : PySem.W.Frag} {j : Nat} {x : Option Xc} {σ : L2.St} {H H' : Hp} (h : KV K j x σ H) (s : Same H H') : KV K j x σ H' := by
  cases x with
  | none => exact h
  | some x =>
    obtain ⟨a, D, d, h0, h1, h2, h3⟩ := h
    exact ⟨a, D, d, h0, h1, s a _ h2, xr_same h3 s⟩
theorem xr_at {K : PySem.W.Frag} {x : Xc} {a D : Addr} {d : Option Addr} {H : Hp} (ha : H a = some (ExH (.ref D) d a)) (h : XR K x (.ref D) d H) : ExAt H a D := by
  refine ⟨d, ha, ?_⟩
  obtain ⟨_, h2⟩ := h
  cases e : x.fld with
  | none => rw [e] at h2; exact .inl h2
  | some fz =>
    rw [e] at h2
    obtain ⟨p, v, hd, hp, r⟩ := h2
    exact .inr ⟨p, _, hd, hp⟩
/-- what a test comes to, by the class of what is kept -/
class SemKT (K : PySem.W.Frag) (j : Nat) (t : TT) (m : outParam (Option Xc → Option Bool)) : Prop where
  run : ∀ {x σ H Q b}, KV K j x σ H → m x = some b → (∀ H', Same H H' → Q b H') → t σ H Q
class SemKE (K : PySem.W.Frag) (j : Nat) (t : TE) (m : outParam (Option Xc → Option Bool)) : Prop where
  run : ∀ {x σ H Q b}, KV K j x σ H → m x = some b → (∀ H', Same H H' → Q (.bl b) H') → t σ H Q
variable {j : Nat}
instance semKT_not {t : TT} {m : Option Xc → Option Bool} [h : SemKT K j t m] : SemKT K j (tNot t) (fun x => (m x).map (!·)) where
  run := fun {x σ H Q b} v e k => by
    obtain ⟨c, e1, rfl⟩ := Option.map_eq_some_iff.mp e
    exact h.run v e1 fun H' s => k H' s
instance semKT_or {t u : TT} {m n : Option Xc → Option Bool} [h : SemKT K j t m] [g : SemKT K j u n] : SemKT K j (tOr t u) (fun x => (m x).bind fun b => if b = true then some true else n x) where
  run := fun {x σ H Q b} v e k => by
    obtain ⟨c, e1, e2⟩ := Option.bind_eq_some_iff.mp e
    refine h.run v e1 fun H' s => ?_
    split at e2
    · rename_i hc
      cases e2
      rw [if_pos hc]
      exact k H' s
    · rename_i hc
      rw [if_neg hc]
      exact g.run (v.up s) e2 fun H2 s2 => k H2 (s.trans s2)
instance semKT_and {t u : TT} {m n : Option Xc → Option Bool} [h : SemKT K j t m] [g : SemKT K j u n] : SemKT K j (tAnd t u) (fun x => (m x).bind fun b => if b = true then n x else some false) where
  run := fun {x σ H Q b} v e k => by
    obtain ⟨c, e1, e2⟩ := Option.bind_eq_some_iff.mp e
    refine h.run v e1 fun H' s => ?_
    split at e2
    · rename_i hc
      rw [if_pos hc]
      exact g.run (v.up s) e2 fun H2 s2 => k H2 (s.trans s2)
    · rename_i hc
      cases e2
      rw [if_neg hc]
      exact k H' s
/-- a value that is a truth, asked -/
instance semKT_tru {t : TE} {m : Option Xc → Option Bool} [h : SemKE K j t m] : SemKT K j (tTruW K t) m where
  run := fun {x σ H Q b} v e k => h.run v e fun H' s => ⟨b, .inl rfl, k H' s⟩
instance semKT_test {t : TE} {m : Option Xc → Option Bool} [h : SemKE K j t m] : SemKT K j (tTest t) m where
  run := fun {x σ H Q b} v e k => h.run v e fun H' s => ⟨b, rfl, k H' s⟩
/-- how the class c (a value) is asked of None and of a kept exception -/
class KitC (K : PySem.W.Frag) (c : V) (m : outParam (Option Xc → Option Bool)) : Prop where
  on : ∃ u, ClsV c u ∧ (∀ b, m none = some b → PySem.W.kitOne K (.type "NoneType") u = some b) ∧ ∀ (n : Xc) D b, IsC K n.cls D → m (some n) = some b → ExcC K D ∧ PySem.W.kitOne K (.ref D) u = some b
class KitN (K : PySem.W.Frag) (cs : List V) (m : outParam (Option Xc → Option Bool)) : Prop where
  few : cs.length ≤ 1000
  on : ∃ us, Paired ClsV cs us ∧ (∀ b, m none = some b → PySem.W.kitAny K (.type "NoneType") us = some b) ∧ ∀ (n : Xc) D b, IsC K n.cls D → m (some n) = some b → ExcC K D ∧ PySem.W.kitAny K (.ref D) us = some b
instance semKE_is1 {c : V} {m : Option Xc → Option Bool} [h : KitC K c m] : SemKE K j (tCB (rIsE1 K) (tCons (tVar j) (tCons (tC c) tNil))) m where
  run := fun {x σ H Q b} v e k => by
    obtain ⟨u, hu, h0, h1⟩ := h.on
    cases x with
    | none => exact ⟨.non, v, .inl ⟨.non, c, _, u, b, rfl, hu, .base .non, h0 b e, k H (Same.refl H)⟩⟩
    | some n =>
      obtain ⟨a, D, d, v0, v1, v2, v3⟩ := v
      have v2 := xr_at v2 v3
      obtain ⟨C, e1⟩ := h1 n D b v0 e
      exact ⟨.ref a, v1, .inr ⟨a, D, c, u, b, rfl, hu, v2, C, e1, k H (Same.refl H)⟩⟩
/-- written values, one behind the other -/
class TCs (t : TA) (cs : outParam (List V)) : Prop where
  eq : ∀ {σ H Q}, Q cs H → t σ H Q
instance tcs_nil : TCs tNil [] := ⟨fun q => q⟩
instance tcs_cons {c : V} {t : TA} {cs : List V} [h : TCs t cs] : TCs (tCons (tC c) t) (c :: cs) := ⟨fun q => h.eq q⟩
instance semKE_isn {t : TA} {cs : List V} {m : Option Xc → Option Bool} [ht : TCs t cs] [h : KitN K cs m] : SemKE K j (tCB (rIsEn K) (tCons (tVar j) (tCons (tTup t) tNil))) m where
  run := fun {x σ H Q b} v e k => by
    obtain ⟨us, hu, h0, h1⟩ := h.on
    have hl : cs.length ≤ sizeLine := by
      have := h.few
      rw [sizeLine_eq]
      omega
    have up : ∀ p, H p = none → Same H (upd H p (.tup cs)) := fun p hp b o e => by
      rw [upd_ne (ne_of_none e hp)]
      exact e
    cases x with
    | none => exact ⟨.non, v, ht.eq ⟨hl, fun p hp => .inl ⟨.non, p, cs, _, us, b, rfl, upd_same, hu, .base .non, h0 b e, k _ (up p hp)⟩⟩⟩
    | some n =>
      obtain ⟨a, D, d, v0, v1, v2, v3⟩ := v
      have v2 := xr_at v2 v3
      obtain ⟨C, e1⟩ := h1 n D b v0 e
      exact ⟨.ref a, v1, ht.eq ⟨hl, fun p hp => .inr ⟨a, D, p, cs, us, b, rfl, upd_same, hu, v2.up (up p hp), C, e1, k _ (up p hp)⟩⟩⟩
end
end Ly

set_option Elab.async false
set_option linter.all false
set_option maxRecDepth 100000
set_option maxHeartbeats 4000000
/-! LyE4: a def that makes a call, keeps what it raised, and tells of it. -/
namespace Ly
open PySem PySem.Spec PyProof.Rows L2
section
variable {K : PySem.W.Frag} {E : XK} {j : Nat}
/-- what follows the try: what it hands back (a flat value), if it does -/
class SemKS (K : PySem.W.Frag) (j : Nat) (t : TS) (m : outParam (Option Xc → Option (Option D))) : Prop where
  run : ∀ {x σ H R r}, KV K j x σ H → m x = some r → (∀ H', Same H H' → match r with
    | some d => ∀ v, (∀ S, Rep K S v d) → R.rt v H'
    | none => R.nx σ H') → t R σ H
instance semKS_next : SemKS K j tNext (fun _ => some none) where
  run := fun {x σ H R r} v e k => by
    cases e
    exact k H (Same.refl H)
instance semKS_seq {t u : TS} {m n : Option Xc → Option (Option D)} [h : SemKS K j t m] [g : SemKS K j u n] : SemKS K j (tSeq t u) (fun x => (m x).bind fun r => match r with
    | some d => some (some d)
    | none => n x) where
  run := fun {x σ H R r} v e k => by
    obtain ⟨r1, e1, e2⟩ := Option.bind_eq_some_iff.mp e
    refine h.run (R := { R with nx := u R }) v e1 fun H' s => ?_
    cases r1 with
    | some d => cases e2; exact k H' s
    | none => exact g.run (v.up s) e2 fun H2 s2 => k H2 (s.trans s2)
instance semKS_if {c : TT} {t u : TS} {mc : Option Xc → Option Bool} {m n : Option Xc → Option (Option D)} [hc : SemKT K j c mc] [h : SemKS K j t m] [g : SemKS K j u n] : SemKS K j (tIfS c t u) (fun x => (mc x).bind fun b => if b = true then m x else n x) where
  run := fun {x σ H R r} v e k => by
    obtain ⟨b, e1, e2⟩ := Option.bind_eq_some_iff.mp e
    refine hc.run v e1 fun H' s => ?_
    split at e2
    · rename_i hb
      rw [if_pos hb]
      exact h.run (v.up s) e2 fun H2 s2 => k H2 (s.trans s2)
    · rename_i hb
      rw [if_neg hb]
      exact g.run (v.up s) e2 fun H2 s2 => k H2 (s.trans s2)
instance semKS_bl {b : Bool} : SemKS K j (tRet (tC (.bl b))) (fun _ => some (some (.bl b))) where
  run := fun {x σ H R r} v e k => by
    cases e
    exact k H (Same.refl H) _ fun _ => .bl b
instance semKS_str {z : Str} : SemKS K j (tRet (tC (.str z))) (fun _ => some (some (.str z))) where
  run := fun {x σ H R r} v e k => by
    cases e
    exact k H (Same.refl H) _ fun _ => .str z
instance semKS_E {t : TE} {m : Option Xc → Option Bool} [h : SemKE K j t m] : SemKS K j (tRet t) (fun x => (m x).map fun b => some (.bl b)) where
  run := fun {x σ H R r} v e k => by
    obtain ⟨b, e1, rfl⟩ := Option.map_eq_some_iff.mp e
    exact h.run v e1 fun H' s => k H' s _ fun _ => .bl b
/-- not x, as a value -/
instance semKE_notT {t : TE} {m : Option Xc → Option Bool} [h : SemKE K j t m] : SemKE K j (tNotT K t) (fun x => (m x).map (!·)) where
  run := fun {x σ H Q b} v e k => by
    obtain ⟨c, e1, rfl⟩ := Option.map_eq_some_iff.mp e
    exact h.run v e1 fun H' s => ⟨c, rfl, k H' s⟩
instance semKE_notV {t : TE} {m : Option Xc → Option Bool} [h : SemKE K j t m] : SemKE K j (tNotV t) (fun x => (m x).map (!·)) where
  run := fun {x σ H Q b} v e k => by
    obtain ⟨c, e1, rfl⟩ := Option.map_eq_some_iff.mp e
    exact h.run v e1 fun H' s => ⟨c, rfl, k H' s⟩
end
theorem semKS_conv {K : PySem.W.Frag} {j : Nat} {t : TS} {m k : Option Xc → Option (Option D)} (h : SemKS K j t m) (e : ∀ x, k x ≠ none → m x = k x) : SemKS K j t k where
  run := fun {x σ H R r} v q c => h.run v (by rw [e x (by rw [q]; simp), q]) c
/-- what the def tells: of nothing raised, of an exception without fields -/
def toldK (m : Option Xc → Option (Option D)) (x : Option Xc) : Res W := match m x with
  | some (some d) => .ok (.sh d)
  | _ => .st
def refused (ok : Str → Bool) (r : List D → Res W) (m : Option Xc → Option (Option D)) : List D → Res W := fun ds => match r ds with
  | .ok _ => toldK m none
  | .ex x => if ok x.cls = true then toldK m (some x) else .st
  | .st => .st
section
variable {P : Program} {w : World} {K : PySem.W.Frag} {mg : Str → Option Value} {base : Heap}
/-- y = None; try: f(x) except c as n: y = n; and what tells of y -/
theorem fn_refused {x qual : Str} {st : Stmt} {f : Addr} {fd : FuncData} {N : List Str} {p : Str} {k : Nat} {i j : Nat} {c : Value} {ok : Str → Bool} {r : List D → Res W} {m : Option Xc → Option (Option D)} (F : Fun K x qual st f fd) (Sc : FnScope N [p] (defScope st)) (hij : i ≠ j) (hj0 : j ≠ 0) (hjN : j < N.length)
    (hc : ∀ n D, ok n = true → IsC K n D → PySem.W.exmOne K (.ref D) c = some true)
    (hb : ∀ (cdv : Value) (A : Around) (outer : List Env) (s : Shared) (H : Hp) (E : XK), Room k (A.deeper (envOfC qual (defScope st) s.heap.objs.size f cdv)) →
      ∃ tr, PSs (cxOf (L2.CX P w) P w K mg base N qual (defScope st) f cdv A outer s H E) (defBody st) (tSeq (tAsg (tC .non) (gName j)) (tSeq (fun D σ H => tDrop (tCallS (spM K 1 r) (WE (wKept K c i j D)) (tCons (tVar 0) tNil)) D σ H) tr)) ∧ SemKS K j tr m) :
    FnOk P w K mg base (L2.CX P w) (k + 1) f fd [p] (spM K 1 (refused ok r m)) := by
  have hpl : 1 ≤ N.length := by omega
  refine F.okX Sc (fun vs H Q E h => h.1) fun cdv A outer s H vs Q E hr h => ?_
  obtain ⟨tr, h1, h2⟩ := hb cdv A outer s H E hr
  refine ⟨_, h1, ?_⟩
  obtain ⟨hl, S, ds, hs, rp, q⟩ := h
  obtain ⟨v, rfl⟩ : ∃ v, vs = [v] := by
    match vs, hl with
    | [v], _ => exact ⟨v, rfl⟩
  show tSeq (fun D σ H => tDrop (tCallS (spM K 1 r) (WE (wKept K c i j D)) (tCons (tVar 0) tNil)) D σ H) tr { nx := fun _ H' => Q .non H', rt := Q } ((L2.start N [v]).set j (some .non)) H
  have s0 : ((L2.start N [v]).set j (some V.non))[0]? = some (some v) := by
    rw [List.getElem?_set_ne hj0]
    rfl
  have sl : (L2.start N [v]).length = N.length := by
    unfold L2.start
    simp
    omega
  have sj : ((L2.start N [v]).set j (some V.non))[j]? = some (some .non) := List.getElem?_set_self (by omega)
  generalize (L2.start N [v]).set j (some V.non) = σ1 at s0 sj
  have jl : j < σ1.length := (List.getElem?_eq_some_iff.mp sj).1
  -- what is told, from the wish
  have fin : ∀ {x : Option Xc} {σ2 : L2.St} {H2 : Hp} (Rx : Ends), Rx.rt = Q → KV K j x σ2 H2 → Same H H2 → (∀ v S' H' fp, toldK m x ≠ .st ∧ (∀ d, toldK m x = .ok (.sh d) → New K S H S' H' v (.sh d) fp → Q v H')) → tr Rx σ2 H2 := by
    intro x σ2 H2 Rx hR kv sm tl
    have ne := (tl .non S H2 []).1
    unfold toldK at ne tl
    split at ne
    · rename_i d e
      rw [e] at tl
      refine h2.run kv e fun H3 s3 => ?_
      intro v hv
      rw [hR]
      exact (tl v S H3 []).2 d rfl ⟨Gr.hp hs (sm.trans s3), .sh (hv S), .nil, fun p hp => by cases hp⟩
    · exact (ne rfl).elim
  refine ⟨v, s0, rfl, S, ds, hs, rp, ?_⟩
  unfold refused at q
  cases er : r ds with
  | st => rw [er] at q; exact q
  | ok w0 =>
    rw [er] at q
    intro v1 S1 H1 fp1 nw
    refine fin (x := none) _ rfl sj nw.gr.hh fun v2 S2 H2 fp2 => ?_
    cases et : toldK m none with
    | st => rw [et] at q; exact q.elim
    | ex z => unfold toldK at et; split at et <;> cases et
    | ok w2 =>
      rw [et] at q
      exact ⟨by simp, fun d e nw2 => q v2 S2 H2 fp2 (by cases e; exact nw2)⟩
  | ex z =>
    rw [er] at q
    dsimp only at q
    by_cases hz : ok z.cls = true
    · rw [if_pos hz] at q
      intro cls d H1 sm xr
      obtain ⟨C, hC, rfl⟩ := xr.1
      refine ⟨hc _ C hz hC, fun a ha => ?_⟩
      have up : Same H1 (upd H1 a (ExH (.ref C) d a)) := fun b o e => by
        rw [upd_ne (ne_of_none e ha)]
        exact e
      refine fin (x := some z) _ rfl ⟨a, C, d, hC, ?_, upd_same, xr_same xr up⟩ (sm.trans up) fun v2 S2 H2 fp2 => ?_
      · rw [List.getElem?_set_ne hij, List.getElem?_set_self (by rw [List.length_set]; exact jl)]
      · cases et : toldK m (some z) with
        | st => rw [et] at q; exact q.elim
        | ex z => unfold toldK at et; split at et <;> cases et
        | ok w2 =>
          rw [et] at q
          exact ⟨by simp, fun d e nw2 => q v2 S2 H2 fp2 (by cases e; exact nw2)⟩
    · rw [if_neg hz] at q
      exact q.elim
end
end Ly

set_option Elab.async false
set_option linter.all false
set_option maxRecDepth 100000
set_option maxHeartbeats 4000000
/-! LyE5: what is asked of an own exception's class; one class raised and asked about. -/
namespace Ly
open PySem PySem.Spec PyProof.Rows L2
/-- an own class over ValueError, without own __init__ -/
structure ExF (K : PySem.W.Frag) (C : Addr) : Prop where
  ex : PySem.W.excIn K C [.type "ValueError", .type "Exception", .type "BaseException", .type "object"] "ValueError.__new__" = true
  kp : PySem.W.keepIn K (.ref C) = true
  ty : PySem.W.typeIn K (.ref C) = some (.type "type")
  ic : ExcC K C
theorem ps_raiseV {X : Cx} {E : XK} {C : Addr} {x m : Str} {j : Nat} {p p2 pos pos' : Pos} (h : ExF X.K C) (gC : X.mg x = some (.ref C)) (hg : Gl X x) (hc : X.calm = true) (tk : Takes X fun cls d _ H => E cls d H)
    (hdb : (x == ("__debug__" : Str)) = false := by decide) : PS X (.Raise (some (.Call (.Name x p) [.Constant (.str m) j p2] [] pos)) none pos') (tRaiseO C E) :=
  ps_raiseO PySem.F.excBase_ValueError h.ex gC h.kp (raises_own h.ic.hs h.ty) hg hc tk hdb
/-- an own class is in an except clause of an own class above it -/
theorem exm_of_sub {K : PySem.W.Frag} {C T : Addr} (h : ExcC K T) (ty : PySem.W.typeIn K (.ref T) = some (.type "type")) (s : PySem.W.subIn K (.ref C) (.ref T) = some true) : PySem.W.exmOne K (.ref C) (.ref T) = some true :=
  PySem.W.exm_ref h.hs h.hd ty s
/-- one class of exceptions, and what a test says of it -/
def kitM (n : Str) (b : Bool) : Option Xc → Option Bool
  | none => some false
  | some k => if k.cls = n then some b else none
section
variable {K : PySem.W.Frag}
theorem kitC_of {c : V} {u : Value} {n : Str} {C : Addr} {b : Bool} (hu : ClsV c u) (hn : IsC K n C) (ec : ExcC K C) (h0 : PySem.W.kitOne K (.type "NoneType") u = some false) (h1 : PySem.W.kitOne K (.ref C) u = some b) : KitC K c (kitM n b) where
  on := ⟨u, hu, fun b' e => by cases e; exact h0, fun k D b' hD e => by
    have e' : (if k.cls = n then some b else none) = some b' := e
    by_cases hk : k.cls = n
    · rw [if_pos hk] at e'
      cases e'
      rw [hk] at hD
      cases hD.one hn
      exact ⟨ec, h1⟩
    · rw [if_neg hk] at e'
      cases e'⟩
theorem kitN_of {cs : List V} {us : List Value} {n : Str} {C : Addr} {b : Bool} (hl : cs.length ≤ 1000) (hu : Paired ClsV cs us) (hn : IsC K n C) (ec : ExcC K C) (h0 : PySem.W.kitAny K (.type "NoneType") us = some false) (h1 : PySem.W.kitAny K (.ref C) us = some b) : KitN K cs (kitM n b) where
  few := hl
  on := ⟨us, hu, fun b' e => by cases e; exact h0, fun k D b' hD e => by
    have e' : (if k.cls = n then some b else none) = some b' := e
    by_cases hk : k.cls = n
    · rw [if_pos hk] at e'
      cases e'
      rw [hk] at hD
      cases hD.one hn
      exact ⟨ec, h1⟩
    · rw [if_neg hk] at e'
      cases e'⟩
end
end Ly

set_option Elab.async false
set_option linter.all false
set_option maxRecDepth 100000
set_option maxHeartbeats 4000000
/-! LyE6: B.__init__(self, ..) within an own exception's __init__, B an own class over ValueError without own __init__. -/
namespace Ly
open PySem PySem.Spec PyProof.Rows L2
section
variable {X : Cx} {e : Expr} {es : List Expr} {ta : TA} {p1 p2 pos : Pos}
theorem pe_oinit {pl : Sem Bool} {C0 : Addr} {mc : Value} {x : Str} (hg : Gl X x) (hm : X.mg x = some (.ref C0)) (hs : PySem.W.specialIn X.K (.ref C0) "__getattribute__" = some (some (.builtin "type.__getattribute__"))) (hr : PySem.W.readsIn X.K C0 mc = true)
    (hv : PySem.W.findCls X.K (.ref C0) mc "__init__" = some (.val (.builtin "ValueError.__init__"))) (ha : PA X (e :: es) ta)
    (hc : eval (.Call (.Attribute (.Name x p1) "__init__" p2) (e :: es) [] pos) X.env = (do
      let ov ← eval (.Name x p1) X.env
      standAt p2.atName
      let (f, first) ← holding [ov] (getMethod ov "__init__" pl)
      callWith pos f first (backTo pos (starEach (e :: es) X.env)) (backToKw pos (keywordEach [] X.env))) := by rfl)
    (he : starEach (e :: es) X.env = (false, eval e X.env) :: starEach es X.env := by rfl) (hpl : (backTo pos (starEach es X.env)).any (·.1) = false := by rfl) (hdb : (x == ("__debug__" : Str)) = false := by decide) :
    PE X (.Call (.Attribute (.Name x p1) "__init__" p2) (e :: es) [] pos) (tVeI X.K ta) := by
  refine ⟨fun pins s σ H Q I h => ?_⟩
  refine PySem.W.methodCall_KW (ld_glob I hg hm ?_ hdb) hc
  refine PySem.W.method_cls I.kIn hs (PySem.W.cls_value I.kIn hr hv (by decide +kernel) ?_)
  refine PyProof.Rows.callWith_method1 (thn (ha.run pos pins _ σ H _ (I.tok _) h) fun us s1 ⟨vs, H1, I1, r1, a, C, ws, ev, hl, T, ea, q⟩ => ?_) he hpl
  subst ev
  cases r1 with
  | @cons _ u0 _ ur ra rw' =>
    obtain rfl : u0 = Value.ref a := ra
    have hlen : ur.length ≤ sizeLine := by
      rw [← Paired.length rw', sizeLine_eq]
      omega
    exact oinit_ok T I1 ea hlen fun s' J => ⟨.non, H1, J, rfl, q⟩
end
end Ly

set_option Elab.async false
set_option linter.all false
set_option maxRecDepth 100000
set_option maxHeartbeats 4000000
/-! LyE7: the field of a kept exception. -/
namespace Ly
open PySem PySem.Spec PyProof.Rows L2
section
variable {X : Cx}
def tKf (K : PySem.W.Frag) (f : Str) (te : TE) : TE := fun σ H Q => te σ H fun x H1 => ∃ (a D p : Addr) (fs : List (Str × V)) (v : V), x = .ref a ∧ XfC K D ∧ PySem.W.findIn K (.ref D) f = some none ∧ H1 a = some (ExH (.ref D) (some p) a) ∧ H1 p = some (.xd fs) ∧ fs.lookup f = some v ∧ Q v H1
theorem pe_kf {e : Expr} {te : TE} {pos : Pos} {n : Str} (he : PE X e te) (hb : attributeBase e n X.env (eval e X.env) = eval e X.env := by rfl) : PE X (.Attribute e n pos) (tKf X.K n te) := by
  refine ⟨fun pins s σ H Q I h => ?_⟩
  refine attr_of hb (thn (he.run pins s σ H _ I h) fun u s1 hh => ?_)
  obtain ⟨x, H1, I1, rx, a, D, p, fs, v, ex, T, hno, ha, hp, l, q⟩ := hh
  subst ex
  obtain rfl : u = Value.ref a := rx
  obtain ⟨⟨oe, vs, g, z, dt⟩, _⟩ := (show ObjOk X.prog X.w H1 s1.heap a (ExH (.ref D) (some p) a) from I1.hok a _ ha)
  obtain ⟨mA, hns, hr⟩ := (show ObjOk X.prog X.w H1 s1.heap p (.xd fs) from I1.hok p _ hp)
  obtain ⟨od, ho, hl⟩ := lookIn_ns hns
  obtain ⟨u, hu, ru⟩ := RelO.some_of (v := v) (o := mA n) (by rw [← l]; exact hr n)
  have J : PySem.W.InstAt s1.heap a oe D (some od) := ⟨g, z.1, by unfold PySem.W.notCls; rw [dt] <;> rfl, by rw [z.2]; exact ho⟩
  exact HandSPX.exc_get I1.kIn J T.ga T.gg T.exC (PySem.W.findObj_own T.hdC hno rfl (by rw [hl, hu])) (handed_of ru) ⟨v, H1, I1.tok _, ru, q⟩
end
/-- a class of exceptions whose field f can be read -/
class FldX (K : PySem.W.Frag) (n : outParam Str) (f : Str) : Prop where
  at_ : ∀ D, IsC K n D → XfC K D ∧ PySem.W.findIn K (.ref D) f = some none
/-- a text in the field -/
def fldM (n f : Str) : Option Xc → Option (Option D)
  | some ⟨c, some (g, .str z)⟩ => if c = n ∧ g = f then some (some (.str z)) else none
  | _ => none
section
variable {K : PySem.W.Frag} {j : Nat}
instance semKS_fld {n f : Str} [hf : FldX K n f] : SemKS K j (tRet (tKf K f (tVar j))) (fldM n f) where
  run := fun {x σ H R r} v e k => by
    unfold fldM at e
    split at e
    · rename_i c g z
      by_cases h : c = n ∧ g = f
      · rw [if_pos h] at e
        cases e
        obtain ⟨rfl, rfl⟩ := h
        obtain ⟨a, D, d, v0, v1, v2, v3⟩ := v
        obtain ⟨_, p, w, rfl, hp, rep⟩ := v3
        obtain ⟨T, hno⟩ := hf.at_ D v0
        refine ⟨.ref a, v1, a, D, p, [(g, w)], w, rfl, T, hno, v2, hp, ?_, ?_⟩
        · simp [List.lookup]
        · cases rep
          exact k H (Same.refl H) _ fun _ => .str _
      · rw [if_neg h] at e
        cases e
    · cases e
/-- is it None? -/
instance semKE_isN : SemKE K j (tIsN (tVar j)) (fun x => some x.isNone) where
  run := fun {x σ H Q b} v e k => by
    cases e
    cases x with
    | none => exact ⟨.non, v, by show Q (.bl (decide (V.non = V.non))) H; rw [decide_eq_true rfl]; exact k H (Same.refl H)⟩
    | some x =>
      obtain ⟨a, D, d, v0, v1, v2, v3⟩ := v
      exact ⟨.ref a, v1, by show Q (.bl (decide (V.ref a = V.non))) H; rw [decide_eq_false (fun z => nomatch z)]; exact k H (Same.refl H)⟩
instance semKT_B {t : TE} {m : Option Xc → Option Bool} [h : SemKE K j t m] : SemKT K j (tB t) m where
  run := fun {x σ H Q b} v e k => h.run v e fun H' s => ⟨b, rfl, k H' s⟩
end
end Ly

set_option Elab.async false
set_option linter.all false
set_option maxRecDepth 100000
set_option maxHeartbeats 4000000
/-! LyE8: an own exception with one field: its __init__, its raise. -/
namespace Ly
open PySem PySem.Spec PyProof.Rows L2
/-- what def __init__(self, f): B.__init__(self, ..); self.f = f promises -/
def spX (K : PySem.W.Frag) (C : Addr) (f : Str) : Sp := fun vs H Q _ => ∃ (a : Addr) (v : V), vs = [.ref a, v] ∧ OexC K C ∧ PySem.W.findIn K (.ref C) f = some none ∧ H a = some (exo a C none) ∧ ∀ d, H d = none → d ≠ a → Q .non (upd (upd H d (exd d [(f, v)])) a (exo a C (some d)))
section
variable {P : Program} {w : World} {K : PySem.W.Frag} {mg : Str → Option Value} {base : Heap}
theorem fn_exinit {qual : Str} {st : Stmt} {f : Addr} {fd : FuncData} {N : List Str} {p0 p1 : Str} {k : Nat} {C : Addr} {fl m : Str} (F : Fun K "__init__" qual st f fd) (Sc : FnScope N [p0, p1] (defScope st)) (hN : N.length = 2)
    (hb : ∀ (cdv : Value) (A : Around) (outer : List Env) (s : Shared) (H : Hp) (E : XK), Room k (A.deeper (envOfC qual (defScope st) s.heap.objs.size f cdv)) →
      PSs (cxOf (L2.CX P w) P w K mg base N qual (defScope st) f cdv A outer s H E) (defBody st) (tSeq (tDrop (tVeI K (tCons (tVar 0) (tCons (tC (.str m)) tNil)))) (tOst K fl (tVar 0) (tVar 1)))) :
    FnOk P w K mg base (L2.CX P w) (k + 1) f fd [p0, p1] (spX K C fl) := by
  refine F.okX Sc (fun vs H Q E h => ?_) fun cdv A outer s H vs Q E hr h => ?_
  · obtain ⟨a, v, rfl, _⟩ := h
    rfl
  refine ⟨_, hb cdv A outer s H E hr, ?_⟩
  obtain ⟨a, v, rfl, T, hno, ha, q⟩ := h
  have e0 : (L2.start N [V.ref a, v])[0]? = some (some (.ref a)) := rfl
  have e1 : (L2.start N [V.ref a, v])[1]? = some (some v) := rfl
  refine ⟨.ref a, e0, a, C, [.str m], rfl, by show 1 ≤ 1000; decide, T, ha, ?_⟩
  exact ⟨v, e1, .ref a, e0, a, C, rfl, T, hno, .inl ⟨ha, q⟩⟩
end
def tRaiseM (C : Addr) (f : Str) (K : PySem.W.Frag) (ta : TA) (E : XK) : TS := fun _ σ H => tMkO C (spX K C f) [] ta σ H fun cls d H' => E cls d H'
theorem ps_raiseM {X : Cx} {E : XK} {x : Str} {C fI : Addr} {k : Nat} {fd : FuncData} {ps : List Str} {f : Str} {e : Expr} {es : List Expr} {ta : TA} {p pos pos' : Pos} (T : OexC X.K C) (iC : PySem.W.findIn X.K (.ref C) "__init__" = some (some (.ref fI))) (tI : PySem.W.typeIn X.K (.ref fI) = some (.type "function"))
    (F1 : FnOk X.prog X.w X.K X.mg X.base (L2.CX X.prog X.w) k fI fd ps (spX X.K C f)) (hr : Room (k + 1) X.A) (hb : Binds X.K fd ps []) (hx : Passes (L2.CX X.prog X.w) X (fun _ _ _ => False)) (hg : Gl X x) (hm : X.mg x = some (.ref C)) (hc : X.calm = true) (tk : Takes X fun cls d _ H => E cls d H) (ha : PA X (e :: es) ta)
    (hdb : (x == ("__debug__" : Str)) = false := by decide) (he : starEach (e :: es) X.env = (false, eval e X.env) :: starEach es X.env := by rfl) (hpl : (backTo pos (starEach es X.env)).any (·.1) = false := by rfl) :
    PS X (.Raise (some (.Call (.Name x p) (e :: es) [] pos)) none pos') (tRaiseM C f X.K ta E) :=
  ps_raise hc tk (pmk_oex T iC tI F1 hr hb .nil hx hg hm ha hdb he hpl)
/-- an own exception with a text in its field is raised -/
def mRaiseF (n f z : Str) : En → Res Fl := fun _ => .ex ⟨n, some (f, .str z)⟩
/-- what must be known of the class to raise it -/
class RaiX (K : PySem.W.Frag) (n : outParam Str) (C : Addr) (f : Str) : Prop where
  at_ : IsC K n C
  ox : OexC K C
  no : PySem.W.findIn K (.ref C) f = some none
theorem passN {P : Program} {w : World} {K : PySem.W.Frag} {mg : Str → Option Value} {base : Heap} {N : List Str} {qual : Str} {scope : Scope} {f : Addr} {cd : Value} {A : Around} {outer : List Env} {s : Shared} {H : Hp} {E : XK} :
    Passes (L2.CX P w) (cxOf (L2.CX P w) P w K mg base N qual scope f cd A outer s H E) (fun _ _ _ => False) := passes_call (W := fun cls d _ H => E cls d H) (takes_of rfl rfl rfl rfl) fun _ _ _ _ h => h.elim
section
variable {K : PySem.W.Frag} {Mu : List Nat} {E : XK}
instance semS_raiseM {n f z : Str} {C : Addr} [h : RaiX K n C f] : SemS K Mu E (tRaiseM C f K (tCons (tC (.str z)) tNil) E) (mRaiseF n f z) where
  run := fun {fm B S0 R env σ S H} _ x p => by
    refine ⟨by show 1 ≤ 1000; decide, fun a ha => ⟨a, .str z, rfl, h.ox, h.no, upd_same, fun d hd hda => ?_⟩⟩
    have hd0 : H d = none := by rw [upd_ne hda] at hd; exact hd
    refine ⟨rfl, d, [(f, .str z)], upd_same, by rw [upd_ne hda, upd_same], hd0, ?_⟩
    refine p _ _ _ (fun b o e => ?_) ⟨⟨C, h.at_, rfl⟩, d, .str z, rfl, upd_same, .str z⟩
    have hb := x.base b o e
    have b1 := ne_of_none hb ha
    have b2 := ne_of_none hb hd0
    rw [upd_ne b2, L2.del_ne b1, upd_ne b1, upd_ne b2, upd_ne b1]
    exact hb
end
end Ly

set_option Elab.async false
set_option linter.all false
set_option maxRecDepth 100000
set_option maxHeartbeats 4000000
/-! LyE9: kitOne for own classes and built-in ones, from facts that k_is tells; ExcC and the like from single facts. -/
namespace Ly
open PySem PySem.Spec PyProof.Rows L2
section
variable {K : PySem.W.Frag}
theorem kit_own {t : Value} {C : Addr} {b : Bool} (hne : (t == Value.ref C) = false) (hd : PySem.W.hasDictIn K C = true) (ty : PySem.W.typeIn K (.ref C) = some (.type "type")) (s : PySem.W.subIn K t (.ref C) = some b) : PySem.W.kitOne K t (.ref C) = some b := by
  obtain ⟨cd, hc, _⟩ := PySem.W.any_some hd
  have e : ((PySem.W.clsIn K C).isSome && PySem.W.typeIn K (.ref C) == some (.type "type")) = true := by rw [hc, ty] <;> rfl
  unfold PySem.W.kitOne
  rw [hne, if_neg Bool.false_ne_true]
  show (if ((PySem.W.clsIn K C).isSome && PySem.W.typeIn K (.ref C) == some (.type "type")) = true then PySem.W.subIn K t (.ref C) else none) = some b
  rw [if_pos e]
  exact s
theorem kit_same {C : Addr} : PySem.W.kitOne K (.ref C) (.ref C) = some true := by
  unfold PySem.W.kitOne
  rw [if_pos]
  first
    | exact beq_self_eq_true _
    | simp
theorem kit_bty {t : Value} {T : String} {b : Bool} (hne : (t == Value.type T) = false) (hk : PySem.W.kitMeta T = true) (s : PySem.W.subIn K t (.type T) = some b) : PySem.W.kitOne K t (.type T) = some b := by
  unfold PySem.W.kitOne
  rw [hne, if_neg Bool.false_ne_true]
  show (if PySem.W.kitMeta T = true then PySem.W.subIn K t (.type T) else none) = some b
  rw [if_pos hk]
  exact s
theorem kitAny_no {t : Value} : ∀ {us : List Value}, (∀ u ∈ us, PySem.W.kitOne K t u = some false) → PySem.W.kitAny K t us = some false
  | [], _ => rfl
  | u :: r, h => kitAny_cons (h u List.mem_cons_self) (fun _ => kitAny_no fun y hy => h y (List.mem_cons_of_mem _ hy)) (fun q => by cases q)
theorem kitAny_yes {t : Value} : ∀ {us : List Value}, (∀ u ∈ us, ∃ b, PySem.W.kitOne K t u = some b) → (∃ u ∈ us, PySem.W.kitOne K t u = some true) → PySem.W.kitAny K t us = some true
  | [], _, ⟨_, h, _⟩ => by cases h
  | u :: r, h, ⟨z, hz, e⟩ => by
    obtain ⟨b, hb⟩ := h u List.mem_cons_self
    refine kitAny_cons hb (fun q => ?_) (fun _ => rfl)
    subst q
    refine kitAny_yes (fun y hy => h y (List.mem_cons_of_mem _ hy)) ⟨z, ?_, e⟩
    rcases List.mem_cons.mp hz with rfl | hz
    · rw [hb] at e
      cases e
    · exact hz
end
end Ly

set_option Elab.async false
set_option linter.all false
set_option maxRecDepth 100000
/-! LyRep: a.replace(b, c, n) of written texts, a.upper(). -/
namespace PySem
open Builtin Builtin.Str
theorem lyRepTree (x y z : Str) (n : Nat) (t u v k : Tok) (hk : (decide ((n : Int) < -(2 ^ 63 : Int)) || decide ((n : Int) ≥ 2 ^ 63)) = false) (hy : (y.length == 0) = false) (h0 : (u == 0 || v == 0) = false) (huv : (u == v) = false) (hyz : (y == z) = false) :
    «str.replace» ⟨[.str x t, .str y u, .str z v, .int n k], []⟩ =
    (if (occurrences x y 0 x.length n).isEmpty = true then (do rule "str.replace.nothing"; ret (.str x t)) else
     if tooLong (x.length + (occurrences x y 0 x.length n).length * z.length) = true then unsupported "str.replace:memory" else
     retStr (glued z (partsBetween x (occurrences x y 0 x.length n) y.length))) := by
  have e : (if (n : Int) < 0 then x.length + 1 else (n : Int).toNat) = n := by
    rw [if_neg (by omega)]; rfl
  show (do let limit ← countLimit "str.replace" (some (.int n k)) (x.length + 1); _) = _
  rw [countLimit_int "str.replace" n k (x.length + 1) hk, e]
  show (if ((occurrences x y 0 x.length n).isEmpty || (y.length == 0 && z.length == 0)) = true then (do rule "str.replace.nothing"; ret (.str x t)) else
          (do let same ← isSame (.str y u) (.str z v)
              if same = true then (do rule "str.replace.old-is-new"; ret (.str x t)) else
              if tooLong (x.length + (occurrences x y 0 x.length n).length * z.length) = true then unsupported "str.replace:memory" else
              retStr (glued z (partsBetween x (occurrences x y 0 x.length n) y.length)))) = _
  rw [hy, isSame_str_other y z u v h0 huv hyz]
  simp only [Bool.false_and, Bool.or_false]
  rfl
section
variable {prog : Program} {w : World} {A : Around} {E : Value → Shared → Prop} {s : Shared} {env : Env}
theorem lyMethod3 {o e₁ e₂ e₃ : Expr} {name : Str} {apos pos : Pos} {Q : Value → Shared → Prop}
    (hbase : attributeBase o name env (eval o env) = eval o env) (hs : starEach [e₁, e₂, e₃] env = [(false, eval e₁ env), (false, eval e₂ env), (false, eval e₃ env)]) (hline : (apos.endLine == pos.line) = true)
    (h : wpAny (model prog w) A (eval o env) (fun ov s₁ => MethodOnS prog w A E name ov pos [(false, eval e₁ env), (false, eval e₂ env), (false, eval e₃ env)] Q s₁) E s) :
    wpAny (model prog w) A (eval (.Call (.Attribute o name apos) [e₁, e₂, e₃] [] pos) env) Q E s := by
  refine wpAny_Call_method_lateS hbase (by rw [hs]; rfl) hline ?_
  rw [hs]; exact h
end
end PySem
namespace Ly
open PySem L2 PyProof.Rows
def replC (x y z : Str) (n : Nat) : Str := if (Builtin.Str.occurrences x y 0 x.length n).isEmpty = true then x else Builtin.Str.glued z (Builtin.Str.partsBetween x (Builtin.Str.occurrences x y 0 x.length n) y.length)
theorem replC_len (x y z : Str) (n : Nat) (hy : y.length ≠ 0) : (replC x y z n).length ≤ x.length + n * z.length := by
  unfold replC
  split
  · omega
  · have h1 := StrLaws.occ_length_le x y 0 x.length n
    have hy : (Builtin.Str.glued y (Builtin.Str.partsBetween x (Builtin.Str.occurrences x y 0 x.length n) y.length)).length = x.length := by rw [StrLaws.glued_between_self]
    rw [size_glued, length_partsBetween, Nat.add_sub_cancel] at hy
    rw [size_glued, length_partsBetween, Nat.add_sub_cancel]
    have h2 : (Builtin.Str.occurrences x y 0 x.length n).length * z.length ≤ n * z.length := Nat.mul_le_mul_right _ h1
    omega
def tReplN (to : TE) (y z : Str) (n : Nat) : TE := fun σ H Q => to σ H fun v H1 => ∃ x, v = .str x ∧ x.length + n * z.length ≤ 16777216 ∧ Q (.str (replC x y z n)) H1
theorem call_repl {prog : Program} {w : World} {A : Around} {E : Value → Shared → Prop} {s : Shared} {x y z : Str} {n : Nat} {t u v k : Tok} {Q : Value → Shared → Prop} (hu : u ≠ 0) (hv : v ≠ 0) (huv : u ≠ v) (hy : (y.length == 0) = false) (hyz : (y == z) = false)
    (hn : (decide ((n : Int) < -(2 ^ 63 : Int)) || decide ((n : Int) ≥ 2 ^ 63)) = false) (hb : x.length + n * z.length ≤ 16777216) (hq : ∀ t' k, s.toks ≤ k → Q (.str (replC x y z n) t') { s with toks := k }) :
    wpAny (model prog w) A (call (.builtin "str.replace") [.str x t, .str y u, .str z v, .int n k]) Q E s := by
  have hl : Builtin.Str.tooLong (x.length + (Builtin.Str.occurrences x y 0 x.length n).length * z.length) = false := by
    have h1 := StrLaws.occ_length_le x y 0 x.length n
    have h2 : (Builtin.Str.occurrences x y 0 x.length n).length * z.length ≤ n * z.length := Nat.mul_le_mul_right _ h1
    unfold Builtin.Str.tooLong PySem.sizeLine
    exact decide_eq_false (by omega)
  refine wpAny_call (codeAny_call_builtin F.slot_str_replace.plain F.entry_str_replace (F.slot_str_replace.check _ _ _ _ _ _ _ _ (typeIs_str _ _ _) (F.args_str_replace_4 _ _ _ _) ?_))
  rw [lyRepTree x y z n t u v k hn hy (by simp [hu, hv]) (by simp [huv]) hyz, hl]
  have hlen := replC_len x y z n (by simpa using hy)
  unfold replC at hq hlen
  split
  · rename_i hc
    rw [if_pos hc] at hq
    exact wpAny_bind (wpAny_rule (wpAny_pure (hq t s.toks (Nat.le_refl _))))
  · rename_i hc
    rw [if_neg hc] at hq hlen
    exact wpAny_bind (wpAny_mkStr (wpAny_pure (hq _ _ (Nat.le_succ _))) (by rw [sizeLine_eq]; omega))
section
variable {X : Cx} {o e : Expr} {rest : List Stmt} {to te : TE} {u : TS} {y z c : Str} {n i j k l : Nat} {c0 c1 c2 apos pos pos2 pos' cpos : Pos} {x : Str}
theorem pet_replN (ho : PE X o to) (hyz : (y == z) = false := by decide) (hy : (y.length == 0) = false := by decide) (hn : (decide ((n : Int) < -(2 ^ 63 : Int)) || decide ((n : Int) ≥ 2 ^ 63)) = false := by decide)
    (hst : starEach [.Constant (.str y) j c0, .Constant (.str z) k c1, .Constant (.int n) l c2] X.env = [(false, eval (.Constant (.str y) j c0) X.env), (false, eval (.Constant (.str z) k c1) X.env), (false, eval (.Constant (.int n) l c2) X.env)] := by rfl)
    (hbase : attributeBase o "replace" X.env (eval o X.env) = eval o X.env := by rfl) (hline : (apos.endLine == pos.line) = true := by rfl) :
    PET X (.Call (.Attribute o "replace" apos) [.Constant (.str y) j c0, .Constant (.str z) k c1, .Constant (.int n) l c2] [] pos) (tReplN to y z n) := by
  intro pins s σ H Q h0 I h
  refine PySem.lyMethod3 hbase hst hline (wpAny_mono (PySem.wpAny_toks (ho.run pins s σ H _ I h)) (fun v s1 q => ?_) fun _ _ z => z.2)
  obtain ⟨hk, v', H1, I1, r1, x, e1, hb, q⟩ := q
  subst e1
  obtain ⟨tx, e2⟩ := r1
  subst e2
  refine ⟨"str", _, PySem.F.plainAttrs_str, PySem.F.slot_str_replace, PySem.F.type_str_replace, typeIs_str _ _ _, (fun _ e => nomatch e), Calls.callWith_builtin rfl (Calls.evalArgs_plain (Calls.spliced_cons ?_))⟩
  refine Calls.Constant_str (Calls.spliced_cons (Calls.Constant_str (Calls.spliced_cons (wpAny_Constant_int (Calls.spliced_nil ?_)))))
  exact call_repl (by show s1.toks ≠ 0; omega) (by show s1.toks + 1 ≠ 0; omega) (by show s1.toks ≠ s1.toks + 1; omega) hy hyz hn hb fun t' k hk => ⟨.str (replC x y z n), H1, I1.tok k, ⟨t', rfl⟩, q⟩
/-- x = o.split("c"): behind it a token is out -/
theorem pss_splitT (hN : X.N.Nodup) (hi : X.N[i]? = some x) (hx : Loc X.env.scope x) (ho : PE X o to) (h2 : PSsT X rest u)
    (hst : starEach [.Constant (.str c) j cpos] X.env = [(false, eval (.Constant (.str c) j cpos) X.env)] := by rfl) (hbase : attributeBase o "split" X.env (eval o X.env) = eval o X.env := by rfl) (hline : (apos.endLine == pos2.line) = true := by rfl)
    (hs : swapsWith (.Call (.Attribute o "split" apos) [.Constant (.str c) j cpos] [] pos2) (some (.Name x pos')) pos.line X.env = pure false := by rfl) (hf : X.fn x = true ∨ X.env.scope.names.lookup x = some .local := by first | exact .inl rfl | exact .inr rfl | assumption) :
    PSs X (.Assign [.Name x pos'] (.Call (.Attribute o "split" apos) [.Constant (.str c) j cpos] [] pos2) pos :: rest) (tSeq (tAsg (tM1 rSplit to (tC (.str c))) (gName i)) u) := by
  refine ⟨fun pins s σ H D I h => ?_⟩
  refine wpAny_execs_cons (wpAny_Assign_Name ?_ hs)
  refine PySem.Call_method1 hbase hst hline (thn (ho.run pins s σ H _ I h) fun v s1 ⟨x, H1, I1, r1, q1⟩ => ?_)
  obtain ⟨⟨a, rfl⟩, q1⟩ := q1
  obtain ⟨t, rfl⟩ := _root_.id r1
  refine ⟨"str", _, F.plainAttrs_str, F.slot_str_split, F.type_str_split, typeIs_str _ _ _, (fun _ e => nomatch e), Calls.callWith_builtin rfl (Calls.evalArgs_plain (Calls.spliced_cons ?_))⟩
  refine Calls.Constant_str (Calls.spliced_nil ?_)
  refine wpAny_mono (PySem.wpAny_toks (mt_split pins _ σ H1 _ [.str c] _ [_] _ (I1.tok (s1.toks + 1)) r1 (.cons ⟨s1.toks, rfl⟩ .nil) q1)) (fun v s2 q => ?_) fun _ _ z => z.2
  obtain ⟨hk, w, H2, I2, r2, q2⟩ := q
  refine wpAny_mono (PySem.wpAny_toks (store_ok (Q := fun _ s3 => Inv X pins (σ.set i (some w)) H2 s3) I2 hN hi hx r2 (fun _ I3 => I3) hf)) (fun _ s3 q => ?_) fun _ _ z => z.2
  have hk1 : s1.toks + 1 ≤ s2.toks := hk
  have hk3 : s2.toks ≤ s3.toks := q.1
  exact h2 pins s3 _ H2 D (by omega) q.2 q2
theorem pst_set (hN : X.N.Nodup) (hi : X.N[i]? = some x) (hx : Loc X.env.scope x) (he : PET X e te) (hs : swapsWith e (some (.Name x pos')) pos.line X.env = pure false := by rfl) (hf : X.fn x = true ∨ X.env.scope.names.lookup x = some .local := by first | exact .inl rfl | exact .inr rfl | assumption) :
    PST X (.Assign [.Name x pos'] e pos) (tAsg te (gName i)) := by
  intro pins s σ H D h0 I h
  refine wpAny_Assign_Name (thn (he pins s σ H _ h0 I h) fun v s1 ⟨y, H1, I1, r1, q1⟩ => ?_) hs
  exact store_ok I1 hN hi hx r1 (fun s2 I2 => ⟨_, H1, I2, q1⟩) hf
end
def rUpper : V → List V → Hp → VK → Prop := fun x xs H Q => ∃ a, x = .str a ∧ xs = [] ∧ a.length ≤ 5592405 ∧ Q (.str (Txt.upper a)) H
theorem kp_upper {X : Cx} {o : Expr} {to : TE} {apos pos : Pos} (ho : PE X o to) (hbase : attributeBase o "upper" X.env (eval o X.env) = eval o X.env := by rfl) (hline : (apos.endLine == pos.line) = true := by rfl) :
    PE X (.Call (.Attribute o "upper" apos) [] [] pos) (tM0 rUpper to) := pe_upper ho hbase hline
def upperD : D → Res W
  | .str a => if a.length ≤ 5592405 then .ok (.sh (.str (Txt.upper a))) else .st
  | _ => .st
def mUpper (m : En → Res D) : En → Res W := fun e => (m e).bind upperD
def replD (y z : Str) (n : Nat) : D → Res W
  | .str x => if x.length + n * z.length ≤ 16777216 then .ok (.sh (.str (replC x y z n))) else .st
  | _ => .st
def mRepl (y z : Str) (n : Nat) (m : En → Res D) : En → Res W := fun e => (m e).bind (replD y z n)
section
variable {K : PySem.W.Frag} {E : XK}
instance semE_upper {te : TE} {F : List Nat} {m : En → Res D} [h : SemX K E te F m] : SemE K E (tM0 rUpper te) F (mUpper m) where
  ok := fun {env σ S H Q w} x e k => by
    obtain ⟨d, e1, e2⟩ := Res.of_ok e
    refine h.ok x e1 fun v H' g r => ?_
    have y := Gr.hp x.sub g
    unfold upperD at e2
    split at e2 <;> first | cases e2 | skip
    split at e2 <;> cases e2
    rename_i hz
    cases r
    exact ⟨⟨_, rfl⟩, _, rfl, rfl, hz, k _ S H' [] (.sh y (.str _))⟩
  ex := fun {env σ S H Q w} x e k => by
    rcases Res.of_ex e with e1 | ⟨d, e1, e2⟩
    · exact h.ex x e1 k
    · unfold upperD at e2
      repeat' split at e2
      all_goals cases e2
instance semE_repl {te : TE} {F : List Nat} {m : En → Res D} {y z : Str} {n : Nat} [h : SemX K E te F m] : SemE K E (tReplN te y z n) F (mRepl y z n m) where
  ok := fun {env σ S H Q w} x e k => by
    obtain ⟨d, e1, e2⟩ := Res.of_ok e
    refine h.ok x e1 fun v H' g r => ?_
    have y := Gr.hp x.sub g
    unfold replD at e2
    split at e2 <;> first | cases e2 | skip
    split at e2 <;> cases e2
    rename_i hz
    cases r
    exact ⟨_, rfl, hz, k _ S H' [] (.sh y (.str _))⟩
  ex := fun {env σ S H Q w} x e k => by
    rcases Res.of_ex e with e1 | ⟨d, e1, e2⟩
    · exact h.ex x e1 k
    · unfold replD at e2
      repeat' split at e2
      all_goals cases e2
end
end Ly

set_option Elab.async false
set_option linter.all false
set_option maxRecDepth 100000
set_option maxHeartbeats 4000000
set_option synthInstance.maxHeartbeats 2000000
set_option synthInstance.maxSize 100000
namespace My
open PySem L2 Ly PyProof.Rows
def fldT : List (Str × List Str × List Str) := []
/-- is_name: 0 thing, 1 sign -/
noncomputable def m_is_name_b1 : En → Res Fl :=
    (mIfS [] (mTest (mD (mOpX notInB (mVarX 1) (mD (mK (.str "abcdefghijklmnopqrstuvwxyz")))))) (mRet [] (mK (.bl false))) mNext)
noncomputable def m_is_name : En → Res Fl :=
    (mSeq (mIfS [] (mOr (mNot (mTru (mD (mCal isiD (mCons (mVarV 0) (mCons (mD (mK (.ty "str"))) mNil)))))) (mNot (mTest (mD (mChain leD leD (mD (mK (.int 1))) (mD (mCal lenD (mCons (mVarV 0) mNil))) (mD (mK (.int 8)))))))) (mRet [] (mK (.bl false))) mNext)
    (mSeq (mFor [] [1] [0] (mItems (mD (mVar 0))) (mName 1) m_is_name_b1)
    (mRet [] (mK (.bl true)))))
noncomputable def r_is_name : List D → Res W := runD 2 m_is_name
/-- number_of: 0 word, 1 sign -/
noncomputable def m_number_of_b1 : En → Res Fl :=
    (mIfS [] (mTest (mD (mOpX notInB (mVarX 1) (mD (mK (.str "0123456789")))))) (mRaise "NoPlan") mNext)
noncomputable def m_number_of : En → Res Fl :=
    (mSeq (mIfS [] (mOr (mTest (mD (mOpX eqE (mVarX 0) (mD (mK (.str "")))))) (mAnd (mTest (mD (mOpX gtD (mD (mCal lenD (mCons (mVarV 0) mNil))) (mD (mK (.int 1)))))) (mTest (mD (mOpX eqE (mD (mOp ixD (mVarV 0) (mD (mK (.int 0))))) (mD (mK (.str "0")))))))) (mRaise "NoPlan") mNext)
    (mSeq (mFor [] [1] [0] (mItems (mD (mVar 0))) (mName 1) m_number_of_b1)
    (mRet [] (mCal intD (mCons (mVarV 0) mNil)))))
noncomputable def r_number_of : List D → Res W := runD 2 m_number_of
/-- read_plan: 0 text, 1 plan, 2 ahead, 3 row, 4 words -/
noncomputable def m_read_plan_b1 : En → Res Fl :=
    (mSeq (mAsg [1] [] 4 (mM1 splitD (mVarX 3) (mD (mK (.str " ")))))
    (mSeq (mIfS [] (mOr (mTest (mD (mOpX neE (mD (mCal lenD (mCons (mVarV 4) mNil))) (mD (mK (.int 3)))))) (mOr (mNot (mTru (mD (mCall 1 r_is_name (mCons (mD (mOp ixD (mVarV 4) (mD (mK (.int 0))))) mNil) (mCons (mD (mOp ixD (mVarV 4) (mD (mK (.int 0))))) mNil))))) (mOr (mNot (mTru (mD (mCall 1 r_is_name (mCons (mD (mOp ixD (mVarV 4) (mD (mK (.int 1))))) mNil) (mCons (mD (mOp ixD (mVarV 4) (mD (mK (.int 1))))) mNil))))) (mTest (mD (mOpX leD (mD (mOp ixD (mVarV 4) (mD (mK (.int 0))))) (mVarX 2))))))) (mRaise "NoPlan") mNext)
    (mSeq (mDPut [] 1 (mD (mOp ixD (mVarV 4) (mD (mK (.int 0))))) (mD (mTup (mCons (mD (mOp ixD (mVarV 4) (mD (mK (.int 1))))) (mCons (mD (mCall 1 r_number_of (mCons (mD (mOp ixD (mVarV 4) (mD (mK (.int 2))))) mNil) (mCons (mD (mOp ixD (mVarV 4) (mD (mK (.int 2))))) mNil))) mNil)))))
    (mAsg [1] [] 2 (mOp ixD (mVarV 4) (mD (mK (.int 0))))))))
noncomputable def m_read_plan : En → Res Fl :=
    (mSeq (mIfS [] (mNot (mTru (mD (mCal isiD (mCons (mVarV 0) (mCons (mD (mK (.ty "str"))) mNil)))))) (mRaise "NoPlan") mNext)
    (mSeq (mAsg [1] [] 1 mDicK)
    (mSeq (mIfS [] (mTest (mD (mOpX eqE (mVarX 0) (mD (mK (.str "")))))) (mRetVar 1) mNext)
    (mSeq (mAsg [1] [] 2 (mK (.str "")))
    (mSeq (mFor [1] [3] [] (mItems (mD (mM1 splitD (mVarX 0) (mD (mK (.str "; ")))))) (mName 3) m_read_plan_b1)
    (mRetVar 1))))))
noncomputable def r_read_plan : List D → Res W := runD 5 m_read_plan
/-- _law_rows: 0 _law_cell, 1 _law_k -/
noncomputable def m__law_rows : En → Res Fl :=
    (mRet [] (mLc [1] [1] (mRng1 (mCons (mD (mOp addD (mD (mK (.int 1))) (mD (mOpX modD (mVarX 0) (mD (mK (.int 5))))))) mNil)) (mName 1) mTrue (mD (mOp addD (mD (mOp addD (mD (mOp mulD (mD (mOp ixD (mD (mLst (mCons (mD (mK (.str "a"))) (mCons (mD (mK (.str "b"))) (mCons (mD (mK (.str "c"))) (mCons (mD (mK (.str "d"))) (mCons (mD (mK (.str "e"))) mNil))))))) (mVarV 1))) (mD (mOp addD (mD (mK (.int 1))) (mD (mOpX modD (mD (mOpX fdivD (mVarX 0) (mD (mK (.int 5))))) (mD (mK (.int 3))))))))) (mD (mK (.str " i"))))) (mD (mOp mulD (mD (mK (.str "j"))) (mD (mOpX modD (mVarX 1) (mD (mK (.int 3)))))))))))
noncomputable def r__law_rows : List D → Res W := runD 2 m__law_rows
/-- _law_spoilt: 0 _law_rows_here, 1 _law_cell, 2 _law_at, 3 _law_row, 4 _law_words, 5 _law_some -/
noncomputable def m__law_spoilt : En → Res Fl :=
    (mSeq (mAsg [] [] 2 (mOpX modD (mD (mOpX fdivD (mVarX 1) (mD (mK (.int 24))))) (mD (mCal lenD (mCons (mVarV 0) mNil)))))
    (mSeq (mAsg [] [] 3 (mOp ixD (mVarV 0) (mVarV 2)))
    (mSeq (mAsg [] [] 4 (mM1 splitD (mVarX 3) (mD (mK (.str " ")))))
    (mSeq (mAsg [] [] 5 (mLst (mCons (mD (mOp addD (mVarV 3) (mD (mK (.str " "))))) (mCons (mD (mOp addD (mD (mK (.str " "))) (mVarV 3))) (mCons (mD (mRepl " " "  " (1) (mVarX 3))) (mCons (mD (mOp ixD (mVarV 4) (mD (mK (.int 0))))) (mCons (mD (mOp addD (mVarV 3) (mD (mK (.str " 3"))))) (mCons (mD (mOp addD (mD (mOp addD (mD (mOp ixD (mVarV 4) (mD (mK (.int 0))))) (mD (mK (.str " "))))) (mD (mOp ixD (mVarV 4) (mD (mK (.int 2))))))) mNil))))))))
    (mSeq (mAsg [] [] 5 (mOp addD (mVarV 5) (mD (mLst (mCons (mD (mUpper (mVarX 3))) (mCons (mD (mOp addD (mD (mOp addD (mD (mK (.str "abcdefghi "))) (mD (mOp ixD (mVarV 4) (mD (mK (.int 1))))))) (mD (mK (.str " 4"))))) (mCons (mD (mOp addD (mD (mOp addD (mD (mOp addD (mD (mOp ixD (mVarV 4) (mD (mK (.int 0))))) (mD (mK (.str " "))))) (mD (mOp ixD (mVarV 4) (mD (mK (.int 1))))))) (mD (mK (.str " 04"))))) (mCons (mD (mOp addD (mVarV 3) (mD (mK (.str "\n"))))) (mCons (mD (mK (.str ""))) mNil)))))))))
    (mSeq (mAsg [] [] 5 (mOp addD (mVarV 5) (mD (mLst (mCons (mD (mOp addD (mD (mOp addD (mD (mOp addD (mD (mOp ixD (mVarV 4) (mD (mK (.int 0))))) (mD (mK (.str " "))))) (mD (mOp ixD (mVarV 4) (mD (mK (.int 1))))))) (mD (mK (.str " -1"))))) (mCons (mD (mOp addD (mD (mOp addD (mD (mOp addD (mD (mOp ixD (mVarV 4) (mD (mK (.int 0))))) (mD (mK (.str " "))))) (mD (mOp ixD (mVarV 4) (mD (mK (.int 1))))))) (mD (mK (.str " 1.0"))))) (mCons (mD (mOp addD (mD (mOp addD (mVarV 3) (mD (mK (.str "; "))))) (mVarV 3))) mNil)))))))
    (mSeq (mAsg [] [] 5 (mOp addD (mVarV 5) (mD (mLst (mCons (mD (mOp addD (mD (mK (.str "zz"))) (mD (mSl (mVarV 3) (mPart (mD (mUn negD (mD (mK (.int 1)))))) mNoPart)))) (mCons (mD (mOp addD (mD (mOp addD (mD (mK (.str " "))) (mD (mOp ixD (mVarV 4) (mD (mK (.int 1))))))) (mD (mK (.str " 1"))))) (mCons (mD (mOp addD (mD (mOp ixD (mVarV 4) (mD (mK (.int 0))))) (mD (mK (.str " abcdefghi 1"))))) (mCons (mD (mOp addD (mD (mOp ixD (mVarV 4) (mD (mK (.int 0))))) (mD (mK (.str "  1"))))) (mCons (mD (mOp addD (mVarV 3) (mD (mK (.str ";"))))) mNil)))))))))
    (mSeq (mAsg [] [] 5 (mOp addD (mVarV 5) (mD (mLst (mCons (mD (mOp addD (mD (mOp addD (mD (mK (.str "1 "))) (mD (mOp ixD (mVarV 4) (mD (mK (.int 1))))))) (mD (mK (.str " 1"))))) (mCons (mD (mOp addD (mD (mOp addD (mD (mOp addD (mD (mOp ixD (mVarV 4) (mD (mK (.int 0))))) (mD (mK (.str " "))))) (mD (mOp ixD (mVarV 4) (mD (mK (.int 1))))))) (mD (mK (.str " +1"))))) (mCons (mD (mOp addD (mD (mOp addD (mD (mOp addD (mD (mOp ixD (mVarV 4) (mD (mK (.int 0))))) (mD (mK (.str " "))))) (mD (mOp ixD (mVarV 4) (mD (mK (.int 1))))))) (mD (mK (.str " 1_0"))))) mNil)))))))
    (mSeq (mAsg [] [] 5 (mOp addD (mVarV 5) (mD (mLst (mCons (mD (mOp addD (mD (mOp ixD (mVarV 4) (mD (mK (.int 0))))) (mD (mK (.str " I 1"))))) (mCons (mD (mOp addD (mD (mOp ixD (mVarV 4) (mD (mK (.int 0))))) (mD (mK (.str " i1 1"))))) mNil))))))
    (mRet [] (mM1 joinD (mD (mK (.str "; "))) (mD (mOp addD (mD (mOp addD (mD (mSl (mVarV 0) mNoPart (mPart (mVarX 2)))) (mD (mLst (mCons (mD (mOp ixD (mVarV 5) (mD (mOpX modD (mVarX 1) (mD (mK (.int 24))))))) mNil))))) (mD (mSl (mVarV 0) (mPart (mD (mOp addD (mVarV 2) (mD (mK (.int 1)))))) mNoPart)))))))))))))))
noncomputable def r__law_spoilt : List D → Res W := runD 6 m__law_spoilt
/-- _law_refused: 0 _law_text, 1 _law_caught, 2 e -/
def k__law_refused : Option Xc → Option (Option D)
  | none => some (some (.bl false))
  | some k => if k.cls = "NoPlan" then some (some (.bl true)) else none
noncomputable def r__law_refused : List D → Res W := refused (fun k => decide (k = "NoPlan")) r_read_plan k__law_refused
/-- law: 0 _law_script, 1 _law_cell, 2 _law_rows_here, 3 _law_text, 4 _law_k, 5 _law_row -/
noncomputable def m_law_b1 : En → Res Fl :=
    (mSeq (mAsg [] [] 2 (mLc [4, 5] [4, 5] (mEnum (mCons (mD (mCall 1 r__law_rows (mCons (mD (mOpX fdivD (mVarX 1) (mD (mK (.int 100))))) mNil) (mCons (mD (mOpX fdivD (mVarX 1) (mD (mK (.int 100))))) mNil))) mNil)) (mGTup 2 (mGCons (mName 4) (mGCons (mName 5) mGNil))) mTrue (mD (mOp addD (mD (mOp addD (mVarV 5) (mD (mK (.str " "))))) (mD (mCal strD (mCons (mD (mOp mulD (mD (mOpX modD (mD (mOpX fdivD (mVarX 1) (mD (mK (.int 7))))) (mD (mK (.int 9))))) (mVarV 4))) mNil)))))))
    (mSeq (mIfS [] (mOr (mTest (mD (mOpX neE (mD (mCal lenD (mCons (mD (mCall 1 r_read_plan (mCons (mD (mM1 joinD (mD (mK (.str "; "))) (mVarV 2))) mNil) (mCons (mD (mM1 joinD (mD (mK (.str "; "))) (mVarV 2))) mNil))) mNil))) (mD (mCal lenD (mCons (mVarV 2) mNil)))))) (mTest (mD (mOpX neE (mD (mCall 1 r_read_plan (mCons (mD (mK (.str ""))) mNil) (mCons (mD (mK (.str ""))) mNil))) (mD mDicK))))) (mRet [] (mK (.bl false))) mNext)
    (mSeq (mIfS [] (mAnd (mTest (mD (mOpX gtD (mD (mCal lenD (mCons (mVarV 2) mNil))) (mD (mK (.int 1)))))) (mNot (mTru (mD (mCall 1 r__law_refused (mCons (mD (mM1 joinD (mD (mK (.str "; "))) (mD (mRev (mVarV 2))))) mNil) (mCons (mD (mM1 joinD (mD (mK (.str "; "))) (mD (mRev (mVarV 2))))) mNil)))))) (mRet [] (mK (.bl false))) mNext)
    (mSeq (mAsg [] [] 3 (mCall 2 r__law_spoilt (mCons (mD (mVar 2)) (mCons (mD (mVar 1)) mNil)) (mCons (mVarX 2) (mCons (mVarX 1) mNil))))
    (mSeq (mIfS [] (mAnd (mTest (mD (mOpX neE (mVarX 3) (mD (mK (.str "")))))) (mNot (mTru (mD (mCall 1 r__law_refused (mCons (mD (mVar 3)) mNil) (mCons (mVarX 3) mNil)))))) (mRet [] (mK (.bl false))) mNext)
    (mIfS [] (mNot (mTru (mD (mCall 1 r__law_refused (mCons (mD (mOp ixD (mD (mLst (mCons (mD (mK .non)) (mCons (mD (mK (.int 5))) (mCons (mD (mK (.bl true))) (mCons (mD (mLst (mCons (mD (mK (.str "a b 1"))) mNil))) (mCons (mD (mTup (mCons (mD (mK (.str "a"))) mNil))) (mCons (mD mDicK) (mCons (mD (mK (.int 9))) mNil))))))))) (mD (mOpX modD (mVarX 1) (mD (mK (.int 7))))))) mNil) (mCons (mD (mOp ixD (mD (mLst (mCons (mD (mK .non)) (mCons (mD (mK (.int 5))) (mCons (mD (mK (.bl true))) (mCons (mD (mLst (mCons (mD (mK (.str "a b 1"))) mNil))) (mCons (mD (mTup (mCons (mD (mK (.str "a"))) mNil))) (mCons (mD mDicK) (mCons (mD (mK (.int 9))) mNil))))))))) (mD (mOpX modD (mVarX 1) (mD (mK (.int 7))))))) mNil))))) (mRet [] (mK (.bl false))) mNext))))))
noncomputable def m_law : En → Res Fl :=
    (mSeq (mFor [] [1] [] (mItems (mD (mOp addD (mD (mLst (mCons (mD (mK (.int 3))) mNil))) (mD (mSl (mVarV 0) mNoPart (mPart (mD (mK (.int 60))))))))) (mName 1) m_law_b1)
    (mRet [] (mK (.bl true))))
noncomputable def r_law : List D → Res W := runD 6 m_law
def top (i : Nat) : Stmt := PySem.Challenge.pw_shopbound_k24_no_plan.main.body.getD i (.Pass ⟨0, 0, 0, 0⟩)
abbrev s_is_name : Stmt := top 9
abbrev s_number_of : Stmt := top 12
abbrev s_read_plan : Stmt := top 13
abbrev s__law_rows : Stmt := top 15
abbrev s__law_spoilt : Stmt := top 16
abbrev s__law_refused : Stmt := top 17
abbrev s_law : Stmt := top 18
/-- what the module knows -/
structure Txt (mg : Str → Option Value) : Prop where
  b_ValueError : mg "ValueError" = none
  b_enumerate : mg "enumerate" = none
  b_int : mg "int" = none
  b_isinstance : mg "isinstance" = none
  b_len : mg "len" = none
  b_range : mg "range" = none
  b_str : mg "str" = none
  g_FIGURES : ∃ t, mg "FIGURES" = some (Value.str (PySem.Str.ofString "0123456789") t)
  g_LETTERS : ∃ t, mg "LETTERS" = some (Value.str (PySem.Str.ofString "abcdefghijklmnopqrstuvwxyz") t)
abbrev Known (K : PySem.W.Frag) (mg : Str → Option Value) (x : Str) (f : Addr) (fd : FuncData) (ps : List Str) : Prop := mg x = some (.ref f) ∧ PySem.W.keepIn K (.ref f) = true ∧ Binds K fd ps []
section
variable {P : Program} {w : World} {K : PySem.W.Frag} {mg : Str → Option Value} {base : Heap}
abbrev nm_is_name : List Str := ["thing", "sign"]
theorem sc_is_name : FnScope nm_is_name ["thing"] (defScope s_is_name) := ⟨rfl, rfl, rfl, by decide +kernel, rfl, by decide +kernel, by decide +kernel⟩
theorem ok_is_name {f : Addr} {fd : FuncData} (F : Fun K "is_name" "is_name" s_is_name f fd) (T : Txt mg) :
    FnOk P w K mg base (L2.CX P w) 1 f fd ["thing"] (spM K 1 r_is_name) := by
  obtain ⟨t_LETTERS, h_LETTERS⟩ := T.g_LETTERS
  refine fn_sem (k := 0) F sc_is_name r_is_name [] m_is_name (fun cdv A outer s H E hr => ⟨_, (pss_cons (ps_if ((pw_or (pt_not (kt_tru K rfl (pe_callB (ke_isi K rfl) (by rfl) T.b_isinstance (by decide +kernel) (pa_cons (pv 0) (pa_cons ((pe_bltn (v := .ty "str") (by rfl) T.b_str (by decide +kernel) rfl)) pa_nil))))) (pw_or1 (pt_not (pt_chain op_leU op_leU (pe_int) (pe_callB (ke_len K rfl) (by rfl) T.b_len (by decide +kernel) (pa_cons (pv 0) pa_nil)) (pe_int))))).pt) (pss_one (ps_ret (pe_bl))) pss_nil)
      (pss_cons (ps_for (passes_of rfl) rfl (ki_U K rfl (pv 0)) (pg_name (i := 1) sc_is_name.nd rfl (Or.inl rfl)) (pss_one (ps_if (pt_cmpR (ke_notIn K rfl (room65 hr)) (pv 1) ((pe_glob (v := (.str "abcdefghijklmnopqrstuvwxyz")) (by rfl) h_LETTERS ⟨_, rfl⟩)) rfl) (pss_one (ps_ret (pe_bl))) pss_nil)))
      (pss_one (ps_ret (pe_bl))))), ?_⟩) (fun _ _ => rfl)
  unfold m_is_name m_is_name_b1
  try dsimp only [cxOf]
  infer_instance
abbrev nm_number_of : List Str := ["word", "sign"]
theorem sc_number_of : FnScope nm_number_of ["word"] (defScope s_number_of) := ⟨rfl, rfl, rfl, by decide +kernel, rfl, by decide +kernel, by decide +kernel⟩
theorem ok_number_of {f : Addr} {fd : FuncData} (F : Fun K "number_of" "number_of" s_number_of f fd) (T : Txt mg)
    {C_NoPlan : Addr} (XG_NoPlan : mg "NoPlan" = some (.ref C_NoPlan)) (XF_NoPlan : ExF K C_NoPlan) [xc_NoPlan : IsCls K "NoPlan" C_NoPlan] :
    FnOk P w K mg base (L2.CX P w) 1 f fd ["word"] (spM K 1 r_number_of) := by
  obtain ⟨t_FIGURES, h_FIGURES⟩ := T.g_FIGURES
  refine fn_sem (k := 0) F sc_number_of r_number_of [] m_number_of (fun cdv A outer s H E hr => ⟨_, (pss_cons (ps_if ((pw_or (pt_cmpR (kx_eq K rfl (room65 hr)) (pv 0) (pe_str) (nomark _)) (pw_or1 ((pw_and (pt_cmpR op_gtU (pe_callB (ke_len K rfl) (by rfl) T.b_len (by decide +kernel) (pa_cons (pv 0) pa_nil)) (pe_int) (nomark _)) (pw_and1 (pt_cmpR (kx_eq K rfl (room65 hr)) (pe_ix (ke_ix K rfl (hu_of hr)) (pv 0) (pe_int) (fun _ _ => rfl)) (pe_str) (nomark _)))).pt))).pt) (pss_one (ps_raiseV XF_NoPlan XG_NoPlan (by rfl) rfl (takes_of rfl rfl rfl rfl))) pss_nil)
      (pss_cons (ps_for (passes_of rfl) rfl (ki_U K rfl (pv 0)) (pg_name (i := 1) sc_number_of.nd rfl (Or.inl rfl)) (pss_one (ps_if (pt_cmpR (ke_notIn K rfl (room65 hr)) (pv 1) ((pe_glob (v := (.str "0123456789")) (by rfl) h_FIGURES ⟨_, rfl⟩)) rfl) (pss_one (ps_raiseV XF_NoPlan XG_NoPlan (by rfl) rfl (takes_of rfl rfl rfl rfl))) pss_nil)))
      (pss_one (ps_ret (pe_callTy call_intU (by rfl) T.b_int (by decide +kernel) (pa_cons (pv 0) pa_nil)))))), ?_⟩) (fun _ _ => rfl)
  unfold m_number_of m_number_of_b1
  try dsimp only [cxOf]
  infer_instance
abbrev nm_read_plan : List Str := ["text", "plan", "ahead", "row", "words"]
theorem sc_read_plan : FnScope nm_read_plan ["text"] (defScope s_read_plan) := ⟨rfl, rfl, rfl, by decide +kernel, rfl, by decide +kernel, by decide +kernel⟩
theorem ok_read_plan {f : Addr} {fd : FuncData} (F : Fun K "read_plan" "read_plan" s_read_plan f fd) (T : Txt mg)
    {f_number_of : Addr} {fd_number_of : FuncData} (G_number_of : FnOk P w K mg base (L2.CX P w) 1 f_number_of fd_number_of ["word"] (spM K 1 r_number_of)) (M_number_of : Known K mg "number_of" f_number_of fd_number_of ["word"])
    {f_is_name : Addr} {fd_is_name : FuncData} (G_is_name : FnOk P w K mg base (L2.CX P w) 1 f_is_name fd_is_name ["thing"] (spM K 1 r_is_name)) (M_is_name : Known K mg "is_name" f_is_name fd_is_name ["thing"])
    {C_NoPlan : Addr} (XG_NoPlan : mg "NoPlan" = some (.ref C_NoPlan)) (XF_NoPlan : ExF K C_NoPlan) [xc_NoPlan : IsCls K "NoPlan" C_NoPlan] :
    FnOk P w K mg base (L2.CX P w) 2 f fd ["text"] (spM K 1 r_read_plan) := by
  refine fn_sem (k := 1) F sc_read_plan r_read_plan [1] m_read_plan (fun cdv A outer s H E hr => ⟨_, (pss_cons (ps_if (pt_not (kt_tru K rfl (pe_callB (ke_isi K rfl) (by rfl) T.b_isinstance (by decide +kernel) (pa_cons (pv 0) (pa_cons ((pe_bltn (v := .ty "str") (by rfl) T.b_str (by decide +kernel) rfl)) pa_nil))))) (pss_one (ps_raiseV XF_NoPlan XG_NoPlan (by rfl) rfl (takes_of rfl rfl rfl rfl))) pss_nil)
      (pss_cons (ps_set (i := 1) sc_read_plan.nd rfl (Or.inl rfl) (pe_dnewK))
      (pss_cons (ps_if (pt_cmpR (kx_eq K rfl (room65 hr)) (pv 0) (pe_str) (nomark _)) (pss_one (ps_ret (pv 1))) pss_nil)
      (pss_cons (ps_set (i := 2) sc_read_plan.nd rfl (Or.inl rfl) (pe_str))
      (pss_cons (ps_for (passes_of rfl) rfl (ki_U K rfl (kp_split (pv 0) (pe_str))) (pg_name (i := 3) sc_read_plan.nd rfl (Or.inl rfl)) (pss_cons (ps_set (i := 4) sc_read_plan.nd rfl (Or.inl rfl) (kp_split (pv 3) (pe_str)))
      (pss_cons (ps_if ((pw_or (pt_cmpR (kx_ne K rfl (room65 hr)) (pe_callB (ke_len K rfl) (by rfl) T.b_len (by decide +kernel) (pa_cons (pv 4) pa_nil)) (pe_int) (nomark _)) (pw_or (pt_not (kt_tru K rfl (pe_call G_is_name (hr.mono (by decide)) (by rfl) M_is_name.1 M_is_name.2.1 M_is_name.2.2 .nil passD (pa_cons (pe_ix (ke_ix K rfl (hu_of hr)) (pv 4) (pe_int) (fun _ _ => rfl)) pa_nil)))) (pw_or (pt_not (kt_tru K rfl (pe_call G_is_name (hr.mono (by decide)) (by rfl) M_is_name.1 M_is_name.2.1 M_is_name.2.2 .nil passD (pa_cons (pe_ix (ke_ix K rfl (hu_of hr)) (pv 4) (pe_int) (fun _ _ => rfl)) pa_nil)))) (pw_or1 (pt_cmpR op_leU (pe_ix (ke_ix K rfl (hu_of hr)) (pv 4) (pe_int) (fun _ _ => rfl)) (pv 2) (nomark _)))))).pt) (pss_one (ps_raiseV XF_NoPlan XG_NoPlan (by rfl) rfl (takes_of rfl rfl rfl rfl))) pss_nil)
      (pss_cons (ps_dput (hu_of hr) (pv 1) (pe_ix (ke_ix K rfl (hu_of hr)) (pv 4) (pe_int) (fun _ _ => rfl)) (pe_tup (pa_cons (pe_ix (ke_ix K rfl (hu_of hr)) (pv 4) (pe_int) (fun _ _ => rfl)) (pa_cons (pe_call G_number_of (hr.mono (by decide)) (by rfl) M_number_of.1 M_number_of.2.1 M_number_of.2.2 .nil passD (pa_cons (pe_ix (ke_ix K rfl (hu_of hr)) (pv 4) (pe_int) (fun _ _ => rfl)) pa_nil)) pa_nil))) (by rfl))
      (pss_one (ps_set (i := 2) sc_read_plan.nd rfl (Or.inl rfl) (pe_ix (ke_ix K rfl (hu_of hr)) (pv 4) (pe_int) (fun _ _ => rfl))))))))
      (pss_one (ps_ret (pv 1)))))))), ?_⟩) (fun _ _ => rfl)
  unfold m_read_plan m_read_plan_b1
  try dsimp only [cxOf]
  infer_instance
abbrev nm__law_rows : List Str := ["_law_cell", "_law_k"]
theorem sc__law_rows : FnScope nm__law_rows ["_law_cell"] (defScope s__law_rows) := ⟨rfl, rfl, rfl, by decide +kernel, rfl, by decide +kernel, by decide +kernel⟩
theorem ok__law_rows {f : Addr} {fd : FuncData} (F : Fun K "_law_rows" "_law_rows" s__law_rows f fd) (T : Txt mg) :
    FnOk P w K mg base (L2.CX P w) 1 f fd ["_law_cell"] (spM K 1 r__law_rows) := by
  refine fn_sem (k := 0) F sc__law_rows r__law_rows [] m__law_rows (fun cdv A outer s H E hr => ⟨_, (pss_one (ps_ret (pe_lc (own := [("_law_k", 1)]) rfl sc__law_rows.nd (pi_range1 (by rfl) T.b_range (pa_cons (pe_op (ke_add K rfl) (pe_int) (pe_op op_modI (pv 0) (pe_int))) pa_nil)) (blkOk_by (own := [("_law_k", 1)]) (N := nm__law_rows) (sc := defScope s__law_rows) (by decide +kernel)) (fun _ _ _ _ _ => pg_name (i := 1) sc__law_rows.nd rfl (Or.inl rfl)) (fun _ _ _ _ _ => pts_nil) (fun _ _ _ _ _ => pe_op (ke_add K rfl) (pe_op (ke_add K rfl) (pe_op (ke_mul K rfl) (pe_ix (ke_ix K rfl (hu_of hr)) (pe_lst (pa_cons (pe_str) (pa_cons (pe_str) (pa_cons (pe_str) (pa_cons (pe_str) (pa_cons (pe_str) pa_nil)))))) (pv 1) (fun _ _ => rfl)) (pe_op (ke_add K rfl) (pe_int) (pe_op op_modI (pe_op op_fdivI (pv 0) (pe_int)) (pe_int)))) (pe_str)) (pe_op (ke_mul K rfl) (pe_str) (pe_op op_modI (pv 1) (pe_int))))))), ?_⟩) (fun _ _ => rfl)
  unfold m__law_rows
  try dsimp only [cxOf]
  infer_instance
abbrev nm__law_spoilt : List Str := ["_law_rows_here", "_law_cell", "_law_at", "_law_row", "_law_words", "_law_some"]
theorem sc__law_spoilt : FnScope nm__law_spoilt ["_law_rows_here", "_law_cell"] (defScope s__law_spoilt) := ⟨rfl, rfl, rfl, by decide +kernel, rfl, by decide +kernel, by decide +kernel⟩
theorem ok__law_spoilt {f : Addr} {fd : FuncData} (F : Fun K "_law_spoilt" "_law_spoilt" s__law_spoilt f fd) (T : Txt mg) :
    FnOk P w K mg base (L2.CX P w) 1 f fd ["_law_rows_here", "_law_cell"] (spM K 2 r__law_spoilt) := by
  refine fn_sem (k := 0) F sc__law_spoilt r__law_spoilt [] m__law_spoilt (fun cdv A outer s H E hr => ⟨_, (pss_cons (ps_set (i := 2) sc__law_spoilt.nd rfl (Or.inl rfl) (pe_op op_modI (pe_op op_fdivI (pv 1) (pe_int)) (pe_callB (ke_len K rfl) (by rfl) T.b_len (by decide +kernel) (pa_cons (pv 0) pa_nil))))
      (pss_cons (ps_set (i := 3) sc__law_spoilt.nd rfl (Or.inl rfl) (pe_ix (ke_ix K rfl (hu_of hr)) (pv 0) (pv 2) (fun _ _ => rfl)))
      (pss_splitT (i := 4) sc__law_spoilt.nd rfl (Or.inl rfl) (pv 3)
      (psst_cons (pst_set (i := 5) sc__law_spoilt.nd rfl (Or.inl rfl) (pet_lst (pat_cons (CwR.PET.of (pe_op (ke_add K rfl) (pv 3) (pe_str))) (pat_cons (CwR.PET.of (pe_op (ke_add K rfl) (pe_str) (pv 3))) (pat_cons (pet_replN (pv 3)) (pat_cons (CwR.PET.of (pe_ix (ke_ix K rfl (hu_of hr)) (pv 4) (pe_int) (fun _ _ => rfl))) (pat_cons (CwR.PET.of (pe_op (ke_add K rfl) (pv 3) (pe_str))) (pat_cons (CwR.PET.of (pe_op (ke_add K rfl) (pe_op (ke_add K rfl) (pe_ix (ke_ix K rfl (hu_of hr)) (pv 4) (pe_int) (fun _ _ => rfl)) (pe_str)) (pe_ix (ke_ix K rfl (hu_of hr)) (pv 4) (pe_int) (fun _ _ => rfl)))) pat_nil)))))))) (PSsT.of
      (pss_cons (ps_set (i := 5) sc__law_spoilt.nd rfl (Or.inl rfl) (pe_op (ke_add K rfl) (pv 5) (pe_lst (pa_cons (kp_upper (pv 3)) (pa_cons (pe_op (ke_add K rfl) (pe_op (ke_add K rfl) (pe_str) (pe_ix (ke_ix K rfl (hu_of hr)) (pv 4) (pe_int) (fun _ _ => rfl))) (pe_str)) (pa_cons (pe_op (ke_add K rfl) (pe_op (ke_add K rfl) (pe_op (ke_add K rfl) (pe_ix (ke_ix K rfl (hu_of hr)) (pv 4) (pe_int) (fun _ _ => rfl)) (pe_str)) (pe_ix (ke_ix K rfl (hu_of hr)) (pv 4) (pe_int) (fun _ _ => rfl))) (pe_str)) (pa_cons (pe_op (ke_add K rfl) (pv 3) (pe_str)) (pa_cons (pe_str) pa_nil))))))))
      (pss_cons (ps_set (i := 5) sc__law_spoilt.nd rfl (Or.inl rfl) (pe_op (ke_add K rfl) (pv 5) (pe_lst (pa_cons (pe_op (ke_add K rfl) (pe_op (ke_add K rfl) (pe_op (ke_add K rfl) (pe_ix (ke_ix K rfl (hu_of hr)) (pv 4) (pe_int) (fun _ _ => rfl)) (pe_str)) (pe_ix (ke_ix K rfl (hu_of hr)) (pv 4) (pe_int) (fun _ _ => rfl))) (pe_str)) (pa_cons (pe_op (ke_add K rfl) (pe_op (ke_add K rfl) (pe_op (ke_add K rfl) (pe_ix (ke_ix K rfl (hu_of hr)) (pv 4) (pe_int) (fun _ _ => rfl)) (pe_str)) (pe_ix (ke_ix K rfl (hu_of hr)) (pv 4) (pe_int) (fun _ _ => rfl))) (pe_str)) (pa_cons (pe_op (ke_add K rfl) (pe_op (ke_add K rfl) (pv 3) (pe_str)) (pv 3)) pa_nil))))))
      (pss_cons (ps_set (i := 5) sc__law_spoilt.nd rfl (Or.inl rfl) (pe_op (ke_add K rfl) (pv 5) (pe_lst (pa_cons (pe_op (ke_add K rfl) (pe_str) (pe_slice (ke_sl K rfl) (pv 3) (po_some (pe_un un_neg (pe_int))) po_none)) (pa_cons (pe_op (ke_add K rfl) (pe_op (ke_add K rfl) (pe_str) (pe_ix (ke_ix K rfl (hu_of hr)) (pv 4) (pe_int) (fun _ _ => rfl))) (pe_str)) (pa_cons (pe_op (ke_add K rfl) (pe_ix (ke_ix K rfl (hu_of hr)) (pv 4) (pe_int) (fun _ _ => rfl)) (pe_str)) (pa_cons (pe_op (ke_add K rfl) (pe_ix (ke_ix K rfl (hu_of hr)) (pv 4) (pe_int) (fun _ _ => rfl)) (pe_str)) (pa_cons (pe_op (ke_add K rfl) (pv 3) (pe_str)) pa_nil))))))))
      (pss_cons (ps_set (i := 5) sc__law_spoilt.nd rfl (Or.inl rfl) (pe_op (ke_add K rfl) (pv 5) (pe_lst (pa_cons (pe_op (ke_add K rfl) (pe_op (ke_add K rfl) (pe_str) (pe_ix (ke_ix K rfl (hu_of hr)) (pv 4) (pe_int) (fun _ _ => rfl))) (pe_str)) (pa_cons (pe_op (ke_add K rfl) (pe_op (ke_add K rfl) (pe_op (ke_add K rfl) (pe_ix (ke_ix K rfl (hu_of hr)) (pv 4) (pe_int) (fun _ _ => rfl)) (pe_str)) (pe_ix (ke_ix K rfl (hu_of hr)) (pv 4) (pe_int) (fun _ _ => rfl))) (pe_str)) (pa_cons (pe_op (ke_add K rfl) (pe_op (ke_add K rfl) (pe_op (ke_add K rfl) (pe_ix (ke_ix K rfl (hu_of hr)) (pv 4) (pe_int) (fun _ _ => rfl)) (pe_str)) (pe_ix (ke_ix K rfl (hu_of hr)) (pv 4) (pe_int) (fun _ _ => rfl))) (pe_str)) pa_nil))))))
      (pss_cons (ps_set (i := 5) sc__law_spoilt.nd rfl (Or.inl rfl) (pe_op (ke_add K rfl) (pv 5) (pe_lst (pa_cons (pe_op (ke_add K rfl) (pe_ix (ke_ix K rfl (hu_of hr)) (pv 4) (pe_int) (fun _ _ => rfl)) (pe_str)) (pa_cons (pe_op (ke_add K rfl) (pe_ix (ke_ix K rfl (hu_of hr)) (pv 4) (pe_int) (fun _ _ => rfl)) (pe_str)) pa_nil)))))
      (pss_one (ps_ret (kp_join K rfl (pe_str) (pe_op (ke_add K rfl) (pe_op (ke_add K rfl) (pe_slice (ke_sl K rfl) (pv 0) po_none (po_some (pv 2))) (pe_lst (pa_cons (pe_ix (ke_ix K rfl (hu_of hr)) (pv 5) (pe_op op_modI (pv 1) (pe_int)) (fun _ _ => rfl)) pa_nil))) (pe_slice (ke_sl K rfl) (pv 0) (po_some (pe_op (ke_add K rfl) (pv 2) (pe_int))) po_none))))))))))))))), ?_⟩) (fun _ _ => rfl)
  unfold m__law_spoilt
  try dsimp only [cxOf]
  infer_instance
abbrev nm__law_refused : List Str := ["_law_text", "_law_caught", "e"]
theorem sc__law_refused : FnScope nm__law_refused ["_law_text"] (defScope s__law_refused) := ⟨rfl, rfl, rfl, by decide +kernel, rfl, by decide +kernel, by decide +kernel⟩
theorem ok__law_refused {f : Addr} {fd : FuncData} (F : Fun K "_law_refused" "_law_refused" s__law_refused f fd) (T : Txt mg)
    {f_read_plan : Addr} {fd_read_plan : FuncData} (G_read_plan : FnOk P w K mg base (L2.CX P w) 2 f_read_plan fd_read_plan ["text"] (spM K 1 r_read_plan)) (M_read_plan : Known K mg "read_plan" f_read_plan fd_read_plan ["text"])
    {C_NoPlan : Addr} (XG_NoPlan : mg "NoPlan" = some (.ref C_NoPlan))
    {C_NoRow : Addr} (XG_NoRow : mg "NoRow" = some (.ref C_NoRow))
    {C_NoSay : Addr} (XG_NoSay : mg "NoSay" = some (.ref C_NoSay))
    {C_NoShop : Addr} (XG_NoShop : mg "NoShop" = some (.ref C_NoShop))
    {C_NoTree : Addr} (XG_NoTree : mg "NoTree" = some (.ref C_NoTree))
    {C_ShopError : Addr} (XG_ShopError : mg "ShopError" = some (.ref C_ShopError))
    (XC : ∀ D, IsC K "NoPlan" D → PySem.W.exmOne K (.ref D) (.ref C_ShopError) = some true)
    [KitN K [.ref C_NoRow, .ref C_NoSay, .ref C_NoShop, .ref C_NoTree] (kitM "NoPlan" false)]
    [KitC K (.ref C_NoPlan) (kitM "NoPlan" true)]
    [KitC K (.ty "ValueError") (kitM "NoPlan" true)] :
    FnOk P w K mg base (L2.CX P w) 3 f fd ["_law_text"] (spM K 1 r__law_refused) := by
  refine fn_refused (k := 2) (i := 2) (j := 1) (ok := fun k => decide (k = "NoPlan")) (c := .ref C_ShopError) F sc__law_refused (by decide) (by decide) (by decide) (fun n D hn hD => XC D ((of_decide_eq_true hn) ▸ hD)) (fun cdv A outer s H E hr => ⟨_, (pss_cons (ps_set (i := 1) sc__law_refused.nd rfl (Or.inl rfl) (pe_non)) (pss_cons (ps_try_kept (i := 2) (j := 1) rfl rfl rfl sc__law_refused.nd rfl rfl rfl rfl ⟨by rfl, by decide, .inl XG_ShopError⟩ (fun a oe pn => pss_one (ps_set (i := 1) sc__law_refused.nd rfl (Or.inl rfl) (pv 2))) (fun W pn xe tk ps => pss_one (ps_expr (pe_callS G_read_plan (hr.mono (by decide)) (by rfl) M_read_plan.1 M_read_plan.2.1 M_read_plan.2.2 (fun σ => passAt tk σ) (pa_cons (pv 0) pa_nil))))) (pss_cons (ps_if ((pw_or (pt_not (kt_tru K rfl (pe_callB call_isE1 (by rfl) T.b_isinstance (by decide +kernel) (pa_cons (pv 1) (pa_cons (pe_glob (v := .ref C_NoPlan) (by rfl) XG_NoPlan rfl) pa_nil))))) (pw_or1 (pt_not (kt_tru K rfl (pe_callB call_isE1 (by rfl) T.b_isinstance (by decide +kernel) (pa_cons (pv 1) (pa_cons (pe_bltn (v := .ty "ValueError") (by rfl) T.b_ValueError (by decide +kernel) rfl) pa_nil))))))).pt) (pss_one (ps_ret (pe_bl))) pss_nil) (pss_one (ps_ret (pe_not (pe_callB call_isEn (by rfl) T.b_isinstance (by decide +kernel) (pa_cons (pv 1) (pa_cons (pe_tup (pa_cons (pe_glob (v := .ref C_NoRow) (by rfl) XG_NoRow rfl) (pa_cons (pe_glob (v := .ref C_NoSay) (by rfl) XG_NoSay rfl) (pa_cons (pe_glob (v := .ref C_NoShop) (by rfl) XG_NoShop rfl) (pa_cons (pe_glob (v := .ref C_NoTree) (by rfl) XG_NoTree rfl) pa_nil))))) pa_nil))))))))), ?_⟩)
  try dsimp only [cxOf]
  refine semKS_conv inferInstance fun x hx => ?_
  cases x with
  | none => rfl
  | some k =>
    by_cases hk : k.cls = "NoPlan"
    · simp [k__law_refused, kitM, hk]
    · exact (hx (if_neg hk)).elim
abbrev nm_law : List Str := ["_law_script", "_law_cell", "_law_rows_here", "_law_text", "_law_k", "_law_row"]
theorem sc_law : FnScope nm_law ["_law_script"] (defScope s_law) := ⟨rfl, rfl, rfl, by decide +kernel, rfl, by decide +kernel, by decide +kernel⟩
theorem ok_law {f : Addr} {fd : FuncData} (F : Fun K "law" "law" s_law f fd) (T : Txt mg)
    {f__law_spoilt : Addr} {fd__law_spoilt : FuncData} (G__law_spoilt : FnOk P w K mg base (L2.CX P w) 1 f__law_spoilt fd__law_spoilt ["_law_rows_here", "_law_cell"] (spM K 2 r__law_spoilt)) (M__law_spoilt : Known K mg "_law_spoilt" f__law_spoilt fd__law_spoilt ["_law_rows_here", "_law_cell"])
    {f__law_refused : Addr} {fd__law_refused : FuncData} (G__law_refused : FnOk P w K mg base (L2.CX P w) 3 f__law_refused fd__law_refused ["_law_text"] (spM K 1 r__law_refused)) (M__law_refused : Known K mg "_law_refused" f__law_refused fd__law_refused ["_law_text"])
    {f_read_plan : Addr} {fd_read_plan : FuncData} (G_read_plan : FnOk P w K mg base (L2.CX P w) 2 f_read_plan fd_read_plan ["text"] (spM K 1 r_read_plan)) (M_read_plan : Known K mg "read_plan" f_read_plan fd_read_plan ["text"])
    {f__law_rows : Addr} {fd__law_rows : FuncData} (G__law_rows : FnOk P w K mg base (L2.CX P w) 1 f__law_rows fd__law_rows ["_law_cell"] (spM K 1 r__law_rows)) (M__law_rows : Known K mg "_law_rows" f__law_rows fd__law_rows ["_law_cell"]) :
    FnOk P w K mg base (L2.CX P w) 4 f fd ["_law_script"] (spM K 1 r_law) := by
  refine fn_sem (k := 3) F sc_law r_law [] m_law (fun cdv A outer s H E hr => ⟨_, (pss_cons (ps_for (passes_of rfl) rfl (ki_U K rfl (pe_op (ke_add K rfl) (pe_lst (pa_cons (pe_int) pa_nil)) (pe_slice (ke_sl K rfl) (pv 0) po_none (po_some (pe_int))))) (pg_name (i := 1) sc_law.nd rfl (by first | exact Or.inl rfl | exact Or.inr rfl)) (pss_cons (ps_setLc (i := 2) (own := [("_law_k", 4), ("_law_row", 5)]) rfl sc_law.nd rfl rfl (sw_true rfl rfl rfl (by decide +kernel)) (ki_enum K rfl (by rfl) T.b_enumerate (pa_cons (pe_call G__law_rows (hr.mono (by decide)) (by rfl) M__law_rows.1 M__law_rows.2.1 M__law_rows.2.2 .nil passD (pa_cons (pe_op op_fdivI (pv 1) (pe_int)) pa_nil)) pa_nil)) (blkOk_by (own := [("_law_k", 4), ("_law_row", 5)]) (N := nm_law) (sc := defScope s_law) (by decide +kernel)) (fun _ _ _ _ _ => kg_tup K rfl (n := 2) rfl (pgs_cons (pg_name (i := 4) sc_law.nd rfl (Or.inl rfl)) (pgs_cons (pg_name (i := 5) sc_law.nd rfl (Or.inl rfl)) pgs_nil))) (fun _ _ _ _ _ => pts_nil) (fun _ _ _ _ _ => pe_op (ke_add K rfl) (pe_op (ke_add K rfl) (pv 5) (pe_str)) (pe_callTy call_strU (by rfl) T.b_str (by decide +kernel) (pa_cons (pe_op (ke_mul K rfl) (pe_op op_modI (pe_op op_fdivI (pv 1) (pe_int)) (pe_int)) (pv 4)) pa_nil))))
      (pss_cons (ps_if ((pw_or (pt_cmpR (kx_ne K rfl (room65 hr)) (pe_callB (ke_len K rfl) (by rfl) T.b_len (by decide +kernel) (pa_cons (pe_call G_read_plan (hr.mono (by decide)) (by rfl) M_read_plan.1 M_read_plan.2.1 M_read_plan.2.2 .nil passD (pa_cons (kp_join K rfl (pe_str) (pv 2)) pa_nil)) pa_nil)) (pe_callB (ke_len K rfl) (by rfl) T.b_len (by decide +kernel) (pa_cons (pv 2) pa_nil)) (nomark _)) (pw_or1 (pt_cmpR (kx_ne K rfl (room65 hr)) (pe_call G_read_plan (hr.mono (by decide)) (by rfl) M_read_plan.1 M_read_plan.2.1 M_read_plan.2.2 .nil passD (pa_cons (pe_str) pa_nil)) (pe_dnewK) (nomark _)))).pt) (pss_one (ps_ret (pe_bl))) pss_nil)
      (pss_cons (ps_if ((pw_and (pt_cmpR op_gtU (pe_callB (ke_len K rfl) (by rfl) T.b_len (by decide +kernel) (pa_cons (pv 2) pa_nil)) (pe_int) (nomark _)) (pw_and1 (pt_not (kt_tru K rfl (pe_call G__law_refused (hr.mono (by decide)) (by rfl) M__law_refused.1 M__law_refused.2.1 M__law_refused.2.2 .nil passD (pa_cons (kp_join K rfl (pe_str) (kp_rev K rfl (pv 2))) pa_nil)))))).pt) (pss_one (ps_ret (pe_bl))) pss_nil)
      (pss_cons (ps_set (i := 3) sc_law.nd rfl (Or.inl rfl) (pe_call G__law_spoilt (hr.mono (by decide)) (by rfl) M__law_spoilt.1 M__law_spoilt.2.1 M__law_spoilt.2.2 .nil passD (pa_cons (pv 2) (pa_cons (pv 1) pa_nil))))
      (pss_cons (ps_if ((pw_and (pt_cmpR (kx_ne K rfl (room65 hr)) (pv 3) (pe_str) (nomark _)) (pw_and1 (pt_not (kt_tru K rfl (pe_call G__law_refused (hr.mono (by decide)) (by rfl) M__law_refused.1 M__law_refused.2.1 M__law_refused.2.2 .nil passD (pa_cons (pv 3) pa_nil)))))).pt) (pss_one (ps_ret (pe_bl))) pss_nil)
      (pss_one (ps_if (pt_not (kt_tru K rfl (pe_call G__law_refused (hr.mono (by decide)) (by rfl) M__law_refused.1 M__law_refused.2.1 M__law_refused.2.2 .nil passD (pa_cons (pe_ix (ke_ix K rfl (hu_of hr)) (pe_lst (pa_cons (pe_non) (pa_cons (pe_int) (pa_cons (pe_bl) (pa_cons (pe_lst (pa_cons (pe_str) pa_nil)) (pa_cons (pe_tup (pa_cons (pe_str) pa_nil)) (pa_cons (pe_dnewK) (pa_cons (pe_int) pa_nil)))))))) (pe_op op_modI (pv 1) (pe_int)) (fun _ _ => rfl)) pa_nil)))) (pss_one (ps_ret (pe_bl))) pss_nil))))))))
      (pss_one (ps_ret (pe_bl)))), ?_⟩) (fun _ _ => rfl)
  unfold m_law m_law_b1
  try dsimp only [cxOf]
  infer_instance
end
end My

set_option Elab.async false
set_option linter.all false
set_option maxRecDepth 100000
set_option maxHeartbeats 4000000
namespace My
open PySem L2 Ly
theorem letters_cps : (PySem.Str.ofString "abcdefghijklmnopqrstuvwxyz").cps.toList = (List.range 26).map (· + 97) := by decide +kernel
theorem mem_letters (c : Nat) : c ∈ (PySem.Str.ofString "abcdefghijklmnopqrstuvwxyz").cps ↔ 97 ≤ c ∧ c ≤ 122 := by
  rw [← Array.mem_toList_iff, letters_cps, List.mem_map]
  constructor
  · rintro ⟨a, h, rfl⟩
    rw [List.mem_range] at h
    omega
  · intro h
    exact ⟨c - 97, by rw [List.mem_range]; omega, by omega⟩
def okc (c : Nat) : Bool := decide (97 ≤ c ∧ c ≤ 122)
def isName (z : Str) : Bool := decide (1 ≤ z.length ∧ z.length ≤ 8) && z.cps.toList.all okc
theorem v_notIn_sign (c : Nat) (z : Str) : notInB (sign c) (.str z) = .ok (.bl (!decide (c ∈ z.cps.toList))) := rfl
theorem is_name_loop (z : Str) : ∀ (cs : List Nat) (x1 : Option W), ∃ x1', runL (mName 1) m_is_name_b1 (cs.map sign) [some (.sh (.str z)), x1] =
    if cs.all okc = true then .ok (.nx [some (.sh (.str z)), x1']) else .ok (.rt (.sh (.bl false)))
  | [], x1 => ⟨x1, rfl⟩
  | c :: cs, x1 => by
    obtain ⟨x', ih⟩ := is_name_loop z cs (some (.sh (sign c)))
    refine ⟨x', ?_⟩
    rw [List.map_cons, a_runLc]
    simp only [a_mName, Res.bind_ok]
    rw [show m_is_name_b1 = mIfS [] (mTest (mD (mOpX notInB (mVarX 1) (mD (mK (.str "abcdefghijklmnopqrstuvwxyz")))))) (mRet [] (mK (.bl false))) mNext from rfl, a_mIfS] at *
    by_cases h : 97 ≤ c ∧ c ≤ 122
    · have h1 : okc c = true := decide_eq_true h
      rw [List.all_cons, h1, Bool.true_and, ← ih]
      simp [h, v_notIn_sign, mem_letters]
    · have h1 : okc c = false := decide_eq_false h
      rw [List.all_cons, h1, Bool.false_and]
      simp [h, v_notIn_sign, mem_letters]
theorem is_name_str (z : Str) (hz : z.length ≤ 10000000) : r_is_name [.str z] = .ok (.sh (.bl (isName z))) := by
  unfold r_is_name m_is_name
  simp [tyD, isTy, hz]
  by_cases h1 : (1 : Int) ≤ z.length
  · by_cases h2 : (z.length : Int) ≤ 8
    · obtain ⟨x, hx⟩ := is_name_loop z z.cps.toList none
      have e : isName z = z.cps.toList.all okc := by
        unfold isName
        rw [decide_eq_true (by omega), Bool.true_and]
      rw [e]
      cases hall : z.cps.toList.all okc <;> rw [hall] at hx <;> simp [h1, h2, hx]
    · have e : isName z = false := by
        unfold isName
        rw [decide_eq_false (by omega), Bool.false_and]
      simp [h1, h2, e]
  · have e : isName z = false := by
      unfold isName
      rw [decide_eq_false (by omega), Bool.false_and]
    simp [h1, e]
end My

set_option Elab.async false
set_option linter.all false
set_option maxRecDepth 100000
set_option maxHeartbeats 4000000
namespace My
open PySem L2 Ly TL
/-! k24: the reading of rows: which are read, which are refused -/
theorem seq_nx {a b : En → Res Fl} {env e : En} (h : a env = .ok (.nx e)) : mSeq a b env = b e := by
  unfold mSeq
  rw [h]
  rfl
theorem seq_ex {a b : En → Res Fl} {env : En} {k : Xc} (h : a env = .ex k) : mSeq a b env = .ex k := by
  unfold mSeq
  rw [h]
  rfl
def sp : Str := PySem.Str.ofString " "
def semi : Str := PySem.Str.ofString "; "
theorem tl_sp : tl sp = [32] := by decide +kernel
theorem tl_semi : tl semi = [59, 32] := by decide +kernel
theorem sp_all : sp.cps.all (· < 256) = true := by decide +kernel
theorem semi_all : semi.cps.all (· < 256) = true := by decide +kernel
def ofL (l : List Nat) : Str := ⟨l.toArray⟩
theorem split_is (z y : Str) {S : List Nat} (ey : tl y = S) (hS : S ≠ []) (hk : y.cps.all (· < 256) = true) : Txt.split z y = (spl S 0 [] (tl z)).map ofL := by
  refine map_tl_inj ?_
  rw [split_spl _ y (by rw [ey]; exact hS) (kind_ok hk), ey, List.map_map]
  symm
  refine (List.map_congr_left fun l _ => ?_).trans (List.map_id _)
  show (l.toArray).toList = l
  simp
def spS (z : Str) : List Str := (spl [32] 0 [] (tl z)).map ofL
def semS (z : Str) : List Str := (spl [59, 32] 0 [] (tl z)).map ofL
theorem spS_is (z : Str) : Txt.split z sp = spS z := split_is z sp tl_sp (by decide) sp_all
theorem semS_is (z : Str) : Txt.split z semi = semS z := split_is z semi tl_semi (by decide) semi_all
noncomputable def numK (z : Str) : Option (Option Int) := match r_number_of [.str z] with
  | .ok (.sh (.int i)) => some (some i)
  | .ex k => if k.cls = ("NoPlan" : Str) then some none else none
  | _ => none
theorem numK_ok {z : Str} {i : Int} (h : numK z = some (some i)) : r_number_of [.str z] = .ok (.sh (.int i)) := by
  unfold numK at h
  split at h
  · rename_i e; rw [e]; cases h; rfl
  · split at h <;> cases h
  · cases h
theorem numK_ex {z : Str} (h : numK z = some none) : ∃ k, k.cls = ("NoPlan" : Str) ∧ r_number_of [.str z] = .ex k := by
  unfold numK at h
  split at h
  · cases h
  · rename_i k e
    split at h
    · rename_i hc; exact ⟨k, hc, e⟩
    · cases h
  · cases h
/-- a row behind the name a: none: not told; some none: refused; else its name -/
noncomputable def rowK (a r : Str) : Option (Option Str) := match spS r with
  | [x, y, z] => if x.length ≤ 1000 ∧ y.length ≤ 1000 then
      (if isName x = true then if isName y = true then if strLt a x = true then (match numK z with | some (some _) => some (some x) | some none => some none | none => none) else some none else some none else some none) else none
  | ws => if ws.length ≤ 1000 then some none else none
theorem len_ne {ws : List Str} (h : ∀ x y z, ws ≠ [x, y, z]) : ¬ (ws.length : Int) = 3 := by
  intro e
  match ws, e with
  | [x, y, z], _ => exact h x y z rfl
  | [], e => simp at e
  | [_], e => simp at e
  | [_, _], e => simp at e
  | _ :: _ :: _ :: _ :: _, e => simp at e; omega
def rowD (p : Str × Int) : D := .tup [.str p.1, .int p.2]
def planW (zs : List Str) (L : Str → Str × Int) : W := .dic (zs.map Sum.inr) (zs.map fun z => rowD (L z))
def addL (L : Str → Str × Int) (z : Str) (p : Str × Int) : Str → Str × Int := fun y => if y = z then p else L y
theorem putKs_map {α β : Type} [DecidableEq α] [DecidableEq β] (f : α → β) (hf : ∀ a b, f a = f b → a = b) (zs : List α) (z : α) : putKs (zs.map f) (f z) = (putKs zs z).map f := by
  have e : f z ∈ zs.map f ↔ z ∈ zs := ⟨fun h => by
    obtain ⟨y, hy, e⟩ := List.mem_map.mp h
    rw [← hf _ _ e]; exact hy, fun h => List.mem_map.mpr ⟨z, h, rfl⟩⟩
  unfold putKs
  by_cases h : z ∈ zs
  · rw [if_pos h, if_pos (e.mpr h)]
  · rw [if_neg h, if_neg fun q => h (e.mp q), List.map_append]
    rfl
theorem zipWith_map2 {α β γ : Type} (f : α → β) (g : α → γ) (h : β → γ → γ) : ∀ zs : List α, List.zipWith h (zs.map f) (zs.map g) = zs.map fun z => h (f z) (g z)
  | [] => rfl
  | z :: zs => by rw [List.map_cons, List.map_cons, List.zipWith_cons_cons, zipWith_map2 f g h zs, List.map_cons]
theorem put_planW (zs : List Str) (L : Str → Str × Int) (z : Str) (p : Str × Int) (hl : zs.length ≤ 10000000) : putDic (.str z) (rowD p) (planW zs L) = .ok (planW (putKs zs z) (addL L z p)) := by
  have inj : ∀ a b : Str, (Sum.inr a : Key) = Sum.inr b → a = b := fun a b h => by cases h; rfl
  show (if small (zs.map Sum.inr : List Key).length = true then Res.ok (W.dic (putKs (zs.map Sum.inr) (Sum.inr z : Key)) (putXs (zs.map Sum.inr) (zs.map fun z => rowD (L z)) (Sum.inr z : Key) (rowD p))) else Res.st) = _
  rw [if_pos (a_small (by rw [List.length_map]; exact hl)), putKs_map Sum.inr inj]
  unfold planW
  congr 2
  have e : (Sum.inr z : Key) ∈ (zs.map Sum.inr : List Key) ↔ z ∈ zs := ⟨fun h => by
    obtain ⟨y, hy, e⟩ := List.mem_map.mp h
    cases e; exact hy, fun h => List.mem_map.mpr ⟨z, h, rfl⟩⟩
  unfold putXs putKs
  by_cases h : z ∈ zs
  · rw [if_pos h, if_pos (e.mpr h), zipWith_map2]
    refine List.map_congr_left fun y _ => ?_
    by_cases hy : y = z
    · subst hy; simp [addL]
    · have : ¬ (Sum.inr y : Key) = Sum.inr z := fun q => hy (inj _ _ q)
      simp [addL, hy, this]
  · rw [if_neg h, if_neg fun q => h (e.mp q), List.map_append]
    congr 1
    · refine List.map_congr_left fun y hy => ?_
      have : y ≠ z := fun q => h (q ▸ hy)
      simp [addL, this]
    · simp [addL]
theorem i0 (x y w : D) : ixD (.lst [x, y, w]) (.int 0) = .ok (.sh x) := rfl
theorem i1 (x y w : D) : ixD (.lst [x, y, w]) (.int 1) = .ok (.sh y) := rfl
theorem i2 (x y w : D) : ixD (.lst [x, y, w]) (.int 2) = .ok (.sh w) := rfl
section
variable (t : Option W) {zs : List Str} {L : Str → Str × Int} {a r : Str} {x4 : Option W} (hl : zs.length ≤ 10000000) (hr : r.length ≤ 1000)
theorem sp_fact (hr : r.length ≤ 1000) : splitD r (.str (PySem.Str.ofString " ")) = .ok (.lst ((spS r).map D.str)) := by
  show (if ((PySem.Str.ofString " ").length == 0) = false ∧ small r.length = true then Res.ok (W.lst ((Txt.split r sp).map D.str)) else Res.st) = _
  rw [if_pos ⟨by decide, a_small (by omega)⟩, spS_is]
include hl hr in
theorem row_good {x : Str} (h : rowK a r = some (some x)) : ∃ L' y4, m_read_plan_b1 [t, some (planW zs L), some (.sh (.str a)), some (.sh (.str r)), x4] = .ok (.nx [t, some (planW (putKs zs x) L'), some (.sh (.str x)), some (.sh (.str r)), y4]) := by
  have hsp := sp_fact hr
  unfold rowK at h
  split at h
  · rename_i x' y z e
    split at h
    case isFalse => cases h
    rename_i hxy
    split at h
    case isFalse => cases h
    rename_i hx
    split at h
    case isFalse => cases h
    rename_i hy
    split at h
    case isFalse => cases h
    rename_i hlt
    split at h
    case h_2 => cases h
    case h_3 => cases h
    rename_i i hi
    obtain rfl : x' = x := by cases h; rfl
    have hn1 := is_name_str x' (by omega)
    have hn2 := is_name_str y (by omega)
    rw [hx] at hn1
    rw [hy] at hn2
    have hnum := numK_ok hi
    have hput : putDic (.str x') (.tup [.str y, .int i]) (planW zs L) = .ok (planW (putKs zs x') (addL L x' (y, i))) := put_planW zs L x' (y, i) hl
    rw [e] at hsp
    refine ⟨addL L x' (y, i), some (.sh (.lst [.str x', .str y, .str z])), ?_⟩
    unfold m_read_plan_b1
    generalize planW (putKs zs x') (addL L x' (y, i)) = P2 at *
    generalize planW zs L = P at *
    rw [seq_nx (e := [t, some P, some (.sh (.str a)), some (.sh (.str r)), some (.sh (.lst [.str x', .str y, .str z]))]) (by simp [hsp])]
    rw [seq_nx (e := [t, some P, some (.sh (.str a)), some (.sh (.str r)), some (.sh (.lst [.str x', .str y, .str z]))]) (by simp [i0, i1, i2, hn1, hn2, hlt, -v_ixl])]
    rw [seq_nx (e := [t, some P2, some (.sh (.str a)), some (.sh (.str r)), some (.sh (.lst [.str x', .str y, .str z]))]) (by simp [i0, i1, i2, hnum, hput, -v_ixl])]
    simp [i0, -v_ixl]
  · split at h <;> cases h
include hr in
theorem row_bad (h : rowK a r = some none) : ∃ k, k.cls = ("NoPlan" : Str) ∧ m_read_plan_b1 [t, some (planW zs L), some (.sh (.str a)), some (.sh (.str r)), x4] = .ex k := by
  have hsp := sp_fact hr
  generalize planW zs L = P at *
  unfold rowK at h
  unfold m_read_plan_b1
  split at h
  · rename_i x y z e
    rw [e] at hsp
    split at h
    case isFalse => cases h
    rename_i hxy
    have hn1 := is_name_str x (by omega)
    have hn2 := is_name_str y (by omega)
    rw [seq_nx (e := [t, some P, some (.sh (.str a)), some (.sh (.str r)), some (.sh (.lst [.str x, .str y, .str z]))]) (by simp [hsp])]
    split at h
    · rename_i hx
      rw [hx] at hn1
      split at h
      · rename_i hy
        rw [hy] at hn2
        split at h
        · rename_i hlt
          split at h
          case h_1 => cases h
          case h_3 => cases h
          rename_i hi
          obtain ⟨k, hk, hnum⟩ := numK_ex hi
          refine ⟨k, hk, ?_⟩
          rw [seq_nx (e := [t, some P, some (.sh (.str a)), some (.sh (.str r)), some (.sh (.lst [.str x, .str y, .str z]))]) (by simp [i0, i1, i2, hn1, hn2, hlt, -v_ixl])]
          refine seq_ex ?_
          simp [i0, i1, i2, hnum, -v_ixl]
        · rename_i hlt
          have hlt' : strLt a x = false := by simpa using hlt
          refine ⟨⟨"NoPlan", none⟩, rfl, seq_ex ?_⟩
          simp [i0, i1, i2, hn1, hn2, hlt', -v_ixl, mRaise]
      · rename_i hy
        have hy' : isName y = false := by simpa using hy
        rw [hy'] at hn2
        refine ⟨⟨"NoPlan", none⟩, rfl, seq_ex ?_⟩
        simp [i0, i1, i2, hn1, hn2, -v_ixl, mRaise]
    · rename_i hx
      have hx' : isName x = false := by simpa using hx
      rw [hx'] at hn1
      refine ⟨⟨"NoPlan", none⟩, rfl, seq_ex ?_⟩
      simp [i0, i1, i2, hn1, -v_ixl, mRaise]
  · rename_i hne
    split at h
    case isFalse => cases h
    rename_i hw
    have h3 := len_ne hne
    generalize spS r = ws at *
    refine ⟨⟨"NoPlan", none⟩, rfl, ?_⟩
    rw [seq_nx (e := [t, some P, some (.sh (.str a)), some (.sh (.str r)), some (.sh (.lst (ws.map D.str)))]) (by simp [hsp])]
    refine seq_ex ?_
    have hw' : ws.length ≤ 10000000 := by omega
    simp [h3, hw', mRaise]
end
theorem put_len (zs : List Str) (x : Str) : (putKs zs x).length ≤ zs.length + 1 := by
  unfold putKs
  split
  · omega
  · simp
noncomputable def scan (a : Str) : List Str → Option Bool
  | [] => some true
  | r :: rs => match rowK a r with
    | some (some x) => scan x rs
    | some none => some false
    | none => none
theorem run_scan (t : Option W) : ∀ (rows : List Str) (a : Str) (zs : List Str) (L : Str → Str × Int) (x3 x4 : Option W), (∀ r ∈ rows, r.length ≤ 1000) → zs.length + rows.length ≤ 10000000 → scan a rows = some false →
    ∃ k, k.cls = ("NoPlan" : Str) ∧ runL (mName 3) m_read_plan_b1 (rows.map D.str) [t, some (planW zs L), some (.sh (.str a)), x3, x4] = .ex k
  | [], _, _, _, _, _, _, _, h => by cases h
  | r :: rs, a, zs, L, x3, x4, hr, hl, h => by
    have hr0 := hr r List.mem_cons_self
    rw [List.length_cons] at hl
    unfold scan at h
    split at h
    · rename_i x e
      have hz := put_len zs x
      obtain ⟨L', y4, e1⟩ := row_good t (zs := zs) (L := L) (x4 := x4) (by omega) hr0 e
      obtain ⟨k, hk, e2⟩ := run_scan t rs x (putKs zs x) L' (some (.sh (.str r))) y4 (fun q hq => hr q (List.mem_cons_of_mem _ hq)) (by omega) h
      refine ⟨k, hk, ?_⟩
      rw [List.map_cons, a_runLc, a_mName]
      show (Res.bind (m_read_plan_b1 [t, some (planW zs L), some (.sh (.str a)), some (.sh (.str r)), x4]) _) = _
      rw [e1]
      exact e2
    · rename_i e
      obtain ⟨k, hk, e1⟩ := row_bad t (zs := zs) (L := L) (x4 := x4) hr0 e
      refine ⟨k, hk, ?_⟩
      rw [List.map_cons, a_runLc, a_mName]
      show (Res.bind (m_read_plan_b1 [t, some (planW zs L), some (.sh (.str a)), some (.sh (.str r)), x4]) _) = _
      rw [e1]
      rfl
    · cases h
/-- a text that is refused -/
noncomputable def chkT (z : Str) : Bool := decide (z.length ≤ 1000) && !decide (z = PySem.Str.ofString "") && (semS z).all (fun r => decide (r.length ≤ 1000)) && decide ((semS z).length ≤ 1000) && decide (scan (PySem.Str.ofString "") (semS z) = some false)
theorem refused_is {z : Str} (h : chkT z = true) : r__law_refused [.str z] = .ok (.sh (.bl true)) := by
  unfold chkT at h
  simp only [Bool.and_eq_true, decide_eq_true_eq, List.all_eq_true] at h
  obtain ⟨⟨⟨⟨h1, h2⟩, h3⟩, h4⟩, h5⟩ := h
  have h2' : ¬ z = PySem.Str.ofString "" := by simpa using h2
  have hsp : splitD z (.str (PySem.Str.ofString "; ")) = .ok (.lst ((semS z).map D.str)) := by
    show (if ((PySem.Str.ofString "; ").length == 0) = false ∧ small z.length = true then Res.ok (W.lst ((Txt.split z semi).map D.str)) else Res.st) = _
    rw [if_pos ⟨by decide, a_small (by omega)⟩, semS_is]
  have e : ∃ k, k.cls = ("NoPlan" : Str) ∧ r_read_plan [.str z] = .ex k := by
    obtain ⟨k, hk, er⟩ := run_scan (some (.sh (.str z))) (semS z) _ [] (fun _ => (Str.empty, 0)) none none h3 (by simp; omega) h5
    refine ⟨k, hk, ?_⟩
    unfold r_read_plan m_read_plan
    simp only [a_runD]
    have hslots : slots 5 [D.str z] = [some (.sh (.str z)), none, none, none, none] := rfl
    rw [hslots]
    rw [seq_nx (e := [some (.sh (.str z)), none, none, none, none]) (by simp [tyD, isTy])]
    rw [seq_nx (e := [some (.sh (.str z)), some (planW [] fun _ => (Str.empty, 0)), none, none, none]) rfl]
    rw [seq_nx (e := [some (.sh (.str z)), some (planW [] fun _ => (Str.empty, 0)), none, none, none]) (by simp [h2'])]
    rw [seq_nx (e := [some (.sh (.str z)), some (planW [] fun _ => (Str.empty, 0)), some (.sh (.str (PySem.Str.ofString ""))), none, none]) rfl]
    rw [seq_ex (k := k) (by simp [hsp]; exact er)]
    rfl
  obtain ⟨k, hk, e⟩ := e
  unfold r__law_refused refused
  rw [e]
  dsimp only
  rw [hk, if_pos (by decide)]
  unfold toldK k__law_refused
  dsimp only
  rw [if_pos hk]
end My

set_option Elab.async false
set_option linter.all false
set_option maxRecDepth 100000
set_option maxHeartbeats 4000000
namespace My
open PySem L2 Ly TL
/-! k24: a text that is read; texts that are joined of rows without a separator within -/
noncomputable def scanX (a : Str) : List Str → Option (List Str)
  | [] => some []
  | r :: rs => match rowK a r with
    | some (some x) => (scanX x rs).map fun xs => x :: xs
    | _ => none
theorem put_new {zs : List Str} {x : Str} (h : x ∉ zs) : putKs zs x = zs ++ [x] := by
  unfold putKs
  rw [if_neg h]
theorem run_good (t : Option W) : ∀ (rows : List Str) (a : Str) (zs xs : List Str) (L : Str → Str × Int) (x3 x4 : Option W), (∀ r ∈ rows, r.length ≤ 1000) → zs.length + rows.length ≤ 10000000 → scanX a rows = some xs → (zs ++ xs).Nodup →
    ∃ L' y2 y3 y4, runL (mName 3) m_read_plan_b1 (rows.map D.str) [t, some (planW zs L), some (.sh (.str a)), x3, x4] = .ok (.nx [t, some (planW (zs ++ xs) L'), y2, y3, y4])
  | [], a, zs, xs, L, x3, x4, _, _, h, _ => by
    cases h
    rw [List.append_nil]
    exact ⟨_, _, _, _, rfl⟩
  | r :: rs, a, zs, xs, L, x3, x4, hr, hl, h, nd => by
    have hr0 := hr r List.mem_cons_self
    rw [List.length_cons] at hl
    unfold scanX at h
    split at h
    · rename_i x e
      obtain ⟨ys, hy, rfl⟩ := Option.map_eq_some_iff.mp h
      have hn : x ∉ zs := fun q => by
        rw [List.nodup_append] at nd
        exact nd.2.2 x q x List.mem_cons_self rfl
      obtain ⟨L', y4, e1⟩ := row_good t (zs := zs) (L := L) (x4 := x4) (by omega) hr0 e
      rw [put_new hn] at e1
      obtain ⟨L2, z2, z3, z4, e2⟩ := run_good t rs x (zs ++ [x]) ys L' (some (.sh (.str r))) y4 (fun q hq => hr q (List.mem_cons_of_mem _ hq)) (by rw [List.length_append, List.length_singleton]; omega) hy (by rw [List.append_assoc]; exact nd)
      rw [List.append_assoc] at e2
      refine ⟨L2, z2, z3, z4, ?_⟩
      rw [List.map_cons, a_runLc, a_mName]
      show (Res.bind (m_read_plan_b1 [t, some (planW zs L), some (.sh (.str a)), some (.sh (.str r)), x4]) _) = _
      rw [e1]
      exact e2
    · cases h
theorem read_good {z : Str} {xs : List Str} (h1 : z.length ≤ 10000) (h2 : ¬ z = PySem.Str.ofString "") (h3 : ∀ r ∈ semS z, r.length ≤ 1000) (h4 : (semS z).length ≤ 1000) (h5 : scanX (PySem.Str.ofString "") (semS z) = some xs) (nd : xs.Nodup) :
    ∃ L', r_read_plan [.str z] = .ok (planW xs L') := by
  have hsp : splitD z (.str (PySem.Str.ofString "; ")) = .ok (.lst ((semS z).map D.str)) := by
    show (if ((PySem.Str.ofString "; ").length == 0) = false ∧ small z.length = true then Res.ok (W.lst ((Txt.split z semi).map D.str)) else Res.st) = _
    rw [if_pos ⟨by decide, a_small (by omega)⟩, semS_is]
  obtain ⟨L', y2, y3, y4, er⟩ := run_good (some (.sh (.str z))) (semS z) _ [] xs (fun _ => (Str.empty, 0)) none none h3 (by simp; omega) h5 nd
  refine ⟨L', ?_⟩
  unfold r_read_plan m_read_plan
  simp only [a_runD]
  have hslots : slots 5 [D.str z] = [some (.sh (.str z)), none, none, none, none] := rfl
  rw [hslots]
  rw [seq_nx (e := [some (.sh (.str z)), none, none, none, none]) (by simp [tyD, isTy])]
  rw [seq_nx (e := [some (.sh (.str z)), some (planW [] fun _ => (Str.empty, 0)), none, none, none]) rfl]
  rw [seq_nx (e := [some (.sh (.str z)), some (planW [] fun _ => (Str.empty, 0)), none, none, none]) (by simp [h2])]
  rw [seq_nx (e := [some (.sh (.str z)), some (planW [] fun _ => (Str.empty, 0)), some (.sh (.str (PySem.Str.ofString ""))), none, none]) rfl]
  rw [seq_nx (by simp [hsp]; exact er)]
  rfl
/-- no separator within p, nor over its end -/
def noM : List Nat → Bool
  | [] => true
  | c :: r => !pre [59, 32] ((c :: r) ++ [59, 32]) && noM r
theorem pre_app (c : Nat) (r rest : List Nat) : pre [59, 32] ((c :: r) ++ [59, 32] ++ rest) = pre [59, 32] ((c :: r) ++ [59, 32]) := by
  cases r with
  | nil => rfl
  | cons d r => rfl
theorem spl_noM : ∀ (p acc rest : List Nat), noM p = true → spl [59, 32] 0 acc (p ++ ([59, 32] ++ rest)) = (acc ++ p) :: spl [59, 32] 0 [] rest
  | [], acc, rest, _ => by
    rw [List.nil_append, List.append_nil]
    show (if pre [59, 32] (59 :: 32 :: rest) = true then acc :: spl [59, 32] 1 [] (32 :: rest) else _) = _
    rw [if_pos (by rfl)]
    rfl
  | c :: p, acc, rest, h => by
    unfold noM at h
    rw [Bool.and_eq_true, Bool.not_eq_true'] at h
    have e := pre_app c p rest
    rw [h.1, List.append_assoc] at e
    show (if pre [59, 32] (c :: (p ++ ([59, 32] ++ rest))) = true then _ else spl [59, 32] 0 (acc ++ [c]) (p ++ ([59, 32] ++ rest))) = _
    rw [show pre [59, 32] (c :: (p ++ ([59, 32] ++ rest))) = false from e, if_neg (by decide), spl_noM p (acc ++ [c]) rest h.2, List.append_assoc]
    rfl
theorem spl_last : ∀ (p acc : List Nat), noM p = true → spl [59, 32] 0 acc p = [acc ++ p]
  | [], acc, _ => by rw [List.append_nil]; rfl
  | c :: p, acc, h => by
    unfold noM at h
    rw [Bool.and_eq_true, Bool.not_eq_true'] at h
    have e : pre [59, 32] (c :: p) = false := by
      cases p with
      | nil => simp [pre]
      | cons d p => exact h.1
    show (if pre [59, 32] (c :: p) = true then _ else spl [59, 32] 0 (acc ++ [c]) p) = _
    rw [e, if_neg (by decide), spl_last p (acc ++ [c]) h.2, List.append_assoc]
    rfl
theorem spl_joinN : ∀ (ps : List (List Nat)), ps ≠ [] → (∀ p ∈ ps, noM p = true) → spl [59, 32] 0 [] (joinL [59, 32] ps) = ps
  | [], h, _ => absurd rfl h
  | [p], _, hp => by
    show spl [59, 32] 0 [] p = [p]
    rw [spl_last p [] (hp p (List.mem_singleton.mpr rfl))]
    rfl
  | p :: q :: r, _, hp => by
    show spl [59, 32] 0 [] (p ++ ([59, 32] ++ joinL [59, 32] (q :: r))) = p :: q :: r
    rw [spl_noM p [] _ (hp p List.mem_cons_self), spl_joinN (q :: r) (by simp) fun x hx => hp x (List.mem_cons_of_mem _ hx)]
    rfl
theorem ofL_tl (z : Str) : ofL (tl z) = z := by
  obtain ⟨a⟩ := z
  show Str.mk (a.toList.toArray) = Str.mk a
  simp
theorem sem_of {z : Str} {ps : List Str} (e : tl z = joinL [59, 32] (ps.map tl)) (hne : ps ≠ []) (hp : ∀ p ∈ ps, noM (tl p) = true) : semS z = ps := by
  unfold semS
  rw [e, spl_joinN _ (fun h => hne (List.map_eq_nil_iff.mp h)) fun p h => by obtain ⟨q, hq, rfl⟩ := List.mem_map.mp h; exact hp q hq, List.map_map]
  refine (List.map_congr_left fun l _ => ?_).trans (List.map_id _)
  exact ofL_tl l
theorem tl_jn (ps : List Str) : tl (Txt.join semi ps) = joinL [59, 32] (ps.map tl) := by
  rw [join_eq, tl_join, tl_semi]
theorem joinL_cons {S p : List Nat} {ps : List (List Nat)} (h : ps ≠ []) : joinL S (p :: ps) = p ++ (S ++ joinL S ps) := by
  cases ps with
  | nil => exact absurd rfl h
  | cons q r => rfl
/-- two rows in one piece -/
theorem joinL_two (S x y : List Nat) (B : List (List Nat)) : ∀ A : List (List Nat), joinL S (A ++ (x ++ (S ++ y)) :: B) = joinL S (A ++ x :: y :: B)
  | [] => by
    rw [List.nil_append, List.nil_append, joinL_cons (p := x) (by simp)]
    cases B with
    | nil => rfl
    | cons b B => rw [joinL_cons (by simp), joinL_cons (p := y) (by simp), List.append_assoc, List.append_assoc]
  | a :: A => by
    rw [List.cons_append, List.cons_append, joinL_cons (by simp), joinL_cons (by simp), joinL_two S x y B A]
theorem scan_app {a : Str} : ∀ {A : List Str} {xs B : List Str}, scanX a A = some xs → scan a (A ++ B) = scan (xs.getLast?.getD a) B
  | [], xs, B, h => by cases h; rfl
  | r :: A, xs, B, h => by
    unfold scanX at h
    split at h
    · rename_i x e
      obtain ⟨ys, hy, rfl⟩ := Option.map_eq_some_iff.mp h
      have := scan_app (a := x) (B := B) hy
      have hs : scan a (r :: (A ++ B)) = scan x (A ++ B) := by
        show (match rowK a r with | some (some x) => scan x (A ++ B) | some none => some false | none => none) = _
        rw [e]
      rw [List.cons_append, hs, this]
      have hx : ys.getLast?.getD x = (x :: ys).getLast?.getD a := by
        cases ys with
        | nil => rfl
        | cons y ys => rw [List.getLast?_cons_cons]; cases h2 : (y :: ys).getLast? with
          | none => simp at h2
          | some q => rfl
      rw [hx]
    · cases h
end My

set_option Elab.async false
set_option linter.all false
set_option maxRecDepth 100000
/-! LyX: typed functions in the stead of mirrors. A def's typed form is a plain function into Option (none: no word); typ.py prints it with its proof. -/
namespace Ly
open PySem L2 PyProof.Rows
/-! partial steps -/
def gd {α : Type} (xs : List α) : Option (List α) := if small xs.length then some xs else none
def apL {α : Type} (xs : List α) (x : α) : Option (List α) := if small xs.length then some (xs ++ [x]) else none
def exL {α : Type} (xs ys : List α) : Option (List α) := if small (xs.length + ys.length) then some (xs ++ ys) else none
def gS (z : Str) : Option Str := if small z.length then some z else none
def adS (a b : Str) : Option Str := if small (a.length + b.length) then some (a ++ b) else none
def ixS (z : Str) (i : Int) : Option Str := if small z.length then (atI z.cps.toList i).map fun c => ⟨#[c]⟩ else none
def muI (a b : Int) : Option Int := if (-(2 ^ 64) < a ∧ a < 2 ^ 64) ∨ (-(2 ^ 64) < b ∧ b < 2 ^ 64) then some (a * b) else none
def moI (a b : Int) : Option Int := if 0 < b then some (a % b) else none
def diI (a b : Int) : Option Int := if 0 < b ∧ b < big60 then some (a / b) else none
def muS (z : Str) (k : Int) : Option Str := match mulD (.str z) (.int k) with
  | .ok (.sh (.str y)) => some y
  | _ => none
def muL {α : Type} (xs : List α) (k : Int) : Option (List α) := if small (xs.length * k.toNat) && decide (-1000000 ≤ k) && decide (k ≤ 1000000) then some (List.replicate k.toNat xs).flatten else none
def asB : Res D → Option Bool
  | .ok (.bl b) => some b
  | _ => none
def asBW : Res W → Option Bool
  | .ok (.sh (.bl b)) => some b
  | _ => none
def asIW : Res W → Option Int
  | .ok (.sh (.int b)) => some b
  | _ => none
def asSW : Res W → Option Str
  | .ok (.sh (.str b)) => some b
  | _ => none
theorem asB_some {r : Res D} {b : Bool} (h : asB r = some b) : r = .ok (.bl b) := by
  unfold asB at h
  split at h <;> cases h
  rfl
theorem asBW_some {r : Res W} {b : Bool} (h : asBW r = some b) : r = .ok (.sh (.bl b)) := by
  unfold asBW at h
  split at h <;> cases h
  rfl
theorem asIW_some {r : Res W} {b : Int} (h : asIW r = some b) : r = .ok (.sh (.int b)) := by
  unfold asIW at h
  split at h <;> cases h
  rfl
theorem asSW_some {r : Res W} {b : Str} (h : asSW r = some b) : r = .ok (.sh (.str b)) := by
  unfold asSW at h
  split at h <;> cases h
  rfl
theorem muS_some {z y : Str} {k : Int} (h : muS z k = some y) : mulD (.str z) (.int k) = .ok (.sh (.str y)) := by
  unfold muS at h
  split at h <;> cases h
  assumption
def enumF {α : Type} : Nat → List α → List (Int × α)
  | _, [] => []
  | i, x :: xs => ((i : Int), x) :: enumF (i + 1) xs
theorem enumF_D {α : Type} (e : α → D) : ∀ (xs : List α) (i : Nat), enumD i (xs.map e) = (enumF i xs).map fun p => D.tup [.int p.1, e p.2]
  | [], _ => rfl
  | x :: xs, i => by
    show D.tup [.int (i : Int), e x] :: enumD (i + 1) (xs.map e) = _
    rw [enumF_D e xs (i + 1)]
    rfl
def rngF (lo : Int) (n : Nat) : List Int := (List.range n).map fun (i : Nat) => lo + (i : Int)
theorem rngF_D (lo : Int) (n : Nat) : rangeD lo n = (rngF lo n).map D.int := by
  unfold rangeD rngF
  rw [List.map_map]
  rfl
def rg1 (n : Int) : Option (List Int) := if big62 n then some (rngF 0 n.toNat) else none
def rg2 (lo n : Int) : Option (List Int) := if big62 lo && big62 n then some (rngF lo (n - lo).toNat) else none
theorem rg1_some {n : Int} {l : List Int} (h : rg1 n = some l) : rng1D [.int n] = .ok (l.map D.int) := by
  unfold rg1 at h
  split at h <;> cases h
  rename_i hb
  show (if big62 n then Res.ok (rangeD 0 n.toNat) else .st) = _
  rw [if_pos hb, rngF_D]
theorem rg2_some {lo n : Int} {l : List Int} (h : rg2 lo n = some l) : rng2D [.int lo, .int n] = .ok (l.map D.int) := by
  unfold rg2 at h
  split at h <;> cases h
  rename_i hb
  show (if big62 lo && big62 n then Res.ok (rangeD lo (n - lo).toNat) else .st) = _
  rw [if_pos hb, rngF_D]
def mapO {α β : Type} (f : α → Option β) : List α → Option (List β)
  | [] => some []
  | x :: xs => (f x).bind fun y => (mapO f xs).map fun ys => y :: ys
def filO {α β : Type} (f : α → Option (Option β)) : List α → Option (List β)
  | [] => some []
  | x :: xs => (f x).bind fun o => (filO f xs).map fun ys => match o with
    | some y => y :: ys
    | none => ys
inductive Bo (σ ρ : Type) where
  | nx (s : σ) | bk (s : σ) | rt (r : ρ)
def boK {σ ρ β : Type} (o : Bo σ ρ) (kr : ρ → Option β) (kn : σ → Option β) : Option β := match o with
  | .rt r => kr r
  | .nx s => kn s
  | .bk s => kn s
def forF {α σ : Type} (f : α → σ → Option σ) : List α → σ → Option σ
  | [], s => some s
  | x :: xs, s => (f x s).bind fun s => forF f xs s
def forB {α σ ρ : Type} (f : α → σ → Option (Bo σ ρ)) : List α → σ → Option (Bo σ ρ)
  | [], s => some (.nx s)
  | x :: xs, s => (f x s).bind fun o => match o with
    | .nx s => forB f xs s
    | .bk s => some (.nx s)
    | .rt r => some (.rt r)
/-! dicts as lists of pairs -/
def dgt {κ α : Type} [DecidableEq κ] (ps : List (κ × α)) (k : κ) : Option α := (ps.find? fun p => decide (p.1 = k)).map (·.2)
def dpt {κ α : Type} [DecidableEq κ] : List (κ × α) → κ → α → List (κ × α)
  | [], k, x => [(k, x)]
  | p :: ps, k, x => if p.1 = k then (k, x) :: ps else p :: dpt ps k x
/-! goes: what a mirror comes to -/
def Goes (Q : Fl → Prop) (r : Res Fl) : Prop := ∃ f, r = .ok f ∧ Q f
def SQ (b : En → Res Fl) (Q : Fl → Prop) : Fl → Prop
  | .nx e => Goes Q (b e)
  | f => Q f
theorem goes_ok {Q : Fl → Prop} {r : Res Fl} {f : Fl} (h : r = .ok f) (q : Q f) : Goes Q r := ⟨f, h, q⟩
theorem goes_imp {Q Q' : Fl → Prop} {r : Res Fl} (g : Goes Q r) (h : ∀ f, Q f → Q' f) : Goes Q' r := by
  obtain ⟨f, e, q⟩ := g
  exact ⟨f, e, h f q⟩
theorem goes_seq {Q : Fl → Prop} {a b : En → Res Fl} {e : En} (h : Goes (SQ b Q) (a e)) : Goes Q (mSeq a b e) := by
  obtain ⟨f, e1, q⟩ := h
  unfold mSeq
  rw [e1]
  cases f with
  | nx e => exact q
  | rt w => exact ⟨_, rfl, q⟩
  | bk e => exact ⟨_, rfl, q⟩
  | ct e => exact ⟨_, rfl, q⟩
theorem goes_nx {Q : Fl → Prop} {a b : En → Res Fl} {e e' : En} (h : a e = .ok (.nx e')) (g : Goes Q (b e')) : Goes Q (mSeq a b e) := by
  unfold mSeq
  rw [h]
  exact g
theorem goes_if {Q : Fl → Prop} {F : List Nat} {mc : En → Res Bool} {ma mb : En → Res Fl} {env e : En} {c : Bool} (hf : fz F env = e) (hc : mc e = .ok c) (h1 : c = true → Goes Q (ma e)) (h2 : c = false → Goes Q (mb e)) : Goes Q (mIfS F mc ma mb env) := by
  unfold mIfS
  rw [hf, hc]
  cases c with
  | true => exact h1 rfl
  | false => exact h2 rfl
def LF {σ : Type} (R : σ → En → Prop) (s : σ) : Fl → Prop
  | .nx e => R s e
  | .ct e => R s e
  | _ => False
theorem run_forF {α σ : Type} {f : α → σ → Option σ} {ea : α → D} {mg : D → En → Res En} {mb : En → Res Fl} (R : σ → En → Prop)
    (step : ∀ x s s' env, R s env → f x s = some s' → ∃ e, mg (ea x) env = .ok e ∧ Goes (LF R s') (mb e)) :
    ∀ (xs : List α) (s s' : σ) (env : En), R s env → forF f xs s = some s' → ∃ env', runL mg mb (xs.map ea) env = .ok (.nx env') ∧ R s' env'
  | [], s, s', env, h, e => by cases e; exact ⟨env, rfl, h⟩
  | x :: xs, s, s', env, h, e => by
    obtain ⟨t, e1, e2⟩ := Option.bind_eq_some_iff.mp e
    obtain ⟨e', h1, fl, h2, h3⟩ := step x s t env h e1
    rw [List.map_cons, a_runLc, h1, Res.bind_ok, h2, Res.bind_ok]
    cases fl with
    | nx e'' => exact run_forF R step xs t s' e'' h3 e2
    | ct e'' => exact run_forF R step xs t s' e'' h3 e2
    | bk e'' => cases h3
    | rt w => cases h3
theorem goes_forF {α σ : Type} {f : α → σ → Option σ} {ea : α → D} {mg : D → En → Res En} {mb : En → Res Fl} {Mu ts F : List Nat} {mi : En → Res (List D)} {env e1 : En} {Q : Fl → Prop} {xs : List α} {s s' : σ} (R : σ → En → Prop)
    (hfree : ts.all (free0 Mu) = true) (hf : fz F env = e1) (hm : mi e1 = .ok (xs.map ea)) (h0 : R s e1)
    (step : ∀ x s s' env, R s env → f x s = some s' → ∃ e, mg (ea x) env = .ok e ∧ Goes (LF R s') (mb e))
    (h : forF f xs s = some s') (k : ∀ env', R s' env' → Q (.nx env')) : Goes Q (mFor Mu ts F mi mg mb env) := by
  obtain ⟨env', h1, h2⟩ := run_forF R step xs s s' e1 h0 h
  refine ⟨.nx env', ?_, k env' h2⟩
  unfold mFor
  rw [if_pos hfree, hf, hm, Res.bind_ok, h1]
def LB {σ ρ : Type} (R : σ → En → Prop) (wr : ρ → W) : Bo σ ρ → Fl → Prop
  | .nx s, .nx e => R s e
  | .nx s, .ct e => R s e
  | .bk s, .bk e => R s e
  | .rt r, .rt w => w = wr r
  | _, _ => False
theorem run_forB {α σ ρ : Type} {f : α → σ → Option (Bo σ ρ)} {ea : α → D} {mg : D → En → Res En} {mb : En → Res Fl} (R : σ → En → Prop) (wr : ρ → W)
    (step : ∀ x s o env, R s env → f x s = some o → ∃ e, mg (ea x) env = .ok e ∧ Goes (LB R wr o) (mb e)) :
    ∀ (xs : List α) (s : σ) (o : Bo σ ρ) (env : En), R s env → forB f xs s = some o → (∃ s' env', runL mg mb (xs.map ea) env = .ok (.nx env') ∧ o = .nx s' ∧ R s' env') ∨ ∃ r, runL mg mb (xs.map ea) env = .ok (.rt (wr r)) ∧ o = .rt r
  | [], s, o, env, h, e => by cases e; exact .inl ⟨s, env, rfl, rfl, h⟩
  | x :: xs, s, o, env, h, e => by
    obtain ⟨t, e1, e2⟩ := Option.bind_eq_some_iff.mp e
    obtain ⟨e', h1, fl, h2, h3⟩ := step x s t env h e1
    rw [List.map_cons, a_runLc, h1, Res.bind_ok, h2, Res.bind_ok]
    cases t with
    | nx t =>
      cases fl with
      | nx e'' => exact run_forB R wr step xs t o e'' h3 e2
      | ct e'' => exact run_forB R wr step xs t o e'' h3 e2
      | bk e'' => cases h3
      | rt w => cases h3
    | bk t =>
      cases e2
      cases fl with
      | bk e'' => exact .inl ⟨t, e'', rfl, rfl, h3⟩
      | nx e'' => cases h3
      | ct e'' => cases h3
      | rt w => cases h3
    | rt r =>
      cases e2
      cases fl with
      | rt w => exact .inr ⟨r, by rw [show w = wr r from h3], rfl⟩
      | nx e'' => cases h3
      | ct e'' => cases h3
      | bk e'' => cases h3
theorem goes_forB {α σ ρ : Type} {f : α → σ → Option (Bo σ ρ)} {ea : α → D} {mg : D → En → Res En} {mb : En → Res Fl} {Mu ts F : List Nat} {mi : En → Res (List D)} {env e1 : En} {Q : Fl → Prop} {xs : List α} {s : σ} {o : Bo σ ρ} (R : σ → En → Prop) (wr : ρ → W)
    (hfree : ts.all (free0 Mu) = true) (hf : fz F env = e1) (hm : mi e1 = .ok (xs.map ea)) (h0 : R s e1)
    (step : ∀ x s o env, R s env → f x s = some o → ∃ e, mg (ea x) env = .ok e ∧ Goes (LB R wr o) (mb e))
    (h : forB f xs s = some o) (k : ∀ s' env', o = .nx s' → R s' env' → Q (.nx env')) (kr : ∀ r, o = .rt r → Q (.rt (wr r))) : Goes Q (mFor Mu ts F mi mg mb env) := by
  rcases run_forB R wr step xs s o e1 h0 h with ⟨s', env', h1, h2, h3⟩ | ⟨r, h1, h2⟩
  · refine ⟨.nx env', ?_, k s' env' h2 h3⟩
    unfold mFor
    rw [if_pos hfree, hf, hm, Res.bind_ok, h1]
  · refine ⟨.rt (wr r), ?_, kr r h2⟩
    unfold mFor
    rw [if_pos hfree, hf, hm, Res.bind_ok, h1]
theorem goes_runD {n : Nat} {m : En → Res Fl} {ds : List D} {w : W} (h : Goes (fun f => f = .rt w) (m (slots n ds))) : runD n m ds = .ok w := by
  obtain ⟨f, e, rfl⟩ := h
  unfold runD
  rw [e]
  rfl
theorem goes_runDN {n : Nat} {m : En → Res Fl} {ds : List D} (h : Goes (fun f => ∃ e, f = .nx e) (m (slots n ds))) : runD n m ds = .ok (.sh .non) := by
  obtain ⟨f, e, e', rfl⟩ := h
  unfold runD
  rw [e]
  rfl
/-! comprehensions -/
theorem runC_mapO {mg : D → En → Res En} {mt : En → Res Bool} {me : En → Res D} {env : En} {α β : Type} {g : α → D} {f : α → Option β} {e : β → D} : ∀ (xs : List α) (ys : List β), mapO f xs = some ys → (∀ x ∈ xs, ∀ y, f x = some y → ∃ e', mg (g x) env = .ok e' ∧ mt e' = .ok true ∧ me e' = .ok (e y)) →
    runC mg mt me (xs.map g) env = .ok (ys.map e)
  | [], ys, h, _ => by cases h; rfl
  | x :: xs, ys, h, k => by
    obtain ⟨y, h1, h⟩ := Option.bind_eq_some_iff.mp h
    obtain ⟨ys, h2, rfl⟩ := Option.map_eq_some_iff.mp h
    obtain ⟨e', k1, k2, k3⟩ := k x List.mem_cons_self y h1
    rw [List.map_cons, a_runCc, k1, Res.bind_ok, k2, Res.bind_ok, if_pos rfl, k3, Res.bind_ok, runC_mapO xs ys h2 fun z hz => k z (List.mem_cons_of_mem _ hz)]
    rfl
theorem runC_filO {mg : D → En → Res En} {mt : En → Res Bool} {me : En → Res D} {env : En} {α β : Type} {g : α → D} {f : α → Option (Option β)} {e : β → D} : ∀ (xs : List α) (ys : List β), filO f xs = some ys → (∀ x ∈ xs, ∀ o, f x = some o → ∃ e', mg (g x) env = .ok e' ∧ mt e' = .ok o.isSome ∧ ∀ y, o = some y → me e' = .ok (e y)) →
    runC mg mt me (xs.map g) env = .ok (ys.map e)
  | [], ys, h, _ => by cases h; rfl
  | x :: xs, ys, h, k => by
    obtain ⟨o, h1, h⟩ := Option.bind_eq_some_iff.mp h
    obtain ⟨ys, h2, rfl⟩ := Option.map_eq_some_iff.mp h
    obtain ⟨e', k1, k2, k3⟩ := k x List.mem_cons_self o h1
    rw [List.map_cons, a_runCc, k1, Res.bind_ok, k2, Res.bind_ok, runC_filO xs ys h2 fun z hz => k z (List.mem_cons_of_mem _ hz)]
    cases o with
    | some y => rw [Option.isSome_some, if_pos rfl, k3 y rfl]; rfl
    | none => rw [Option.isSome_none, if_neg Bool.false_ne_true]
theorem pif {α : Type} {c : Bool} {X Y : Option α} {t : α} (h : (if c = true then X else Y) = some t) : (c = true ∧ X = some t) ∨ (c = false ∧ Y = some t) := by
  cases c with
  | true => exact .inl ⟨rfl, h⟩
  | false => exact .inr ⟨rfl, h⟩
theorem gd_some {α : Type} {xs ys : List α} (h : gd xs = some ys) : small xs.length = true ∧ xs = ys := by
  unfold gd at h
  split at h
  · rename_i hs
    cases h
    exact ⟨hs, rfl⟩
  · cases h
theorem apL_some {α : Type} {xs ys : List α} {x : α} (h : apL xs x = some ys) : small xs.length = true ∧ xs ++ [x] = ys := by
  unfold apL at h
  split at h
  · rename_i hs
    cases h
    exact ⟨hs, rfl⟩
  · cases h
theorem exL_some {α : Type} {xs ys zs : List α} (h : exL xs ys = some zs) : small (xs.length + ys.length) = true ∧ xs ++ ys = zs := by
  unfold exL at h
  split at h
  · rename_i hs
    cases h
    exact ⟨hs, rfl⟩
  · cases h
theorem gS_some {z y : Str} (h : gS z = some y) : small z.length = true ∧ z = y := by
  unfold gS at h
  split at h
  · rename_i hs
    cases h
    exact ⟨hs, rfl⟩
  · cases h
theorem adS_some {a b y : Str} (h : adS a b = some y) : small (a.length + b.length) = true ∧ a ++ b = y := by
  unfold adS at h
  split at h
  · rename_i hs
    cases h
    exact ⟨hs, rfl⟩
  · cases h
theorem ixS_some {z y : Str} {i : Int} (h : ixS z i = some y) : ixD (.str z) (.int i) = .ok (.sh (.str y)) := by
  unfold ixS at h
  split at h
  · rename_i hs
    obtain ⟨c, h1, rfl⟩ := Option.map_eq_some_iff.mp h
    show (if small z.length then match atI z.cps.toList i with
      | some c => Res.ok (W.sh (D.str ⟨#[c]⟩))
      | none => .st
    else .st) = _
    rw [if_pos hs, h1]
  · cases h
theorem muI_some {a b y : Int} (h : muI a b = some y) : mulD (.int a) (.int b) = .ok (.sh (.int y)) := by
  unfold muI at h
  split at h
  · rename_i hs
    cases h
    show (if (-(2 ^ 64) < a ∧ a < 2 ^ 64) ∨ (-(2 ^ 64) < b ∧ b < 2 ^ 64) then Res.ok (W.sh (D.int (a * b))) else .st) = _
    rw [if_pos hs]
  · cases h
theorem moI_some {a b y : Int} (h : moI a b = some y) : modD (.int a) (.int b) = .ok (.int y) := by
  unfold moI at h
  split at h
  · rename_i hs
    cases h
    show (if 0 < b then Res.ok (D.int (a % b)) else .st) = _
    rw [if_pos hs]
  · cases h
theorem diI_some {a b y : Int} (h : diI a b = some y) : fdivD (.int a) (.int b) = .ok (.int y) := by
  unfold diI at h
  split at h
  · rename_i hs
    cases h
    show (if 0 < b ∧ b < big60 then Res.ok (D.int (a / b)) else .st) = _
    rw [if_pos hs]
  · cases h
theorem muL_some {α : Type} {e : α → D} {xs ys : List α} {k : Int} (h : muL xs k = some ys) : mulD (.lst (xs.map e)) (.int k) = .ok (.lst (ys.map e)) := by
  unfold muL at h
  split at h
  · rename_i hs
    cases h
    rw [v_mull, List.length_map, if_pos hs, List.map_flatten, List.map_replicate]
  · cases h
/-- an item of a list of data -/
theorem ixL_some {α : Type} {e : α → D} {xs : List α} {i : Int} {y : α} (h : atI xs i = some y) : ixD (.lst (xs.map e)) (.int i) = .ok (.sh (e y)) := by
  rw [v_ixl, atI_map, h]
  rfl
theorem ixR_some {xs : List Int} {i y : Int} (h : atI xs i = some y) : ixD (.scr xs) (.int i) = .ok (.sh (.int y)) := by
  rw [v_ixr, h]
section
variable {f g : D → D → Res D} {e : En}
def chainK : D → Res W → Res W
  | .bl b, k => if b = true then k else .ok (.sh (.bl false))
  | _, _ => .st
@[simp] theorem chainK_bl (b : Bool) (k : Res W) : chainK (.bl b) k = if b = true then k else .ok (.sh (.bl false)) := rfl
theorem x_chain (ma mb mc : En → Res D) : mChain f g ma mb mc e = (ma e).bind fun a => (mb e).bind fun b => (f a b).bind fun t => chainK t ((mc e).bind fun c => (g b c).map .sh) := by
  unfold mChain
  congr 1
  funext a
  congr 1
  funext b
  congr 1
  funext t
  cases t with
  | bl b => cases b <;> rfl
  | _ => rfl
@[simp] theorem a_mMeth (cn m : Str) (n : Nat) (g : List D → Res W) (ms : En → Res D) (ma mx : En → Res (List D)) : mMeth cn m n g ms ma mx e = (ms e).bind fun d => if isObj cn m d then match ma e with
  | .ok ds => asked n g (d :: ds)
  | .ex x => .ex x
  | .st => (mx e).bind fun ds => onlyFlat (asked n g (d :: ds))
  else .st := rfl
@[simp] theorem a_mMake (n : Nat) (g : List D → Res W) (ma : En → Res (List D)) : mMake n g ma e = (ma e).bind (asked n g) := rfl
end
theorem r_or (p : Prop) [Decidable p] (c : Bool) : (if p then Res.ok true else Res.ok c) = Res.ok (decide p || c) := by
  by_cases h : p <;> simp [h]
theorem r_and (p : Prop) [Decidable p] (c : Bool) : (if p then Res.ok c else Res.ok false) = Res.ok (decide p && c) := by
  by_cases h : p <;> simp [h]
theorem r_orW (p : Prop) [Decidable p] (c : Bool) : (if p then Res.ok (W.sh (D.bl true)) else Res.ok (W.sh (D.bl c))) = Res.ok (W.sh (D.bl (decide p || c))) := by
  by_cases h : p <;> simp [h]
theorem r_andW (p : Prop) [Decidable p] (c : Bool) : (if p then Res.ok (W.sh (D.bl c)) else Res.ok (W.sh (D.bl false))) = Res.ok (W.sh (D.bl (decide p && c))) := by
  by_cases h : p <;> simp [h]
end Ly

set_option Elab.async false
set_option linter.all false
set_option maxRecDepth 100000
/-! LyY: what the D-operators come to on typed data, with their conditions as hypotheses (for simp). -/
namespace Ly
open PySem L2 PyProof.Rows
theorem SQ_nx {b : En → Res Fl} {Q : Fl → Prop} {e : En} (h : Goes Q (b e)) : SQ b Q (.nx e) := h
theorem SQ_rt {b : En → Res Fl} {Q : Fl → Prop} {w : W} (h : Q (.rt w)) : SQ b Q (.rt w) := h
theorem SQ_bk {b : En → Res Fl} {Q : Fl → Prop} {e : En} (h : Q (.bk e)) : SQ b Q (.bk e) := h
theorem SQ_ct {b : En → Res Fl} {Q : Fl → Prop} {e : En} (h : Q (.ct e)) : SQ b Q (.ct e) := h
theorem pifT {α : Type} {c : Bool} {X Y : Option α} {t : α} (h : (if c = true then X else Y) = some t) (hc : c = true) : X = some t := by
  rw [if_pos hc] at h
  exact h
theorem pifF {α : Type} {c : Bool} {X Y : Option α} {t : α} (h : (if c = true then X else Y) = some t) (hc : c = false) : Y = some t := by
  subst hc
  exact h
theorem boK_nx {σ ρ β : Type} {s : σ} {kr : ρ → Option β} {kn : σ → Option β} {r : β} (h : boK (.nx s) kr kn = some r) : kn s = some r := h
theorem boK_rt {σ ρ β : Type} {s : ρ} {kr : ρ → Option β} {kn : σ → Option β} {r : β} (h : boK (.rt s : Bo σ ρ) kr kn = some r) : kr s = some r := h
def eO {α : Type} (e : α → D) : Option α → D
  | none => .non
  | some x => e x
@[simp] theorem eO_none {α : Type} (e : α → D) : eO e none = .non := rfl
@[simp] theorem eO_some {α : Type} (e : α → D) (x : α) : eO e (some x) = e x := rfl
def kS {α : Type} (p : Str × α) : Key := Sum.inr p.1
def kI {α : Type} (p : Int × α) : Key := Sum.inl p.1
theorem x_isO {α : Type} {e : α → D} {x : Option α} (he : ∀ a, isNonD (e a) = false) : isD (eO e x) .non = .ok (.bl x.isNone) := by
  cases x with
  | none => rfl
  | some a =>
    show (match D.non with | .non => Res.ok (D.bl (isNonD (e a))) | _ => .st) = _
    rw [he a]
    rfl
theorem x_isntO {α : Type} {e : α → D} {x : Option α} (he : ∀ a, isNonD (e a) = false) : isntD (eO e x) .non = .ok (.bl x.isSome) := by
  cases x with
  | none => rfl
  | some a =>
    show (match D.non with | .non => Res.ok (D.bl (!isNonD (e a))) | _ => .st) = _
    rw [he a]
    rfl
@[simp] theorem x_mod {a b : Int} (h : 0 < b) : modD (.int a) (.int b) = .ok (.int (a % b)) := by rw [v_mod, if_pos h]
@[simp] theorem x_fdiv {a b : Int} (h : 0 < b) (h2 : b < 10 ^ 60) : fdivD (.int a) (.int b) = .ok (.int (a / b)) := by rw [v_fdiv, if_pos ⟨h, h2⟩]
@[simp] theorem x_mull {a b : Int} (h : -(2 ^ 64) < a) (h2 : a < 2 ^ 64) : mulD (.int a) (.int b) = .ok (.sh (.int (a * b))) := by rw [v_muli, if_pos (.inl ⟨h, h2⟩)]
@[simp] theorem x_mulr {a b : Int} (h : -(2 ^ 64) < b) (h2 : b < 2 ^ 64) : mulD (.int a) (.int b) = .ok (.sh (.int (a * b))) := by rw [v_muli, if_pos (.inr ⟨h, h2⟩)]
@[simp] theorem x_adds {a b : Str} (h : small (a.length + b.length) = true) : addD (.str a) (.str b) = .ok (.sh (.str (a ++ b))) := by rw [v_adds, if_pos h]
@[simp] theorem x_addl {a b : List D} (h : small (a.length + b.length) = true) : addD (.lst a) (.lst b) = .ok (.lst (a ++ b)) := by rw [v_addl, if_pos h]
@[simp] theorem x_lens {z : Str} (h : small z.length = true) : lenD [.str z] = .ok (.sh (.int z.length)) := by rw [v_lens, if_pos h]
@[simp] theorem x_sls {z : Str} {lo hi : Option Int} (h : small z.length = true) : slD (.str z) lo hi = .ok (.sh (.str (cutS z lo hi))) := by rw [v_sls, if_pos h]
theorem x_trub (b : Bool) : truD (.bl b) = .ok b := rfl
@[simp] theorem x_trul (xs : List D) : truD (.lst xs) = .ok (!xs.isEmpty) := rfl
@[simp] theorem x_trui (i : Int) : truD (.int i) = .ok (i != 0) := rfl
@[simp] theorem x_allD {bs : List Bool} : allD [.lst (bs.map D.bl)] = .ok (.sh (.bl (bs.all id))) := by
  have h : ∀ bs : List Bool, blsD (bs.map D.bl) = some bs := fun bs => by
    induction bs with
    | nil => rfl
    | cons b r ih =>
      show (blsD (r.map D.bl)).map _ = _
      rw [ih]
      rfl
  show (match blsD (bs.map D.bl) with
    | some bs => Res.ok (W.sh (D.bl (bs.all id)))
    | none => Res.st) = _
  rw [h]
@[simp] theorem x_anyD {bs : List Bool} : anyD [.lst (bs.map D.bl)] = .ok (.sh (.bl (bs.any id))) := by
  have h : ∀ bs : List Bool, blsD (bs.map D.bl) = some bs := fun bs => by
    induction bs with
    | nil => rfl
    | cons b r ih =>
      show (blsD (r.map D.bl)).map _ = _
      rw [ih]
      rfl
  show (match blsD (bs.map D.bl) with
    | some bs => Res.ok (W.sh (D.bl (bs.any id)))
    | none => Res.st) = _
  rw [h]
theorem x_inK {ks : List Key} {xs : List D} {z : Str} : inB (.str z) (.dic ks xs) = .ok (.bl (dlook ks xs (Sum.inr z)).isSome) := rfl
theorem x_notInK {ks : List Key} {xs : List D} {z : Str} : notInB (.str z) (.dic ks xs) = .ok (.bl (!(dlook ks xs (Sum.inr z)).isSome)) := rfl

@[simp] theorem x_isi_int_int {i : Int} : isiD [(D.int i), .ty "int"] = .ok (.sh (.bl true)) := by
  rw [v_isi]
  rfl
@[simp] theorem x_isi_int_bool {i : Int} : isiD [(D.int i), .ty "bool"] = .ok (.sh (.bl false)) := by
  rw [v_isi]
  rfl
@[simp] theorem x_isi_int_str {i : Int} : isiD [(D.int i), .ty "str"] = .ok (.sh (.bl false)) := by
  rw [v_isi]
  rfl
@[simp] theorem x_isi_int_list {i : Int} : isiD [(D.int i), .ty "list"] = .ok (.sh (.bl false)) := by
  rw [v_isi]
  rfl
@[simp] theorem x_isi_int_tuple {i : Int} : isiD [(D.int i), .ty "tuple"] = .ok (.sh (.bl false)) := by
  rw [v_isi]
  rfl
@[simp] theorem x_isi_bool_int {i : Bool} : isiD [(D.bl i), .ty "int"] = .ok (.sh (.bl true)) := by
  rw [v_isi]
  rfl
@[simp] theorem x_isi_bool_bool {i : Bool} : isiD [(D.bl i), .ty "bool"] = .ok (.sh (.bl true)) := by
  rw [v_isi]
  rfl
@[simp] theorem x_isi_bool_str {i : Bool} : isiD [(D.bl i), .ty "str"] = .ok (.sh (.bl false)) := by
  rw [v_isi]
  rfl
@[simp] theorem x_isi_bool_list {i : Bool} : isiD [(D.bl i), .ty "list"] = .ok (.sh (.bl false)) := by
  rw [v_isi]
  rfl
@[simp] theorem x_isi_bool_tuple {i : Bool} : isiD [(D.bl i), .ty "tuple"] = .ok (.sh (.bl false)) := by
  rw [v_isi]
  rfl
@[simp] theorem x_isi_str_int {i : Str} : isiD [(D.str i), .ty "int"] = .ok (.sh (.bl false)) := by
  rw [v_isi]
  rfl
@[simp] theorem x_isi_str_bool {i : Str} : isiD [(D.str i), .ty "bool"] = .ok (.sh (.bl false)) := by
  rw [v_isi]
  rfl
@[simp] theorem x_isi_str_str {i : Str} : isiD [(D.str i), .ty "str"] = .ok (.sh (.bl true)) := by
  rw [v_isi]
  rfl
@[simp] theorem x_isi_str_list {i : Str} : isiD [(D.str i), .ty "list"] = .ok (.sh (.bl false)) := by
  rw [v_isi]
  rfl
@[simp] theorem x_isi_str_tuple {i : Str} : isiD [(D.str i), .ty "tuple"] = .ok (.sh (.bl false)) := by
  rw [v_isi]
  rfl
@[simp] theorem x_isi_list_int {i : List D} : isiD [(D.lst i), .ty "int"] = .ok (.sh (.bl false)) := by
  rw [v_isi]
  rfl
@[simp] theorem x_isi_list_bool {i : List D} : isiD [(D.lst i), .ty "bool"] = .ok (.sh (.bl false)) := by
  rw [v_isi]
  rfl
@[simp] theorem x_isi_list_str {i : List D} : isiD [(D.lst i), .ty "str"] = .ok (.sh (.bl false)) := by
  rw [v_isi]
  rfl
@[simp] theorem x_isi_list_list {i : List D} : isiD [(D.lst i), .ty "list"] = .ok (.sh (.bl true)) := by
  rw [v_isi]
  rfl
@[simp] theorem x_isi_list_tuple {i : List D} : isiD [(D.lst i), .ty "tuple"] = .ok (.sh (.bl false)) := by
  rw [v_isi]
  rfl
@[simp] theorem x_isi_tuple_int {i : List D} : isiD [(D.tup i), .ty "int"] = .ok (.sh (.bl false)) := by
  rw [v_isi]
  rfl
@[simp] theorem x_isi_tuple_bool {i : List D} : isiD [(D.tup i), .ty "bool"] = .ok (.sh (.bl false)) := by
  rw [v_isi]
  rfl
@[simp] theorem x_isi_tuple_str {i : List D} : isiD [(D.tup i), .ty "str"] = .ok (.sh (.bl false)) := by
  rw [v_isi]
  rfl
@[simp] theorem x_isi_tuple_list {i : List D} : isiD [(D.tup i), .ty "list"] = .ok (.sh (.bl false)) := by
  rw [v_isi]
  rfl
@[simp] theorem x_isi_tuple_tuple {i : List D} : isiD [(D.tup i), .ty "tuple"] = .ok (.sh (.bl true)) := by
  rw [v_isi]
  rfl
@[simp] theorem x_ixt0 {x0 : D} {r : List D} : ixD (.tup (x0 :: r)) (.int 0) = .ok (.sh x0) := by
  rw [v_ixt, show atI (x0 :: r) 0 = some x0 from by unfold atI ixN; rw [if_pos (by decide), if_pos (by simp only [List.length_cons]; omega)]; rfl]
@[simp] theorem x_ixh0 {x0 : D} {r : List D} : ixD (.lst (x0 :: r)) (.int 0) = .ok (.sh x0) := by
  rw [v_ixl, show atI (x0 :: r) 0 = some x0 from by unfold atI ixN; rw [if_pos (by decide), if_pos (by simp only [List.length_cons]; omega)]; rfl]
@[simp] theorem x_ixt1 {x0 x1 : D} {r : List D} : ixD (.tup (x0 :: x1 :: r)) (.int 1) = .ok (.sh x1) := by
  rw [v_ixt, show atI (x0 :: x1 :: r) 1 = some x1 from by unfold atI ixN; rw [if_pos (by decide), if_pos (by simp only [List.length_cons]; omega)]; rfl]
@[simp] theorem x_ixh1 {x0 x1 : D} {r : List D} : ixD (.lst (x0 :: x1 :: r)) (.int 1) = .ok (.sh x1) := by
  rw [v_ixl, show atI (x0 :: x1 :: r) 1 = some x1 from by unfold atI ixN; rw [if_pos (by decide), if_pos (by simp only [List.length_cons]; omega)]; rfl]
@[simp] theorem x_ixt2 {x0 x1 x2 : D} {r : List D} : ixD (.tup (x0 :: x1 :: x2 :: r)) (.int 2) = .ok (.sh x2) := by
  rw [v_ixt, show atI (x0 :: x1 :: x2 :: r) 2 = some x2 from by unfold atI ixN; rw [if_pos (by decide), if_pos (by simp only [List.length_cons]; omega)]; rfl]
@[simp] theorem x_ixh2 {x0 x1 x2 : D} {r : List D} : ixD (.lst (x0 :: x1 :: x2 :: r)) (.int 2) = .ok (.sh x2) := by
  rw [v_ixl, show atI (x0 :: x1 :: x2 :: r) 2 = some x2 from by unfold atI ixN; rw [if_pos (by decide), if_pos (by simp only [List.length_cons]; omega)]; rfl]
@[simp] theorem x_ixt3 {x0 x1 x2 x3 : D} {r : List D} : ixD (.tup (x0 :: x1 :: x2 :: x3 :: r)) (.int 3) = .ok (.sh x3) := by
  rw [v_ixt, show atI (x0 :: x1 :: x2 :: x3 :: r) 3 = some x3 from by unfold atI ixN; rw [if_pos (by decide), if_pos (by simp only [List.length_cons]; omega)]; rfl]
@[simp] theorem x_ixh3 {x0 x1 x2 x3 : D} {r : List D} : ixD (.lst (x0 :: x1 :: x2 :: x3 :: r)) (.int 3) = .ok (.sh x3) := by
  rw [v_ixl, show atI (x0 :: x1 :: x2 :: x3 :: r) 3 = some x3 from by unfold atI ixN; rw [if_pos (by decide), if_pos (by simp only [List.length_cons]; omega)]; rfl]
@[simp] theorem x_ixt4 {x0 x1 x2 x3 x4 : D} {r : List D} : ixD (.tup (x0 :: x1 :: x2 :: x3 :: x4 :: r)) (.int 4) = .ok (.sh x4) := by
  rw [v_ixt, show atI (x0 :: x1 :: x2 :: x3 :: x4 :: r) 4 = some x4 from by unfold atI ixN; rw [if_pos (by decide), if_pos (by simp only [List.length_cons]; omega)]; rfl]
@[simp] theorem x_ixh4 {x0 x1 x2 x3 x4 : D} {r : List D} : ixD (.lst (x0 :: x1 :: x2 :: x3 :: x4 :: r)) (.int 4) = .ok (.sh x4) := by
  rw [v_ixl, show atI (x0 :: x1 :: x2 :: x3 :: x4 :: r) 4 = some x4 from by unfold atI ixN; rw [if_pos (by decide), if_pos (by simp only [List.length_cons]; omega)]; rfl]
@[simp] theorem x_ixt5 {x0 x1 x2 x3 x4 x5 : D} {r : List D} : ixD (.tup (x0 :: x1 :: x2 :: x3 :: x4 :: x5 :: r)) (.int 5) = .ok (.sh x5) := by
  rw [v_ixt, show atI (x0 :: x1 :: x2 :: x3 :: x4 :: x5 :: r) 5 = some x5 from by unfold atI ixN; rw [if_pos (by decide), if_pos (by simp only [List.length_cons]; omega)]; rfl]
@[simp] theorem x_ixh5 {x0 x1 x2 x3 x4 x5 : D} {r : List D} : ixD (.lst (x0 :: x1 :: x2 :: x3 :: x4 :: x5 :: r)) (.int 5) = .ok (.sh x5) := by
  rw [v_ixl, show atI (x0 :: x1 :: x2 :: x3 :: x4 :: x5 :: r) 5 = some x5 from by unfold atI ixN; rw [if_pos (by decide), if_pos (by simp only [List.length_cons]; omega)]; rfl]
@[simp] theorem x_ixt6 {x0 x1 x2 x3 x4 x5 x6 : D} {r : List D} : ixD (.tup (x0 :: x1 :: x2 :: x3 :: x4 :: x5 :: x6 :: r)) (.int 6) = .ok (.sh x6) := by
  rw [v_ixt, show atI (x0 :: x1 :: x2 :: x3 :: x4 :: x5 :: x6 :: r) 6 = some x6 from by unfold atI ixN; rw [if_pos (by decide), if_pos (by simp only [List.length_cons]; omega)]; rfl]
@[simp] theorem x_ixh6 {x0 x1 x2 x3 x4 x5 x6 : D} {r : List D} : ixD (.lst (x0 :: x1 :: x2 :: x3 :: x4 :: x5 :: x6 :: r)) (.int 6) = .ok (.sh x6) := by
  rw [v_ixl, show atI (x0 :: x1 :: x2 :: x3 :: x4 :: x5 :: x6 :: r) 6 = some x6 from by unfold atI ixN; rw [if_pos (by decide), if_pos (by simp only [List.length_cons]; omega)]; rfl]
@[simp] theorem x_ixt7 {x0 x1 x2 x3 x4 x5 x6 x7 : D} {r : List D} : ixD (.tup (x0 :: x1 :: x2 :: x3 :: x4 :: x5 :: x6 :: x7 :: r)) (.int 7) = .ok (.sh x7) := by
  rw [v_ixt, show atI (x0 :: x1 :: x2 :: x3 :: x4 :: x5 :: x6 :: x7 :: r) 7 = some x7 from by unfold atI ixN; rw [if_pos (by decide), if_pos (by simp only [List.length_cons]; omega)]; rfl]
@[simp] theorem x_ixh7 {x0 x1 x2 x3 x4 x5 x6 x7 : D} {r : List D} : ixD (.lst (x0 :: x1 :: x2 :: x3 :: x4 :: x5 :: x6 :: x7 :: r)) (.int 7) = .ok (.sh x7) := by
  rw [v_ixl, show atI (x0 :: x1 :: x2 :: x3 :: x4 :: x5 :: x6 :: x7 :: r) 7 = some x7 from by unfold atI ixN; rw [if_pos (by decide), if_pos (by simp only [List.length_cons]; omega)]; rfl]
@[simp] theorem x_ixt8 {x0 x1 x2 x3 x4 x5 x6 x7 x8 : D} {r : List D} : ixD (.tup (x0 :: x1 :: x2 :: x3 :: x4 :: x5 :: x6 :: x7 :: x8 :: r)) (.int 8) = .ok (.sh x8) := by
  rw [v_ixt, show atI (x0 :: x1 :: x2 :: x3 :: x4 :: x5 :: x6 :: x7 :: x8 :: r) 8 = some x8 from by unfold atI ixN; rw [if_pos (by decide), if_pos (by simp only [List.length_cons]; omega)]; rfl]
@[simp] theorem x_ixh8 {x0 x1 x2 x3 x4 x5 x6 x7 x8 : D} {r : List D} : ixD (.lst (x0 :: x1 :: x2 :: x3 :: x4 :: x5 :: x6 :: x7 :: x8 :: r)) (.int 8) = .ok (.sh x8) := by
  rw [v_ixl, show atI (x0 :: x1 :: x2 :: x3 :: x4 :: x5 :: x6 :: x7 :: x8 :: r) 8 = some x8 from by unfold atI ixN; rw [if_pos (by decide), if_pos (by simp only [List.length_cons]; omega)]; rfl]
@[simp] theorem x_ixt9 {x0 x1 x2 x3 x4 x5 x6 x7 x8 x9 : D} {r : List D} : ixD (.tup (x0 :: x1 :: x2 :: x3 :: x4 :: x5 :: x6 :: x7 :: x8 :: x9 :: r)) (.int 9) = .ok (.sh x9) := by
  rw [v_ixt, show atI (x0 :: x1 :: x2 :: x3 :: x4 :: x5 :: x6 :: x7 :: x8 :: x9 :: r) 9 = some x9 from by unfold atI ixN; rw [if_pos (by decide), if_pos (by simp only [List.length_cons]; omega)]; rfl]
@[simp] theorem x_ixh9 {x0 x1 x2 x3 x4 x5 x6 x7 x8 x9 : D} {r : List D} : ixD (.lst (x0 :: x1 :: x2 :: x3 :: x4 :: x5 :: x6 :: x7 :: x8 :: x9 :: r)) (.int 9) = .ok (.sh x9) := by
  rw [v_ixl, show atI (x0 :: x1 :: x2 :: x3 :: x4 :: x5 :: x6 :: x7 :: x8 :: x9 :: r) 9 = some x9 from by unfold atI ixN; rw [if_pos (by decide), if_pos (by simp only [List.length_cons]; omega)]; rfl]

@[simp] theorem y_chain {f g : D → D → Res D} {e : En} (ma mb mc : En → Res D) : mChain f g ma mb mc e = (ma e).bind fun a => (mb e).bind fun b => (f a b).bind fun t => chainK t ((mc e).bind fun c => (g b c).map .sh) := x_chain ma mb mc
@[simp] theorem y_or (p : Prop) [Decidable p] (c : Bool) : (if p then Res.ok true else Res.ok c) = Res.ok (decide p || c) := r_or p c
@[simp] theorem y_and (p : Prop) [Decidable p] (c : Bool) : (if p then Res.ok c else Res.ok false) = Res.ok (decide p && c) := r_and p c
@[simp] theorem y_orW (p : Prop) [Decidable p] (c : Bool) : (if p then Res.ok (W.sh (D.bl true)) else Res.ok (W.sh (D.bl c))) = Res.ok (W.sh (D.bl (decide p || c))) := r_orW p c
@[simp] theorem y_andW (p : Prop) [Decidable p] (c : Bool) : (if p then Res.ok (W.sh (D.bl c)) else Res.ok (W.sh (D.bl false))) = Res.ok (W.sh (D.bl (decide p && c))) := r_andW p c
@[simp] theorem y_cut {α β : Type} (f : α → β) (xs : List α) (lo hi : Option Int) : cutD (xs.map f) lo hi = (cutD xs lo hi).map f := cut_map f xs lo hi
@[simp] theorem y_ifint (p : Prop) [Decidable p] (a b : Int) : (if p then D.int a else D.int b) = D.int (if p then a else b) := by split <;> rfl
theorem adS_fact {a b y : Str} (h : adS a b = some y) : addD (.str a) (.str b) = .ok (.sh (.str y)) := by
  obtain ⟨h1, rfl⟩ := adS_some h
  exact x_adds h1
theorem exL_fact {α : Type} {e : α → D} {a b y : List α} (h : exL a b = some y) : addD (.lst (a.map e)) (.lst (b.map e)) = .ok (.lst (y.map e)) := by
  obtain ⟨h1, rfl⟩ := exL_some h
  rw [x_addl (by rw [List.length_map, List.length_map]; exact h1), List.map_append]
@[simp] theorem y_isnt_tup (x : List D) : isntD (.tup x) .non = .ok (.bl true) := rfl
@[simp] theorem y_is_tup (x : List D) : isD (.tup x) .non = .ok (.bl false) := rfl
@[simp] theorem y_isnt_lst (x : List D) : isntD (.lst x) .non = .ok (.bl true) := rfl
@[simp] theorem y_is_lst (x : List D) : isD (.lst x) .non = .ok (.bl false) := rfl
@[simp] theorem y_isnt_int (x : Int) : isntD (.int x) .non = .ok (.bl true) := rfl
@[simp] theorem y_is_int (x : Int) : isD (.int x) .non = .ok (.bl false) := rfl
@[simp] theorem y_isnt_str (x : Str) : isntD (.str x) .non = .ok (.bl true) := rfl
@[simp] theorem y_is_str (x : Str) : isD (.str x) .non = .ok (.bl false) := rfl
@[simp] theorem y_isnt_bl (x : Bool) : isntD (.bl x) .non = .ok (.bl true) := rfl
@[simp] theorem y_is_bl (x : Bool) : isD (.bl x) .non = .ok (.bl false) := rfl
@[simp] theorem y_isnt_non : isntD .non .non = .ok (.bl false) := rfl
@[simp] theorem y_is_non : isD .non .non = .ok (.bl true) := rfl
def gdU (n : Nat) : Option Unit := if small n then some () else none
theorem gdU_some {n : Nat} {u : Unit} (h : gdU n = some u) : small n = true := by
  unfold gdU at h
  split at h
  · assumption
  · cases h
def signsF (z : Str) : List Str := z.cps.toList.map fun c => ⟨#[c]⟩
theorem signsF_D (z : Str) : itemsD (.str z) = .ok ((signsF z).map D.str) := by
  rw [v_items]
  unfold signsF
  rw [List.map_map]
  rfl
theorem dlook_kS {α : Type} {e : α → D} (k : Str) : ∀ ps : List (Str × α), dlook (ps.map kS) (ps.map fun p => e p.2) (Sum.inr k) = (dgt ps k).map e
  | [] => rfl
  | p :: r => by
    have ih := dlook_kS (e := e) k r
    unfold dlook dgt at ih ⊢
    rw [List.map_cons, List.map_cons, List.zip_cons_cons, List.find?_cons, List.find?_cons]
    by_cases h : p.1 = k
    · rw [decide_eq_true (show (kS p : Key) = Sum.inr k by unfold kS; rw [h]), decide_eq_true h]
      rfl
    · rw [decide_eq_false (show ¬ (kS p : Key) = Sum.inr k from fun q => h (by unfold kS at q; injection q)), decide_eq_false h]
      exact ih
theorem dlook_kI {α : Type} {e : α → D} (k : Int) : ∀ ps : List (Int × α), dlook (ps.map kI) (ps.map fun p => e p.2) (Sum.inl k) = (dgt ps k).map e
  | [] => rfl
  | p :: r => by
    have ih := dlook_kI (e := e) k r
    unfold dlook dgt at ih ⊢
    rw [List.map_cons, List.map_cons, List.zip_cons_cons, List.find?_cons, List.find?_cons]
    by_cases h : p.1 = k
    · rw [decide_eq_true (show (kI p : Key) = Sum.inl k by unfold kI; rw [h]), decide_eq_true h]
      rfl
    · rw [decide_eq_false (show ¬ (kI p : Key) = Sum.inl k from fun q => h (by unfold kI at q; injection q)), decide_eq_false h]
      exact ih
theorem ixK_some {α : Type} {e : α → D} {ps : List (Str × α)} {k : Str} {y : α} (h : dgt ps k = some y) : ixD (.dic (ps.map kS) (ps.map fun p => e p.2)) (.str k) = .ok (.sh (e y)) := by
  show (match dlook (ps.map kS) (ps.map fun p => e p.2) (Sum.inr k) with
    | some d => Res.ok (W.sh d)
    | none => .st) = _
  rw [dlook_kS, h]
  rfl
theorem ixKI_some {α : Type} {e : α → D} {ps : List (Int × α)} {k : Int} {y : α} (h : dgt ps k = some y) : ixD (.dic (ps.map kI) (ps.map fun p => e p.2)) (.int k) = .ok (.sh (e y)) := by
  show (match dlook (ps.map kI) (ps.map fun p => e p.2) (Sum.inl k) with
    | some d => Res.ok (W.sh d)
    | none => .st) = _
  rw [dlook_kI, h]
  rfl
@[simp] theorem y_inS {α : Type} {e : α → D} (ps : List (Str × α)) (k : Str) : inB (.str k) (.dic (ps.map kS) (ps.map fun p => e p.2)) = .ok (.bl (dgt ps k).isSome) := by
  rw [x_inK, dlook_kS, Option.isSome_map]
@[simp] theorem y_notInS {α : Type} {e : α → D} (ps : List (Str × α)) (k : Str) : notInB (.str k) (.dic (ps.map kS) (ps.map fun p => e p.2)) = .ok (.bl (!(dgt ps k).isSome)) := by
  rw [x_notInK, dlook_kS, Option.isSome_map]
def dpG {κ α : Type} [DecidableEq κ] (ps : List (κ × α)) (k : κ) (x : α) : Option (List (κ × α)) := if small ps.length && decide ((ps.map (·.1)).Nodup) then some (dpt ps k x) else none
theorem dpt_keys {α : Type} (k : Str) (x : α) : ∀ ps : List (Str × α), putKs (ps.map kS) (Sum.inr k) = (dpt ps k x).map kS
  | [] => rfl
  | p :: r => by
    have ih := dpt_keys k x r
    unfold dpt
    by_cases h : p.1 = k
    · rw [if_pos h]
      unfold putKs
      rw [if_pos (List.mem_map.mpr ⟨p, List.mem_cons_self, by unfold kS; rw [h]⟩)]
      rw [List.map_cons, List.map_cons]
      unfold kS
      rw [h]
    · rw [if_neg h, List.map_cons, List.map_cons, ← ih]
      have hne : ¬ (Sum.inr k : Key) = kS p := fun q => h (by unfold kS at q; injection q with q; exact q.symm)
      unfold putKs
      by_cases h2 : (Sum.inr k : Key) ∈ r.map kS
      · rw [if_pos h2, if_pos (List.mem_cons_of_mem _ h2)]
      · rw [if_neg h2, if_neg fun q => (List.mem_cons.mp q).elim hne h2]
        rfl
theorem zipW_out {α : Type} {e : α → D} (k : Str) (d : D) : ∀ ps : List (Str × α), k ∉ ps.map (·.1) → List.zipWith (fun k' x' => if k' = (Sum.inr k : Key) then d else x') (ps.map kS) (ps.map fun p => e p.2) = ps.map fun p => e p.2
  | [], _ => rfl
  | p :: r, h => by
    rw [List.map_cons, List.mem_cons, not_or] at h
    rw [List.map_cons, List.map_cons, List.zipWith_cons_cons, zipW_out k d r h.2, if_neg fun q => h.1 (by unfold kS at q; injection q with q; exact q.symm)]
theorem mem_kS {α : Type} {ps : List (Str × α)} {k : Str} : (Sum.inr k : Key) ∈ ps.map kS ↔ k ∈ ps.map (·.1) := by
  constructor
  · intro h
    obtain ⟨p, hp, e⟩ := List.mem_map.mp h
    unfold kS at e
    injection e with e
    exact List.mem_map.mpr ⟨p, hp, e⟩
  · intro h
    obtain ⟨p, hp, e⟩ := List.mem_map.mp h
    exact List.mem_map.mpr ⟨p, hp, by unfold kS; rw [e]⟩
theorem dpt_vals {α : Type} {e : α → D} (k : Str) (x : α) : ∀ ps : List (Str × α), (ps.map (·.1)).Nodup → putXs (ps.map kS) (ps.map fun p => e p.2) (Sum.inr k) (e x) = (dpt ps k x).map fun p => e p.2
  | [], _ => rfl
  | p :: r, hd => by
    rw [List.map_cons, List.nodup_cons] at hd
    have ih := dpt_vals (e := e) k x r hd.2
    unfold dpt
    by_cases h : p.1 = k
    · rw [if_pos h]
      unfold putXs
      rw [if_pos (List.mem_map.mpr ⟨p, List.mem_cons_self, by unfold kS; rw [h]⟩)]
      rw [List.map_cons, List.map_cons, List.zipWith_cons_cons, if_pos (show kS p = Sum.inr k by unfold kS; rw [h]), zipW_out k (e x) r (h ▸ hd.1)]
      rfl
    · rw [if_neg h, List.map_cons, List.map_cons, List.map_cons, ← ih]
      have hne : ¬ (Sum.inr k : Key) = kS p := fun q => h (by unfold kS at q; injection q with q; exact q.symm)
      unfold putXs
      by_cases h2 : (Sum.inr k : Key) ∈ r.map kS
      · rw [if_pos h2, if_pos (List.mem_cons_of_mem _ h2), List.zipWith_cons_cons, if_neg fun q => hne q.symm]
      · rw [if_neg h2, if_neg fun q => (List.mem_cons.mp q).elim hne h2]
        rfl
theorem dpG_some {α : Type} {e : α → D} {ps qs : List (Str × α)} {k : Str} {x : α} (h : dpG ps k x = some qs) : putDic (.str k) (e x) (.dic (ps.map kS) (ps.map fun p => e p.2)) = .ok (.dic (qs.map kS) (qs.map fun p => e p.2)) := by
  unfold dpG at h
  split at h
  · rename_i hs
    cases h
    rw [Bool.and_eq_true] at hs
    show (if small (ps.map kS).length then Res.ok (W.dic (putKs (ps.map kS) (Sum.inr k)) (putXs (ps.map kS) (ps.map fun p => e p.2) (Sum.inr k) (e x))) else .st) = _
    rw [List.length_map, if_pos hs.1, dpt_keys k x ps, dpt_vals k x ps (of_decide_eq_true hs.2)]
  · cases h

end Ly

set_option Elab.async false
set_option linter.all false
set_option maxRecDepth 100000
/-! LyY2: dicts with any keys, get, least and greatest, sorted, on typed data. -/
namespace Ly
open PySem L2 PyProof.Rows
/-! ### dicts: kf tells a pair's key, kk a key's -/
section
variable {κ κ' α : Type} [DecidableEq κ] [DecidableEq κ'] {kf : κ × α → κ'} {kk : κ → κ'} {e : α → D}
structure KeyF (kf : κ × α → κ') (kk : κ → κ') : Prop where
  eq : ∀ p, kf p = kk p.1
  inj : ∀ a b, kk a = kk b → a = b
theorem dlook_kk (h : KeyF kf kk) (k : κ) : ∀ ps : List (κ × α), dlook (ps.map kf) (ps.map fun p => e p.2) (kk k) = (dgt ps k).map e
  | [] => rfl
  | p :: r => by
    have ih := dlook_kk h k r
    unfold dlook dgt at ih ⊢
    rw [List.map_cons, List.map_cons, List.zip_cons_cons, List.find?_cons, List.find?_cons]
    by_cases q : p.1 = k
    · rw [decide_eq_true (show kf p = kk k by rw [h.eq, q]), decide_eq_true q]
      rfl
    · rw [decide_eq_false (show ¬ kf p = kk k from fun z => q (h.inj _ _ (by rw [← h.eq]; exact z))), decide_eq_false q]
      exact ih
theorem putKs_kk (h : KeyF kf kk) (k : κ) (x : α) : ∀ ps : List (κ × α), putKs (ps.map kf) (kk k) = (dpt ps k x).map kf
  | [] => by
    show [kk k] = [kf (k, x)]
    rw [h.eq]
  | p :: r => by
    have ih := putKs_kk h k x r
    unfold dpt
    by_cases q : p.1 = k
    · rw [if_pos q]
      unfold putKs
      rw [if_pos (List.mem_map.mpr ⟨p, List.mem_cons_self, by rw [h.eq, q]⟩)]
      rw [List.map_cons, List.map_cons, h.eq, h.eq, q]
    · rw [if_neg q, List.map_cons, List.map_cons, ← ih]
      have hne : ¬ kk k = kf p := fun z => q (h.inj _ _ (by rw [← h.eq]; exact z.symm))
      unfold putKs
      by_cases h2 : kk k ∈ r.map kf
      · rw [if_pos h2, if_pos (List.mem_cons_of_mem _ h2)]
      · rw [if_neg h2, if_neg fun z => (List.mem_cons.mp z).elim hne h2]
        rfl
theorem zipW_kk (h : KeyF kf kk) (k : κ) (d : D) : ∀ ps : List (κ × α), k ∉ ps.map (·.1) → List.zipWith (fun k' x' => if k' = kk k then d else x') (ps.map kf) (ps.map fun p => e p.2) = ps.map fun p => e p.2
  | [], _ => rfl
  | p :: r, q => by
    rw [List.map_cons, List.mem_cons, not_or] at q
    rw [List.map_cons, List.map_cons, List.zipWith_cons_cons, zipW_kk h k d r q.2, if_neg fun z => q.1 (h.inj _ _ (by rw [← h.eq]; exact z.symm))]
theorem putXs_kk (h : KeyF kf kk) (k : κ) (x : α) : ∀ ps : List (κ × α), (ps.map (·.1)).Nodup → putXs (ps.map kf) (ps.map fun p => e p.2) (kk k) (e x) = (dpt ps k x).map fun p => e p.2
  | [], _ => rfl
  | p :: r, hd => by
    rw [List.map_cons, List.nodup_cons] at hd
    have ih := putXs_kk h k x r hd.2
    unfold dpt
    by_cases q : p.1 = k
    · rw [if_pos q]
      unfold putXs
      rw [if_pos (List.mem_map.mpr ⟨p, List.mem_cons_self, by rw [h.eq, q]⟩)]
      rw [List.map_cons, List.map_cons, List.zipWith_cons_cons, if_pos (show kf p = kk k by rw [h.eq, q]), zipW_kk h k (e x) r (q ▸ hd.1)]
      rfl
    · rw [if_neg q, List.map_cons, List.map_cons, List.map_cons, ← ih]
      have hne : ¬ kk k = kf p := fun z => q (h.inj _ _ (by rw [← h.eq]; exact z.symm))
      unfold putXs
      by_cases h2 : kk k ∈ r.map kf
      · rw [if_pos h2, if_pos (List.mem_cons_of_mem _ h2), List.zipWith_cons_cons, if_neg fun z => hne z.symm]
      · rw [if_neg h2, if_neg fun z => (List.mem_cons.mp z).elim hne h2]
        rfl
theorem dpt_nd (k : κ) (x : α) : ∀ ps : List (κ × α), (ps.map (·.1)).Nodup → ((dpt ps k x).map (·.1)).Nodup ∧ ∀ z, z ∈ (dpt ps k x).map (·.1) ↔ z = k ∨ z ∈ ps.map (·.1)
  | [], _ => ⟨by simp [dpt], fun z => by simp [dpt]⟩
  | p :: r, hd => by
    rw [List.map_cons, List.nodup_cons] at hd
    obtain ⟨i1, i2⟩ := dpt_nd k x r hd.2
    unfold dpt
    by_cases q : p.1 = k
    · rw [if_pos q]
      refine ⟨by rw [List.map_cons, List.nodup_cons]; exact ⟨q ▸ hd.1, hd.2⟩, fun z => ?_⟩
      rw [List.map_cons, List.map_cons, List.mem_cons, List.mem_cons, q]
      simp
    · rw [if_neg q]
      refine ⟨by rw [List.map_cons, List.nodup_cons, i2]; exact ⟨fun z => z.elim q hd.1, i1⟩, fun z => ?_⟩
      rw [List.map_cons, List.map_cons, List.mem_cons, List.mem_cons, i2]
      constructor
      · rintro (a | a | a)
        · exact .inr (.inl a)
        · exact .inl a
        · exact .inr (.inr a)
      · rintro (a | a | a)
        · exact .inr (.inl a)
        · exact .inl a
        · exact .inr (.inr a)
/-- a dict of pairs, later ones win -/
def dmk (xs : List (κ × α)) : List (κ × α) := xs.foldl (fun acc p => dpt acc p.1 p.2) []
theorem merge_kk (h : KeyF kf kk) : ∀ (xs ps : List (κ × α)), (ps.map (·.1)).Nodup → mergeG (ps.map kf) (ps.map fun p => e p.2) (xs.map fun p => (kf p, e p.2)) = ((xs.foldl (fun acc p => dpt acc p.1 p.2) ps).map kf, (xs.foldl (fun acc p => dpt acc p.1 p.2) ps).map fun p => e p.2)
  | [], ps, _ => rfl
  | x :: xs, ps, hd => by
    show mergeG (putKs (ps.map kf) (kf x)) (putXs (ps.map kf) (ps.map fun p => e p.2) (kf x) (e x.2)) (xs.map fun p => (kf p, e p.2)) = _
    rw [h.eq x, putKs_kk h x.1 x.2 ps, putXs_kk h x.1 x.2 ps hd, merge_kk h xs _ (dpt_nd _ _ _ hd).1]
    rfl
end
theorem kfS {α : Type} : KeyF (kS : Str × α → Key) (fun z => (Sum.inr z : Key)) := ⟨fun _ => rfl, fun a b h => by injection h⟩
theorem kfI {α : Type} : KeyF (kI : Int × α → Key) (fun z => (Sum.inl z : Key)) := ⟨fun _ => rfl, fun a b h => by injection h⟩
section
variable {κ α : Type} [DecidableEq κ] {kf : κ × α → List Key} {kk : κ → List Key} {e : α → D} {ps qs : List (κ × α)} {k : κ} {ds : List D} {x y : α}
theorem lk_dit (h : KeyF kf kk) (hk : toKs ds = some (kk k)) : lookD (.dit (ps.map kf) (ps.map fun p => e p.2)) (.tup ds) = some ((dgt ps k).map e) := by
  show (toKs ds).map (fun key => dlook (ps.map kf) (ps.map fun p : κ × α => e p.2) key) = _
  rw [hk, Option.map_some, dlook_kk h]
theorem ix_dit (h : KeyF kf kk) (hk : toKs ds = some (kk k)) (q : dgt ps k = some y) : ixD (.dit (ps.map kf) (ps.map fun p => e p.2)) (.tup ds) = .ok (.sh (e y)) := by
  show (match toKs ds with
    | some k => match dlook (ps.map kf) (ps.map fun p : κ × α => e p.2) k with
      | some d => Res.ok (W.sh d)
      | none => .st
    | none => .st) = _
  rw [hk]
  simp only
  rw [dlook_kk h, q]
  rfl
theorem inD_dit (h : KeyF kf kk) (hk : toKs ds = some (kk k)) : inD (.tup ds) (.dit (ps.map kf) (ps.map fun p => e p.2)) = .ok (dgt ps k).isSome := by
  show (match toKs ds with
    | some k => Res.ok (dlook (ps.map kf) (ps.map fun p : κ × α => e p.2) k).isSome
    | none => .st) = _
  rw [hk]
  simp only
  rw [dlook_kk h, Option.isSome_map]
theorem in_dit (h : KeyF kf kk) (hk : toKs ds = some (kk k)) : inB (.tup ds) (.dit (ps.map kf) (ps.map fun p => e p.2)) = .ok (.bl (dgt ps k).isSome) := by
  unfold inB
  rw [inD_dit h hk]
  rfl
theorem notIn_dit (h : KeyF kf kk) (hk : toKs ds = some (kk k)) : notInB (.tup ds) (.dit (ps.map kf) (ps.map fun p => e p.2)) = .ok (.bl (!(dgt ps k).isSome)) := by
  unfold notInB
  rw [inD_dit h hk]
  rfl
theorem put_dit (h : KeyF kf kk) (hk : toKs ds = some (kk k)) (q : dpG ps k x = some qs) : putDic (.tup ds) (e x) (.dit (ps.map kf) (ps.map fun p => e p.2)) = .ok (.dit (qs.map kf) (qs.map fun p => e p.2)) := by
  unfold dpG at q
  split at q
  · rename_i hs
    cases q
    rw [Bool.and_eq_true] at hs
    show (match toKs ds with
      | some key => if small (ps.map kf).length then Res.ok (W.dit (putKs (ps.map kf) key) (putXs (ps.map kf) (ps.map fun p : κ × α => e p.2) key (e x))) else .st
      | none => .st) = _
    rw [hk]
    simp only
    rw [List.length_map, if_pos hs.1, putKs_kk h k x ps, putXs_kk h k x ps (of_decide_eq_true hs.2)]
  · cases q
def keysF {κ α : Type} (ps : List (κ × α)) : List κ := ps.map (·.1)
theorem keys_dit {E : κ → D} (hE : ∀ p : κ × α, D.tup ((kf p).map kD) = E p.1) {xs : List D} : keysD (.dit (ps.map kf) xs) = .ok ((keysF ps).map E) := by
  show Res.ok ((ps.map kf).map fun k => D.tup (k.map kD)) = _
  unfold keysF
  rw [List.map_map, List.map_map]
  congr 1
  refine List.map_congr_left fun p _ => hE p
end
section
variable {α : Type} {e : α → D} {ps : List (Str × α)} {k : Str}
theorem keys_dicS {xs : List D} : keysD (.dic (ps.map kS) xs) = .ok ((keysF ps).map D.str) := by
  show Res.ok ((ps.map kS).map kD) = _
  unfold keysF
  rw [List.map_map, List.map_map]
  rfl
theorem vals_dicS {ks : List Key} {xs : List α} : valsD (.dic ks (xs.map e)) = .ok (xs.map e) := rfl
theorem lk_dicS : lookD (.dic (ps.map kS) (ps.map fun p => e p.2)) (.str k) = some ((dgt ps k).map e) := by
  show Option.map (fun key => dlook (ps.map kS) (ps.map fun p => e p.2) key) (some (Sum.inr k)) = _
  rw [Option.map_some, dlook_kk kfS]
theorem dict_S {E : Str × α → D} (hE : ∀ p, E p = D.tup [.str p.1, e p.2]) {xs : List (Str × α)} : dictD [.lst (xs.map E)] = .ok (.dic ((dmk xs).map kS) ((dmk xs).map fun p => e p.2)) := by
  have h1 : ∀ xs : List (Str × α), pairsD (xs.map E) = some (xs.map fun p => (kS p, e p.2)) := by
    intro xs
    induction xs with
    | nil => rfl
    | cons x r ih =>
      rw [List.map_cons, hE]
      show (some (Sum.inr x.1, e x.2)).bind (fun p => (pairsD (r.map E)).map fun ps => p :: ps) = _
      rw [ih]
      rfl
  have h2 : ∀ (ps : List (Key × D)) (ks : List Key) (xs : List D), mergeD ks xs ps = mergeG ks xs ps := by
    intro ps
    induction ps with
    | nil => intro ks xs; rfl
    | cons p r ih => intro ks xs; exact ih _ _
  show (match pairsD (xs.map E) with
    | some ps => Res.ok (W.dic (mergeD [] [] ps).1 (mergeD [] [] ps).2)
    | none => Res.st) = _
  rw [h1]
  simp only
  rw [h2]
  have := merge_kk (e := e) (kfS (α := α)) xs [] .nil
  simp only [List.map_nil] at this
  rw [this]
  rfl
end
theorem getD_mapF {α β : Type} (f : α → β) (o : Option α) (z : α) : (o.map f).getD (f z) = f (o.getD z) := by cases o <;> rfl
theorem getD_non {α : Type} (f : α → D) (o : Option α) : (o.map f).getD D.non = eO f o := by cases o <;> rfl
/-! get -/
theorem get1_fact {md mk : En → Res D} {env : En} {d k : D} {α : Type} {f : α → D} {o : Option α} (h1 : md env = .ok d) (h2 : mk env = .ok k) (h3 : isDc d = true) (h4 : lookD d k = some (o.map f)) : mGet1 md mk env = .ok (.sh (eO f o)) := by
  unfold mGet1
  rw [h1, Res.bind_ok, if_pos h3, h2, Res.bind_ok, h4]
  simp only
  rw [getD_non]
section
variable {e : En} {gt : Bool}
def getK (o : Option (Option D)) (z : D) : Res W := match o with
  | some o => .ok (.sh (o.getD z))
  | none => .st
@[simp] theorem getK_some (o : Option D) (z : D) : getK (some o) z = .ok (.sh (o.getD z)) := rfl
@[simp] theorem a_mGet1 (md mk : En → Res D) : mGet1 md mk e = (md e).bind fun d => if isDc d = true then (mk e).bind fun k => getK (lookD d k) .non else .st := by
  unfold mGet1
  congr 1
@[simp] theorem a_mGet2 (md mk mx : En → Res D) : mGet2 md mk mx e = (md e).bind fun d => if isDc d = true then (mk e).bind fun k => (mx e).bind fun z => getK (lookD d k) z else .st := by
  unfold mGet2
  congr 1
@[simp] theorem isDc_dic (ks : List Key) (xs : List D) : isDc (.dic ks xs) = true := rfl
@[simp] theorem isDc_dit (ks : List (List Key)) (xs : List D) : isDc (.dit ks xs) = true := rfl
/-! index -/
def idxK (a : D) (r : Res D) : Res W := match a with
  | .lst xs => r.bind fun y => match idxD xs y with
    | some j => .ok (.sh (.int (j : Int)))
    | none => .st
  | _ => .st
@[simp] theorem a_mIdx (ma mb : En → Res D) : mIdx ma mb e = (ma e).bind fun a => idxK a (mb e) := rfl
def ixOf {α : Type} [DecidableEq α] (xs : List α) (y : α) : Option Int := (xs.findIdx? fun z => decide (z = y)).map fun (j : Nat) => (j : Int)
theorem idx_strs {xs : List Str} {y : Str} {j : Int} (h : ixOf xs y = some j) : idxK (.lst (xs.map D.str)) (.ok (.str y)) = .ok (.sh (.int j)) := by
  obtain ⟨i, hi, rfl⟩ := Option.map_eq_some_iff.mp h
  have h1 : idxD (xs.map D.str) (.str y) = some i := by
    unfold idxD
    have hf : (flatD (.str y) && (xs.map D.str).all flatD) = true := by
      rw [Bool.and_eq_true, List.all_eq_true]
      refine ⟨rfl, fun d hd => ?_⟩
      obtain ⟨z, _, rfl⟩ := List.mem_map.mp hd
      rfl
    rw [if_pos hf, List.findIdx?_map, ← hi]
    congr 1
  show (match idxD (xs.map D.str) (.str y) with
    | some j => Res.ok (W.sh (D.int (j : Int)))
    | none => .st) = _
  rw [h1]
/-! least, greatest -/
def bstO (gt : Bool) : List Int → Option Int
  | [] => none
  | n :: ns => some (bestI gt n ns)
def bstZ (gt : Bool) : List Str → Option Str
  | [] => none
  | n :: ns => some (bestZ gt n ns)
theorem intsD_ints : ∀ ns : List Int, intsD (ns.map D.int) = some ns
  | [] => rfl
  | n :: ns => by
    show (intsD (ns.map D.int)).map _ = _
    rw [intsD_ints ns]
    rfl
theorem strsD_strs' : ∀ zs : List Str, strsD (zs.map D.str) = some zs
  | [] => rfl
  | z :: r => by
    show (strsD (r.map D.str)).map _ = _
    rw [strsD_strs' r]
    rfl
theorem bestL_ints (ns : List Int) : bestL gt (ns.map D.int) = some ((bstO gt ns).map D.int) := by
  unfold bestL
  rw [intsD_ints]
  cases ns <;> rfl
theorem bestL_strs (z : Str) (zs : List Str) : bestL gt ((z :: zs).map D.str) = some ((bstZ gt (z :: zs)).map D.str) := by
  unfold bestL
  rw [strsD_strs', show intsD ((z :: zs).map D.str) = none from rfl]
  rfl
def bestK (gt : Bool) (xs : List D) (z : D) : Res W := match bestL gt xs with
  | some (some d) => .ok (.sh d)
  | some none => .ok (.sh z)
  | none => .st
def bestM (gt : Bool) (a : D) (r : Res D) : Res W := match a with
  | .lst xs => r.bind fun z => bestK gt xs z
  | _ => .st
@[simp] theorem bestM_lst (xs : List D) (r : Res D) : bestM gt (.lst xs) r = r.bind fun z => bestK gt xs z := rfl
@[simp] theorem a_mMMD (ma mx : En → Res D) : mMMD gt ma mx e = (ma e).bind fun a => bestM gt a (mx e) := rfl
@[simp] theorem bestK_non (ns : List Int) : bestK gt (ns.map D.int) .non = .ok (.sh (eO D.int (bstO gt ns))) := by
  unfold bestK
  rw [bestL_ints]
  cases bstO gt ns <;> rfl
@[simp] theorem bestK_int (ns : List Int) (c : Int) : bestK gt (ns.map D.int) (.int c) = .ok (.sh (.int ((bstO gt ns).getD c))) := by
  unfold bestK
  rw [bestL_ints]
  cases bstO gt ns <;> rfl
theorem mm_ints {ns : List Int} {y : Int} (h : bstO gt ns = some y) : mmD gt [.lst (ns.map D.int)] = .ok (.sh (.int y)) := by
  show (match bestL gt (ns.map D.int) with
    | some (some d) => Res.ok (W.sh d)
    | _ => .st) = _
  rw [bestL_ints, h]
  rfl
theorem mm_strs {zs : List Str} {y : Str} (h : bstZ gt zs = some y) : mmD gt [.lst (zs.map D.str)] = .ok (.sh (.str y)) := by
  cases zs with
  | nil => cases h
  | cons z zs =>
    show (match bestL gt ((z :: zs).map D.str) with
      | some (some d) => Res.ok (W.sh d)
      | _ => .st) = _
    rw [bestL_strs, h]
    rfl
/-! sorted -/
theorem sort_ints (ns : List Int) : sortW [.lst (ns.map D.int)] = .ok (.lst ((sortI ns).map D.int)) := by
  have h : sortD [.lst (ns.map D.int)] = .ok (.lst ((sortI ns).map D.int)) := by
    show sortDL (ns.map D.int) = _
    unfold sortDL
    rw [intsD_ints]
  show (match sortD [.lst (ns.map D.int)] with
    | .ok w => Res.ok w
    | _ => if okSort (ns.map D.int) then .ok (.lst ((ns.map D.int).mergeSort leDat)) else .st) = _
  rw [h]
/-- sorted of tuples: how two are told apart is said by le -/
def srtG {α : Type} (E : α → D) (xs : List α) : Option (List α) := match xs with
  | [] => some []
  | _ :: _ => if okSort (xs.map E) then some (xs.mergeSort fun a b => leDat (E a) (E b)) else none
theorem sort_tups {α : Type} {E : α → D} {xs ys : List α} (hE : ∀ x, ∃ ds, E x = .tup ds) (h : srtG E xs = some ys) : sortW [.lst (xs.map E)] = .ok (.lst (ys.map E)) := by
  cases xs with
  | nil =>
    cases h
    have := sort_ints []
    simpa [sortI] using this
  | cons x r =>
    unfold srtG at h
    simp only at h
    split at h
    · rename_i hok
      cases h
      obtain ⟨ds, hx⟩ := hE x
      have h1 : intsD ((x :: r).map E) = none := by rw [List.map_cons, hx]; rfl
      have h2 : strsD ((x :: r).map E) = none := by rw [List.map_cons, hx]; rfl
      have h3 : sortD [.lst ((x :: r).map E)] = .st := by
        show sortDL ((x :: r).map E) = _
        unfold sortDL
        rw [h1, h2]
      show (match sortD [.lst ((x :: r).map E)] with
        | .ok w => Res.ok w
        | _ => if okSort ((x :: r).map E) then .ok (.lst (((x :: r).map E).mergeSort leDat)) else .st) = _
      rw [h3]
      simp only
      rw [if_pos hok, ← List.map_mergeSort (r := fun a b => leDat (E a) (E b)) (s := leDat) (fun a _ b _ => rfl)]
    · cases h
end
/-- a slot that is made stable -/
def frzO : Option W → Option W
  | some w => some (.sh w.toD)
  | none => none
@[simp] theorem y_nebl (a b : Bool) : neE (.bl a) (.bl b) = .ok (.bl (!decide (a = b))) := by cases a <;> cases b <;> rfl
@[simp] theorem y_eqbl (a b : Bool) : eqE (.bl a) (.bl b) = .ok (.bl (decide (a = b))) := by cases a <;> cases b <;> rfl
@[simp] theorem flatD_bl (b : Bool) : flatD (.bl b) = true := rfl
@[simp] theorem flatD_int (n : Int) : flatD (.int n) = true := rfl
@[simp] theorem flatD_str (z : Str) : flatD (.str z) = true := rfl
@[simp] theorem flatD_non : flatD .non = true := rfl
/-! sums; data of any kind; a, b = x, y -/
theorem sum_ints (ns : List Int) : sumD [.lst (ns.map D.int)] = .ok (.sh (.int ns.sum)) := by
  show (match intsD (ns.map D.int) with
    | some ns => Res.ok (W.sh (D.int ns.sum))
    | none => .st) = _
  rw [intsD_ints]
theorem x_isX (d : D) : isD d .non = .ok (.bl (isNonD d)) := by cases d <;> rfl
theorem x_isntX (d : D) : isntD d .non = .ok (.bl (!isNonD d)) := by cases d <;> rfl
@[simp] theorem a_mPar {e : En} (Mu F : List Nat) (i j : Nat) (ma : En → Res (List D)) : mPar Mu F i j ma e = if free0 Mu i && free0 Mu j then (ma (fz F e)).bind fun ds => match ds with
  | [a, b] => .ok (.nx (((fz F e).set i (some (.sh a))).set j (some (.sh b))))
  | _ => .st
  else .st := rfl
theorem itms_dicS {α : Type} {e : α → D} {E : Str × α → D} {ps : List (Str × α)} (hE : ∀ p, E p = D.tup [.str p.1, e p.2]) : itmsD (.dic (ps.map kS) (ps.map fun p => e p.2)) = .ok (ps.map E) := by
  have h : ∀ ps : List (Str × α), itemsP (ps.map kS) (ps.map fun p => e p.2) = ps.map E := by
    intro ps
    induction ps with
    | nil => rfl
    | cons p r ih =>
      show D.tup [.str p.1, e p.2] :: itemsP (r.map kS) (r.map fun p => e p.2) = _
      rw [ih, List.map_cons, hE]
  show Res.ok _ = _
  exact congrArg Res.ok (h ps)
/-! loops and comprehensions over dicts -/
theorem goes_forFD {α σ : Type} {f : α → σ → Option σ} {ea : α → D} {mg : D → En → Res En} {mb : En → Res Fl} {Mu ts F : List Nat} {md : En → Res D} {sel : D → Res (List D)} {env e1 : En} {d : D} {Q : Fl → Prop} {xs : List α} {s s' : σ} (R : σ → En → Prop)
    (hfree : ts.all (free0 Mu) = true) (hf : fz F env = e1) (hm : md e1 = .ok d) (hm2 : sel d = .ok (xs.map ea)) (h0 : R s e1)
    (step : ∀ x s s' env, R s env → f x s = some s' → ∃ e, mg (ea x) env = .ok e ∧ Goes (LF R s') (mb e))
    (h : forF f xs s = some s') (k : ∀ env', R s' env' → Q (.nx env')) : Goes Q (mForD Mu ts F md sel mg mb env) := by
  obtain ⟨env', h1, h2⟩ := run_forF R step xs s s' e1 h0 h
  refine ⟨.nx env', ?_, k env' h2⟩
  unfold mForD
  rw [if_pos hfree, hf, hm, Res.bind_ok, hm2, Res.bind_ok, h1]
  rfl
theorem goes_forBD {α σ ρ : Type} {f : α → σ → Option (Bo σ ρ)} {ea : α → D} {mg : D → En → Res En} {mb : En → Res Fl} {Mu ts F : List Nat} {md : En → Res D} {sel : D → Res (List D)} {env e1 : En} {d : D} {Q : Fl → Prop} {xs : List α} {s : σ} {o : Bo σ ρ} (R : σ → En → Prop) (wr : ρ → W)
    (hfree : ts.all (free0 Mu) = true) (hf : fz F env = e1) (hm : md e1 = .ok d) (hm2 : sel d = .ok (xs.map ea)) (h0 : R s e1)
    (step : ∀ x s o env, R s env → f x s = some o → ∃ e, mg (ea x) env = .ok e ∧ Goes (LB R wr o) (mb e))
    (h : forB f xs s = some o) (k : ∀ s' env', o = .nx s' → R s' env' → Q (.nx env')) (kr : ∀ r, o = .rt r → Q (.rt (wr r))) : Goes Q (mForD Mu ts F md sel mg mb env) := by
  rcases run_forB R wr step xs s o e1 h0 h with ⟨s', env', h1, h2, h3⟩ | ⟨r, h1, h2⟩
  · refine ⟨.nx env', ?_, k s' env' h2 h3⟩
    unfold mForD
    rw [if_pos hfree, hf, hm, Res.bind_ok, hm2, Res.bind_ok, h1]
    rfl
  · refine ⟨.rt (wr r), ?_, kr r h2⟩
    unfold mForD
    rw [if_pos hfree, hf, hm, Res.bind_ok, hm2, Res.bind_ok, h1]
    rfl
@[simp] theorem a_mLcD {e : En} (ts vs : List Nat) (md : En → Res D) (sel : D → Res (List D)) (mg : D → En → Res En) (mt : En → Res Bool) (me : En → Res D) : mLcD ts vs md sel mg mt me e = if ts.all (fun i => vs.contains i) then
  (md e).bind fun d => (sel d).bind fun ds => (noEx (runC mg mt me ds (wipeE e vs))).bind fun ys => if small ys.length then .ok (.lst ys) else .st
  else .st := rfl
end Ly

set_option Elab.async false
set_option linter.all false
set_option maxRecDepth 100000
/-! LyY3: pop, values, sorted texts, on typed data. -/
namespace Ly
open PySem L2 PyProof.Rows
def popL {α : Type} (xs : List α) (n : Int) : Option (α × List α) := if -(2 ^ 63) ≤ n ∧ n < 2 ^ 63 then (seqIndex? n xs.length).bind fun k => (xs[k]?).map fun d => (d, xs.eraseIdx k) else none
theorem erase_map {α β : Type} (e : α → β) : ∀ (xs : List α) (k : Nat), (xs.map e).eraseIdx k = (xs.eraseIdx k).map e
  | [], _ => rfl
  | _ :: _, 0 => rfl
  | x :: xs, k + 1 => by
    show e x :: (xs.map e).eraseIdx k = _
    rw [erase_map e xs k]
    rfl
theorem popD_map {α : Type} {e : α → D} {xs : List α} {n : Int} {q : α × List α} (h : popL xs n = some q) : popD (xs.map e) n = some (e q.1, q.2.map e) := by
  unfold popL at h
  unfold popD
  split at h
  · rename_i hn
    rw [if_pos hn, List.length_map]
    obtain ⟨k, hk, h⟩ := Option.bind_eq_some_iff.mp h
    obtain ⟨d, hd, rfl⟩ := Option.map_eq_some_iff.mp h
    rw [hk, Option.bind_some, List.getElem?_map, hd, erase_map]
    rfl
  · cases h
def popK (Mu ts : List Nat) (r : Option (D × List D)) (k : D → List D → Res Fl) : Res Fl := match r with
  | some (d, ys) => k d ys
  | none => .st
@[simp] theorem popK_some (Mu ts : List Nat) (d : D) (ys : List D) (k : D → List D → Res Fl) : popK Mu ts (some (d, ys)) k = k d ys := rfl
theorem a_mPopTo {e : En} {Mu ts F : List Nat} {i : Nat} {ma : En → Res (List D)} {mg : D → En → Res En} {xs : List D} {n : Int} (h : (fz F e)[i]? = some (some (.lst xs))) (ha : ma (fz F e) = .ok [.int n]) : mPopTo Mu ts F i ma mg e = if ts.all (free0 Mu) then popK Mu ts (popD xs n) fun d ys => (mg d ((fz F e).set i (some (.lst ys)))).map .nx else .st := by
  unfold mPopTo
  split
  · rw [h]
    simp only
    rw [ha]
    simp only [Res.bind_ok]
    unfold popK
    cases popD xs n with
    | none => rfl
    | some q => rfl
  · rfl
def popA (ds xs : List D) (k : D → List D → Res Fl) : Res Fl := match ds with
  | [.int n] => popK [] [] (popD xs n) k
  | _ => .st
@[simp] theorem popA_int (n : Int) (xs : List D) (k : D → List D → Res Fl) : popA [.int n] xs k = popK [] [] (popD xs n) k := rfl
@[simp] theorem s_mPopTo {e : En} (Mu ts F : List Nat) (i : Nat) (ma : En → Res (List D)) (mg : D → En → Res En) : mPopTo Mu ts F i ma mg e = if ts.all (free0 Mu) then match (fz F e)[i]? with
  | some (some (.lst xs)) => (ma (fz F e)).bind fun ds => popA ds xs fun d ys => (mg d ((fz F e).set i (some (.lst ys)))).map .nx
  | _ => .st
  else .st := by
  unfold mPopTo
  split
  · cases (fz F e)[i]? with
    | none => rfl
    | some o =>
      cases o with
      | none => rfl
      | some w =>
        cases w with
        | lst xs =>
          show ((ma (fz F e)).bind _) = ((ma (fz F e)).bind _)
          congr 1
        | _ => rfl
  · rfl
/-! d.pop(k) -/
def dpopA (ks : List Key) (xs : List D) (d : D) (k : W → Res Fl) : Res Fl := match toK d with
  | some key => if (dlook ks xs key).isSome then k (.dic (dropKs ks key) (dropXs ks xs key)) else .st
  | none => .st
@[simp] theorem s_mDPop {e : En} (F : List Nat) (i : Nat) (mk : En → Res D) : mDPop F i mk e = match (fz F e)[i]? with
  | some (some (.dic ks xs)) => (mk (fz F e)).bind fun d => dpopA ks xs d fun w => .ok (.nx ((fz F e).set i (some w)))
  | _ => .st := rfl
def dpD {κ α : Type} [DecidableEq κ] (ps : List (κ × α)) (k : κ) : Option (List (κ × α)) := if (dgt ps k).isSome = true then some (ps.filter fun p => decide (p.1 ≠ k)) else none
theorem dropKs_S {α : Type} (k : Str) : ∀ ps : List (Str × α), dropKs (ps.map kS) (Sum.inr k) = (ps.filter fun p => decide (p.1 ≠ k)).map kS
  | [] => rfl
  | p :: r => by
    have ih := dropKs_S k r
    unfold dropKs at ih ⊢
    rw [List.map_cons, List.filter_cons, List.filter_cons]
    by_cases h : p.1 = k
    · rw [decide_eq_false (show ¬ p.1 ≠ k from fun q => q h), decide_eq_false (show ¬ (kS p : Key) ≠ Sum.inr k from fun q => q (by unfold kS; rw [h]))]
      exact ih
    · rw [decide_eq_true (show p.1 ≠ k from h), decide_eq_true (show (kS p : Key) ≠ Sum.inr k from fun q => h (by unfold kS at q; injection q))]
      rw [if_pos rfl, if_pos rfl, List.map_cons, ih]
theorem dropXs_S {α : Type} {e : α → D} (k : Str) : ∀ ps : List (Str × α), dropXs (ps.map kS) (ps.map fun p => e p.2) (Sum.inr k) = (ps.filter fun p => decide (p.1 ≠ k)).map fun p => e p.2
  | [] => rfl
  | p :: r => by
    have ih := dropXs_S (e := e) k r
    rw [List.map_cons, List.map_cons, List.filter_cons]
    unfold dropXs
    by_cases h : p.1 = k
    · rw [decide_eq_false (show ¬ p.1 ≠ k from fun q => q h), if_pos (show (kS p : Key) = Sum.inr k by unfold kS; rw [h])]
      exact ih
    · rw [decide_eq_true (show p.1 ≠ k from h), if_neg (show ¬ (kS p : Key) = Sum.inr k from fun q => h (by unfold kS at q; injection q)), if_pos rfl, List.map_cons, ih]
theorem a_mDPop {α : Type} {e : En} {F : List Nat} {i : Nat} {mk : En → Res D} {f : α → D} {ps qs : List (Str × α)} {k : Str} (h : (fz F e)[i]? = some (some (.dic (ps.map kS) (ps.map fun p => f p.2)))) (hk : mk (fz F e) = .ok (.str k)) (q : dpD ps k = some qs) : mDPop F i mk e = .ok (.nx ((fz F e).set i (some (.dic (qs.map kS) (qs.map fun p => f p.2))))) := by
  unfold dpD at q
  split at q
  · rename_i hs
    cases q
    unfold mDPop
    rw [h]
    simp only
    rw [hk, Res.bind_ok]
    show (if (dlook (ps.map kS) (ps.map fun p => f p.2) (Sum.inr k)).isSome = true then _ else _) = _
    rw [dlook_kk kfS, Option.isSome_map, if_pos hs, dropKs_S, dropXs_S]
  · cases q
theorem dpopA_fact {α : Type} {f : α → D} {ps qs : List (Str × α)} {k : Str} (q : dpD ps k = some qs) (c : W → Res Fl) : dpopA (ps.map kS) (ps.map fun p => f p.2) (.str k) c = c (.dic (qs.map kS) (qs.map fun p => f p.2)) := by
  unfold dpD at q
  split at q
  · rename_i hs
    cases q
    show (if (dlook (ps.map kS) (ps.map fun p => f p.2) (Sum.inr k)).isSome = true then _ else _) = _
    rw [dlook_kk kfS, Option.isSome_map, if_pos hs, dropKs_S, dropXs_S]
  · cases q
/-! values -/
def valsF {κ α : Type} (ps : List (κ × α)) : List α := ps.map (·.2)
theorem vals_S {α : Type} {e : α → D} {ps : List (Str × α)} : valsD (.dic (ps.map kS) (ps.map fun p => e p.2)) = .ok ((valsF ps).map e) := by
  unfold valsF
  rw [List.map_map]
  rfl
def listA (d : D) : Res W := match d with
  | .dic ks xs => .ok (.lst xs)
  | _ => .st
@[simp] theorem s_mListV {e : En} (md : En → Res D) : mListV md e = (md e).bind listA := rfl
theorem listA_fact {α : Type} {f : α → D} {ps : List (Str × α)} : listA (.dic (ps.map kS) (ps.map fun p => f p.2)) = .ok (.lst ((valsF ps).map f)) := by
  unfold valsF
  rw [List.map_map]
  rfl
def maxA (d : D) : Res W := match d with
  | .dic ks xs => match intsD xs with
    | some (n :: ns) => .ok (.sh (.int (bestI true n ns)))
    | _ => .st
  | _ => .st
@[simp] theorem s_mMaxV {e : En} (md : En → Res D) : mMaxV md e = (md e).bind maxA := rfl
theorem maxA_fact {ps : List (Str × Int)} {y : Int} (q : bstO true (valsF ps) = some y) : maxA (.dic (ps.map kS) (ps.map fun p => D.int p.2)) = .ok (.sh (.int y)) := by
  unfold valsF at q
  unfold maxA
  have e1 : ps.map (fun p => D.int p.2) = (ps.map (·.2)).map D.int := by rw [List.map_map]; rfl
  simp only [e1, intsD_ints]
  cases hp : ps.map (·.2) with
  | nil => rw [hp] at q; cases q
  | cons n ns =>
    rw [hp] at q
    cases q
    rfl
theorem listV_fact {α : Type} {e : En} {md : En → Res D} {f : α → D} {ps : List (Str × α)} (h : md e = .ok (.dic (ps.map kS) (ps.map fun p => f p.2))) : mListV md e = .ok (.lst ((ps.map (·.2)).map f)) := by
  unfold mListV
  rw [h, Res.bind_ok, List.map_map]
  rfl
theorem maxV_fact {e : En} {md : En → Res D} {ps : List (Str × Int)} {y : Int} (h : md e = .ok (.dic (ps.map kS) (ps.map fun p => D.int p.2))) (q : bstO true (ps.map (·.2)) = some y) : mMaxV md e = .ok (.sh (.int y)) := by
  unfold mMaxV
  rw [h, Res.bind_ok]
  have e1 : ps.map (fun p => D.int p.2) = (ps.map (·.2)).map D.int := by rw [List.map_map]; rfl
  simp only [e1, intsD_ints]
  cases hp : ps.map (·.2) with
  | nil => rw [hp] at q; cases q
  | cons n ns =>
    rw [hp] at q
    cases q
    rfl
@[simp] theorem y_neg (n : Int) : negD (.int n) = .ok (.int (-n)) := rfl
/-! lists of data of any kind -/
theorem exL_X {a b y : List D} (h : exL a b = some y) : addD (.lst a) (.lst b) = .ok (.lst y) := by
  have := exL_fact (e := fun d : D => d) h
  simpa using this
theorem ixX_some {l : List D} {i : Int} {y : D} (h : atI l i = some y) : ixD (.lst l) (.int i) = .ok (.sh y) := by
  have := ixL_some (e := fun d : D => d) h
  simpa using this
/-! sorted texts, sorted dicts -/
def srtS (xs : List Str) : Option (List Str) := if xs.length < 64 then some (sortS xs) else none
theorem sort_strs {xs ys : List Str} (h : srtS xs = some ys) : sortW [.lst (xs.map D.str)] = .ok (.lst (ys.map D.str)) := by
  unfold srtS at h
  split at h
  · rename_i hl
    cases h
    have e : sortD [.lst (xs.map D.str)] = .ok (.lst ((sortS xs).map D.str)) := by
      show sortDL (xs.map D.str) = _
      unfold sortDL
      cases xs with
      | nil =>
        have : sortI [] = [] := by simp [sortI]
        have h2 : sortS [] = [] := by simp [sortS]
        simp [intsD, this, h2]
      | cons x r =>
        rw [show intsD ((x :: r).map D.str) = none from rfl, strsD_strs']
        simp only
        rw [if_pos hl]
    show (match sortD [.lst (xs.map D.str)] with
      | .ok w => Res.ok w
      | _ => if okSort (xs.map D.str) then .ok (.lst ((xs.map D.str).mergeSort leDat)) else .st) = _
    rw [e]
  · cases h
end Ly

set_option Elab.async false
set_option linter.all false
set_option maxRecDepth 100000
/-! LyY4: l[i] = e, max of values with a default, sorted and listed dicts, truths' least: on typed data. -/
namespace Ly
open PySem L2 PyProof.Rows
def lsetO {α : Type} (xs : List α) (i : Int) (x : α) : Option (List α) := (ixN xs.length i).map fun j => xs.set j x
def lsetR (xs : List D) (k x : D) : Option (List D) := match k with
  | .int n => lsetO xs n x
  | _ => none
def lsetK (o : Option (List D)) (k : List D → Res Fl) : Res Fl := match o with
  | some ys => k ys
  | none => .st
@[simp] theorem lsetK_some (ys : List D) (k : List D → Res Fl) : lsetK (some ys) k = k ys := rfl
@[simp] theorem s_mLSet {e : En} (F : List Nat) (i : Nat) (mk mv : En → Res D) : mLSet F i mk mv e = (mv (fz F e)).bind fun x => match (fz F e)[i]? with
  | some (some (.lst xs)) => (mk (fz F e)).bind fun k => lsetK (lsetR xs k x) fun ys => .ok (.nx ((fz F e).set i (some (.lst ys))))
  | _ => .st := by
  unfold mLSet
  congr 1
  funext x
  cases (fz F e)[i]? with
  | none => rfl
  | some o =>
    cases o with
    | none => rfl
    | some w =>
      cases w with
      | lst xs =>
        show ((mk (fz F e)).bind _) = ((mk (fz F e)).bind _)
        congr 1
        funext k
        cases k <;> try rfl
        rename_i n
        show (match ixN xs.length n with
          | some j => Res.ok (Fl.nx (List.set (fz F e) i (some (W.lst (xs.set j x)))))
          | none => Res.st) = lsetK ((ixN xs.length n).map fun j => xs.set j x) _
        cases ixN xs.length n <;> rfl
      | _ => rfl
theorem lset_fact {α : Type} {e : α → D} {xs ys : List α} {i : Int} {x : α} (h : lsetO xs i x = some ys) : lsetR (xs.map e) (.int i) (e x) = some (ys.map e) := by
  unfold lsetO at h
  obtain ⟨j, hj, rfl⟩ := Option.map_eq_some_iff.mp h
  show (ixN (xs.map e).length i).map _ = _
  rw [List.length_map, hj, Option.map_some, List.map_set]
@[simp] theorem s_mMaxVD {e : En} (md mc : En → Res D) : mMaxVD md mc e = (md e).bind fun d => if dicI d = true then (mc e).bind fun c => maxVD d c else .st := rfl
theorem dicI_fact {ks : List Key} (ps : List (Str × Int)) : dicI (.dic ks (ps.map fun p => D.int p.2)) = true := by
  have e1 : ps.map (fun p => D.int p.2) = (ps.map (·.2)).map D.int := by rw [List.map_map]; rfl
  show (intsD (ps.map fun p => D.int p.2)).isSome = true
  rw [e1, intsD_ints]
  rfl
theorem maxVD_fact {ks : List Key} (ps : List (Str × Int)) (c : Int) : maxVD (.dic ks (ps.map fun p => D.int p.2)) (.int c) = .ok (.sh (.int ((bstO true (valsF ps)).getD c))) := by
  have e1 : ps.map (fun p => D.int p.2) = (ps.map (·.2)).map D.int := by rw [List.map_map]; rfl
  unfold valsF
  simp only [maxVD, e1, intsD_ints]
  cases ps.map (·.2) <;> rfl
theorem keyTexts_S {α : Type} : ∀ ps : List (Str × α), keyTexts (ps.map kS) = some (keysF ps)
  | [] => rfl
  | p :: r => by
    have ih := keyTexts_S r
    rw [List.map_cons]
    show (keyTexts (r.map kS)).map _ = _
    rw [ih]
    rfl
theorem sort_dicS {α : Type} {ps : List (Str × α)} {xs : List D} {ys : List Str} (h : srtS (keysF ps) = some ys) : sortW [.dic (ps.map kS) xs] = .ok (.lst (ys.map D.str)) := by
  unfold srtS at h
  split at h
  · rename_i hl
    cases h
    show (match keyTexts (ps.map kS) with
      | some zs => if zs.length < 64 then Res.ok (W.lst ((sortS zs).map D.str)) else .st
      | none => .st) = _
    rw [keyTexts_S]
    simp only
    rw [if_pos hl]
  · cases h
theorem list_dicS {α : Type} {ps : List (Str × α)} {xs : List D} : listD [.dic (ps.map kS) xs] = .ok (.lst ((keysF ps).map D.str)) := by
  show Res.ok (W.lst ((ps.map kS).map kD)) = _
  unfold keysF
  rw [List.map_map, List.map_map]
  rfl
def bstB (gt : Bool) : List Bool → Option Bool
  | [] => none
  | b :: bs => some (bestB gt b bs)
theorem boolsD_bools : ∀ bs : List Bool, boolsD (bs.map D.bl) = some bs
  | [] => rfl
  | b :: r => by
    show (boolsD (r.map D.bl)).map _ = _
    rw [boolsD_bools r]
    rfl
theorem mm_bools {gt : Bool} {bs : List Bool} {y : Bool} (h : bstB gt bs = some y) : mmD gt [.lst (bs.map D.bl)] = .ok (.sh (.bl y)) := by
  cases bs with
  | nil => cases h
  | cons b bs =>
    cases h
    show (match bestL gt ((b :: bs).map D.bl) with
      | some (some d) => Res.ok (W.sh d)
      | _ => .st) = _
    have e : bestL gt ((b :: bs).map D.bl) = some (some (.bl (bestB gt b bs))) := by
      unfold bestL
      rw [boolsD_bools]
      rfl
    rw [e]
end Ly

set_option Elab.async false
set_option linter.all false
set_option maxRecDepth 100000
/-! LyY5: kept expressions, on typed data. -/
namespace Ly
open PySem L2 PyProof.Rows
@[simp] theorem s_mKeep {e : En} (m : En → Res W) : mKeep m e = onlyFlat (m (fzA e)) := rfl
@[simp] theorem s_fzA_nil : fzA [] = [] := rfl
@[simp] theorem s_fzA_some (w : W) (r : En) : fzA (some w :: r) = some (.sh w.toD) :: fzA r := rfl
@[simp] theorem s_fzA_none (r : En) : fzA (none :: r) = none :: fzA r := rfl
theorem goes_fix {Q : Fl → Prop} {F : List Nat} {m : En → Res Fl} {e e1 e2 : En} (h : m e = .ok (.nx e1)) (hf : fz F e1 = e2) (q : Q (.nx e2)) : Goes Q (mFix F m e) := by
  refine ⟨.nx e2, ?_, q⟩
  unfold mFix
  rw [h]
  show Res.ok (Fl.nx (fz F e1)) = _
  rw [hf]
@[simp] theorem s_mFix {e : En} (F : List Nat) (m : En → Res Fl) : mFix F m e = (m e).map fun f => match f with
  | .nx e => .nx (fz F e)
  | f => f := rfl
@[simp] theorem x_isi_dict_int {ks : List Key} {xs : List D} : isiD [(D.dic ks xs), .ty "int"] = .ok (.sh (.bl false)) := by
  rw [v_isi]
  rfl
@[simp] theorem x_isi_non_int : isiD [D.non, .ty "int"] = .ok (.sh (.bl false)) := by
  rw [v_isi]
  rfl
@[simp] theorem x_isi_dict_bool {ks : List Key} {xs : List D} : isiD [(D.dic ks xs), .ty "bool"] = .ok (.sh (.bl false)) := by
  rw [v_isi]
  rfl
@[simp] theorem x_isi_non_bool : isiD [D.non, .ty "bool"] = .ok (.sh (.bl false)) := by
  rw [v_isi]
  rfl
@[simp] theorem x_isi_dict_str {ks : List Key} {xs : List D} : isiD [(D.dic ks xs), .ty "str"] = .ok (.sh (.bl false)) := by
  rw [v_isi]
  rfl
@[simp] theorem x_isi_non_str : isiD [D.non, .ty "str"] = .ok (.sh (.bl false)) := by
  rw [v_isi]
  rfl
@[simp] theorem x_isi_dict_list {ks : List Key} {xs : List D} : isiD [(D.dic ks xs), .ty "list"] = .ok (.sh (.bl false)) := by
  rw [v_isi]
  rfl
@[simp] theorem x_isi_non_list : isiD [D.non, .ty "list"] = .ok (.sh (.bl false)) := by
  rw [v_isi]
  rfl
@[simp] theorem x_isi_dict_tuple {ks : List Key} {xs : List D} : isiD [(D.dic ks xs), .ty "tuple"] = .ok (.sh (.bl false)) := by
  rw [v_isi]
  rfl
@[simp] theorem x_isi_non_tuple : isiD [D.non, .ty "tuple"] = .ok (.sh (.bl false)) := by
  rw [v_isi]
  rfl
@[simp] theorem x_isi_dict_dict {ks : List Key} {xs : List D} : isiD [(D.dic ks xs), .ty "dict"] = .ok (.sh (.bl true)) := by
  rw [v_isi]
  rfl
@[simp] theorem x_isi_non_dict : isiD [D.non, .ty "dict"] = .ok (.sh (.bl false)) := by
  rw [v_isi]
  rfl
@[simp] theorem x_isi_int_dict {i : Int} : isiD [(D.int i), .ty "dict"] = .ok (.sh (.bl false)) := by
  rw [v_isi]
  rfl
@[simp] theorem x_isi_bool_dict {i : Bool} : isiD [(D.bl i), .ty "dict"] = .ok (.sh (.bl false)) := by
  rw [v_isi]
  rfl
@[simp] theorem x_isi_str_dict {i : Str} : isiD [(D.str i), .ty "dict"] = .ok (.sh (.bl false)) := by
  rw [v_isi]
  rfl
@[simp] theorem x_isi_list_dict {i : List D} : isiD [(D.lst i), .ty "dict"] = .ok (.sh (.bl false)) := by
  rw [v_isi]
  rfl
@[simp] theorem x_isi_tuple_dict {i : List D} : isiD [(D.tup i), .ty "dict"] = .ok (.sh (.bl false)) := by
  rw [v_isi]
  rfl
end Ly

set_option Elab.async false
set_option linter.all false
set_option maxRecDepth 100000
/-! LyY6: lists of own lists, on typed data. -/
namespace Ly
open PySem L2 PyProof.Rows
def wOf : D → W
  | .lst xs => .lst xs
  | .dic ks xs => .dic ks xs
  | .dit ks xs => .dit ks xs
  | d => .sh d
theorem wOf_toD (d : D) : (wOf d).toD = d := by cases d <;> rfl
def nstW {α : Type} (e : α → D) (xs : List α) : W := .nst (xs.map fun y => wOf (e y))
theorem toDs_wOf {α : Type} (e : α → D) : ∀ xs : List α, W.toDs (xs.map fun y => wOf (e y)) = xs.map e
  | [] => rfl
  | x :: r => by
    rw [List.map_cons, List.map_cons, W.toDs, wOf_toD, toDs_wOf e r]
@[simp] theorem nstW_toD {α : Type} (e : α → D) (xs : List α) : (nstW e xs).toD = .lst (xs.map e) := by
  unfold nstW
  rw [W.toD, toDs_wOf]
def napA (o : Option (Option W)) (kd : D) : Bool := match nestP o, kd with
  | some ws, .int n => match ixN ws.length n with
    | some j => match ws[j]? with
      | some (.lst _) => true
      | _ => false
    | none => false
  | _, _ => false
def napR (o : Option (Option W)) (kd : D) (ds : List D) : Option (Option W) := match nestP o, kd, ds with
  | some ws, .int n, [d] => match ixN ws.length n with
    | some j => match ws[j]? with
      | some (.lst xs) => if small xs.length then some (nestS o (ws.set j (.lst (xs ++ [d])))) else none
      | _ => none
    | none => none
  | _, _, _ => none
def napK (o : Option (Option W)) (k : Option W → Res Fl) : Res Fl := match o with
  | some w => k w
  | none => .st
@[simp] theorem napK_some (w : Option W) (k : Option W → Res Fl) : napK (some w) k = k w := rfl
theorem s_mNAppend {e : En} (F : List Nat) (i : Nat) (mk : En → Res D) (ma : En → Res (List D)) : mNAppend F i mk ma e = if (nestP (fz F e)[i]?).isSome = true then (mk (fz F e)).bind fun kd => if napA (fz F e)[i]? kd = true then (ma (fz F e)).bind fun ds => napK (napR (fz F e)[i]? kd ds) fun w => .ok (.nx ((fz F e).set i w)) else .st else .st := by
  unfold mNAppend
  cases en : nestP (fz F e)[i]? with
  | none => rfl
  | some ws =>
    simp only [Option.isSome_some, if_true]
    congr 1
    funext kd
    unfold napA napR
    rw [en]
    cases kd with
    | int n =>
      rcases hj : ixN ws.length n with _ | j
      · simp [hj]
      · rcases hx : ws[j]? with _ | w
        · simp [hj, hx]
        · cases w with
          | lst xs =>
            simp only [hj, hx, if_true]
            congr 1
            funext ds
            rcases ds with _ | ⟨d, _ | ⟨_, _⟩⟩
            · rfl
            · by_cases hs : small xs.length = true
              · simp only [hj, hx, hs, if_true]; rfl
              · simp only [hj, hx, if_neg hs]; rfl
            · rfl
          | _ => simp [hj, hx]
    | _ => rfl
def apN {α : Type} (xs : List (List α)) (k : Int) (x : α) : Option (List (List α)) := (ixN xs.length k).bind fun j => (xs[j]?).bind fun l => if small l.length = true then some (xs.set j (l ++ [x])) else none
@[simp] theorem nstW_nest {α : Type} (e : α → D) (xs : List α) : (nestP (some (some (nstW e xs)))).isSome = true := rfl
theorem apN_some {α : Type} {e : List α → D} {el : α → D} (he : ∀ l, e l = .lst (l.map el)) {xs ys : List (List α)} {k : Int} {x : α} (h : apN xs k x = some ys) : napA (some (some (nstW e xs))) (.int k) = true ∧ napR (some (some (nstW e xs))) (.int k) [el x] = some (some (nstW e ys)) := by
  unfold apN at h
  obtain ⟨j, hj, h⟩ := Option.bind_eq_some_iff.mp h
  obtain ⟨l, hl, h⟩ := Option.bind_eq_some_iff.mp h
  split at h
  · rename_i hs
    cases h
    have hn : nestP (some (some (nstW e xs))) = some (xs.map fun y => wOf (e y)) := rfl
    have hw : (xs.map fun y => wOf (e y))[j]? = some (.lst (l.map el)) := by
      rw [List.getElem?_map, hl, Option.map_some, he]
      rfl
    unfold napA napR
    rw [hn]
    simp only [List.length_map, hj, hw, hs, if_true]
    refine ⟨trivial, ?_⟩
    show some (some (W.nst _)) = _
    unfold nstW
    rw [List.map_set, he, List.map_append]
    rfl
  · cases h
/-- empty lists, as many as told -/
def nilsO {α : Type} (n : Int) : Option (List (List α)) := if small n.toNat = true then some (List.replicate n.toNat []) else none
theorem nils_run {mg : D → En → Res En} (hg : ∀ d e, ∃ e', mg d e = .ok e') (env : En) : ∀ ds : List D, runCW mg mTrue (mLst mNil) ds env = .ok (List.replicate ds.length (.lst []))
  | [] => rfl
  | d :: r => by
    obtain ⟨e', he⟩ := hg d env
    show (mg d env).bind _ = _
    rw [he, Res.bind_ok]
    show ((Res.ok true).bind _ : Res (List W)) = _
    rw [Res.bind_ok, if_pos rfl]
    show ((Res.ok (W.lst [])).bind _ : Res (List W)) = _
    rw [Res.bind_ok, nils_run hg env r]
    rfl
section
variable {κ α : Type} [DecidableEq κ] {kf : κ × α → List Key} {kk : κ → List Key} {e : α → D}
theorem dict_T (h : KeyF kf kk) {E : κ × α → D} {kd : κ → List D} (hE : ∀ p, E p = D.tup [.tup (kd p.1), e p.2]) (hk : ∀ k, toKs (kd k) = some (kk k)) {xs : List (κ × α)} : dictTD [.lst (xs.map E)] = .ok (.dit ((dmk xs).map kf) ((dmk xs).map fun p => e p.2)) := by
  have h1 : ∀ xs : List (κ × α), pairsT (xs.map E) = some (xs.map fun p => (kf p, e p.2)) := by
    intro xs
    induction xs with
    | nil => rfl
    | cons x r ih =>
      rw [List.map_cons, hE]
      show ((toKs (kd x.1)).map fun key => (key, e x.2)).bind (fun p => (pairsT (r.map E)).map fun ps => p :: ps) = _
      rw [ih, hk, List.map_cons, h.eq x]
      rfl
  show (match pairsT (xs.map E) with
    | some ps => Res.ok (W.dit (mergeG [] [] ps).1 (mergeG [] [] ps).2)
    | none => Res.st) = _
  rw [h1]
  simp only
  have := merge_kk (e := e) h xs [] .nil
  simp only [List.map_nil] at this
  rw [this]
  rfl
end
end Ly

set_option Elab.async false
set_option linter.all false
set_option maxRecDepth 100000
/-! LyY7: while, own things or None, a.append(b.pop(i)), targets that put, wide products, >>: on typed data. -/
namespace Ly
open PySem L2 PyProof.Rows
def wO {α : Type} (f : α → W) : Option α → W
  | some a => f a
  | none => .sh .non
@[simp] theorem wO_none {α : Type} (f : α → W) : wO f none = .sh .non := rfl
@[simp] theorem wO_some {α : Type} (f : α → W) (a : α) : wO f (some a) = f a := rfl
theorem wO_toD {α : Type} {f : α → W} {e : α → D} (h : ∀ a, (f a).toD = e a) (o : Option α) : (wO f o).toD = eO e o := by
  cases o with
  | none => rfl
  | some a => exact h a
section
variable {σ ρ : Type}
def runWB (c : σ → Option Bool) (f : σ → Option (Bo σ ρ)) : Nat → σ → Option (Bo σ ρ)
  | 0, _ => none
  | n + 1, s => (c s).bind fun b => if b = true then (f s).bind fun o => match o with
      | .nx s => runWB c f n s
      | .bk s => some (.nx s)
      | .rt r => some (.rt r)
    else some (.nx s)
open Classical in
noncomputable def whB (c : σ → Option Bool) (f : σ → Option (Bo σ ρ)) (s : σ) : Option (Bo σ ρ) := if h : ∃ n, (runWB c f n s).isSome = true then runWB c f (Classical.choose h) s else none
theorem runWB_more {c : σ → Option Bool} {f : σ → Option (Bo σ ρ)} : ∀ (n m : Nat) (s : σ) (o : Bo σ ρ), n ≤ m → runWB c f n s = some o → runWB c f m s = some o
  | 0, _, _, _, _, h => by cases h
  | n + 1, 0, _, _, hl, _ => by omega
  | n + 1, m + 1, s, o, hl, h => by
    unfold runWB at h ⊢
    obtain ⟨b, hb, h⟩ := Option.bind_eq_some_iff.mp h
    rw [hb, Option.bind_some]
    cases b with
    | false => exact h
    | true =>
      rw [if_pos rfl] at h ⊢
      obtain ⟨p, hp, h⟩ := Option.bind_eq_some_iff.mp h
      rw [hp, Option.bind_some]
      cases p with
      | nx s' => exact runWB_more n m s' o (by omega) h
      | bk s' => exact h
      | rt r => exact h
theorem whB_of {c : σ → Option Bool} {f : σ → Option (Bo σ ρ)} {s : σ} {o : Bo σ ρ} (n : Nat) (h : runWB c f n s = some o) : whB c f s = some o := by
  have hh : ∃ n, (runWB c f n s).isSome = true := ⟨n, by rw [h]; rfl⟩
  unfold whB
  rw [dif_pos hh]
  obtain ⟨p, hp⟩ := Option.isSome_iff_exists.mp (Classical.choose_spec hh)
  have h1 := runWB_more _ (max n (Classical.choose hh)) s o (Nat.le_max_left _ _) h
  have h2 := runWB_more _ (max n (Classical.choose hh)) s p (Nat.le_max_right _ _) hp
  rw [h1] at h2
  rw [hp, h2]
theorem whB_run {c : σ → Option Bool} {f : σ → Option (Bo σ ρ)} {s : σ} {o : Bo σ ρ} (h : whB c f s = some o) : ∃ n, runWB c f n s = some o := by
  unfold whB at h
  split at h
  · exact ⟨_, h⟩
  · cases h
theorem run_whB {c : σ → Option Bool} {f : σ → Option (Bo σ ρ)} {F : List Nat} {mc : En → Res Bool} {mb : En → Res Fl} (R : σ → En → Prop) (wr : ρ → W)
    (hR : ∀ s env, R s env → R s (fz F env)) (cond : ∀ s b env, R s env → c s = some b → mc (fz F env) = .ok b)
    (step : ∀ s o env, R s env → c s = some true → f s = some o → Goes (LB R wr o) (mb (fz F env))) :
    ∀ (n : Nat) (s : σ) (o : Bo σ ρ) (env : En), R s env → runWB c f n s = some o → (∃ s' env', runW F mc mb n env = .ok (.nx env') ∧ o = .nx s' ∧ R s' env') ∨ ∃ r, runW F mc mb n env = .ok (.rt (wr r)) ∧ o = .rt r
  | 0, _, _, _, _, h => by cases h
  | n + 1, s, o, env, h0, h => by
    unfold runWB at h
    obtain ⟨b, hb, h⟩ := Option.bind_eq_some_iff.mp h
    unfold runW
    rw [cond s b env h0 hb, Res.bind_ok]
    cases b with
    | false =>
      cases h
      exact .inl ⟨s, fz F env, rfl, rfl, hR s env h0⟩
    | true =>
      rw [if_pos rfl] at h ⊢
      obtain ⟨p, hp, h⟩ := Option.bind_eq_some_iff.mp h
      obtain ⟨fl, h1, h2⟩ := step s p env h0 hb hp
      rw [h1, Res.bind_ok]
      cases p with
      | nx t =>
        cases fl with
        | nx e => exact run_whB R wr hR cond step n t o e h2 h
        | ct e => exact run_whB R wr hR cond step n t o e h2 h
        | bk e => cases h2
        | rt w => cases h2
      | bk t =>
        cases h
        cases fl with
        | bk e => exact .inl ⟨t, e, rfl, rfl, h2⟩
        | nx e => cases h2
        | ct e => cases h2
        | rt w => cases h2
      | rt r =>
        cases h
        cases fl with
        | rt w => exact .inr ⟨r, by rw [show w = wr r from h2], rfl⟩
        | nx e => cases h2
        | ct e => cases h2
        | bk e => cases h2
theorem goes_whB {c : σ → Option Bool} {f : σ → Option (Bo σ ρ)} {F : List Nat} {mc : En → Res Bool} {mb : En → Res Fl} {env : En} {Q : Fl → Prop} {s : σ} {o : Bo σ ρ} (R : σ → En → Prop) (wr : ρ → W) (h0 : R s env)
    (hR : ∀ s env, R s env → fz F env = env) (cond : ∀ s b env, R s env → c s = some b → mc env = .ok b)
    (step : ∀ s o env, R s env → f s = some o → Goes (LB R wr o) (mb env))
    (h : whB c f s = some o) (k : ∀ s' env', o = .nx s' → R s' env' → Q (.nx env')) (kr : ∀ r, o = .rt r → Q (.rt (wr r))) : Goes Q (mWhile F mc mb env) := by
  obtain ⟨n, hn⟩ := whB_run h
  rcases run_whB R wr (fun s env q => by rw [hR s env q]; exact q) (fun s b env q hc => by rw [hR s env q]; exact cond s b env q hc) (fun s o env q _ hf => by rw [hR s env q]; exact step s o env q hf) n s o env h0 hn with ⟨s', env', h1, h2, h3⟩ | ⟨r, h1, h2⟩
  · exact ⟨.nx env', mWhile_of n h1 (fun z => by cases z), k s' env' h2 h3⟩
  · exact ⟨.rt (wr r), mWhile_of n h1 (fun z => by cases z), kr r h2⟩
end
/-! products and shifts -/
def muW (a b : Int) : Option Int := if wide4 a ∧ wide4 b then some (a * b) else none
theorem muW_some {a b c : Int} (h : muW a b = some c) : mulWD (.int a) (.int b) = .ok (.int c) := by
  unfold muW at h
  split at h
  · rename_i hc
    cases h
    show (if wide4 a ∧ wide4 b then Res.ok (D.int (a * b)) else .st) = _
    rw [if_pos hc]
  · cases h
def shI (a b : Int) : Option Int := if 0 ≤ b then some (a / 2 ^ b.toNat) else none
theorem shI_some {a b c : Int} (h : shI a b = some c) : shrD (.int a) (.int b) = .ok (.int c) := by
  unfold shI at h
  split at h
  · rename_i hc
    cases h
    show (if 0 ≤ b then Res.ok (D.int (a / 2 ^ b.toNat)) else .st) = _
    rw [if_pos hc]
  · cases h
def poI (a b : Int) : Option Int := if 0 ≤ b ∧ b ≤ 1000000 ∧ -(2 ^ 64) < a ∧ a < 2 ^ 64 then some (a ^ b.toNat) else none
theorem poI_some {a b c : Int} (h : poI a b = some c) : powD (.int a) (.int b) = .ok (.int c) := by
  unfold poI at h
  split at h
  · rename_i hc
    cases h
    show (if 0 ≤ b ∧ b ≤ 1000000 ∧ -(2 ^ 64) < a ∧ a < 2 ^ 64 then Res.ok (D.int (a ^ b.toNat)) else .st) = _
    rw [if_pos hc]
  · cases h
/-! a.append(b.pop(i)) -/
def appPopO (xs ys : List D) (ds : List D) : Option (List D × List D) := match ds with
  | [.int n] => match popD ys n with
    | some (d, zs) => if small xs.length then some (xs ++ [d], zs) else none
    | none => none
  | _ => none
def apK (o : Option (List D × List D)) (k : List D → List D → Res Fl) : Res Fl := match o with
  | some (a, b) => k a b
  | none => .st
@[simp] theorem apK_some (a b : List D) (k : List D → List D → Res Fl) : apK (some (a, b)) k = k a b := rfl
theorem s_mAppPop {e : En} (F : List Nat) (i j : Nat) (ma : En → Res (List D)) (hij : i ≠ j) : mAppPop F i j ma e = match (fz F e)[i]?, (fz F e)[j]? with
  | some (some (.lst xs)), some (some (.lst ys)) => (noX (ma (fz F e))).bind fun ds => apK (appPopO xs ys ds) fun a b => .ok (.nx (((fz F e).set j (some (.lst b))).set i (some (.lst a))))
  | _, _ => .st := by
  unfold mAppPop
  rw [if_neg hij]
  generalize (fz F e)[i]? = oi
  generalize (fz F e)[j]? = oj
  cases oi with
  | none => rfl
  | some o =>
    cases o with
    | none => rfl
    | some w =>
      cases w with
      | lst xs =>
        cases oj with
        | none => rfl
        | some o2 =>
          cases o2 with
          | none => rfl
          | some w2 =>
            cases w2 with
            | lst ys =>
              show ((noX (ma (fz F e))).bind _) = ((noX (ma (fz F e))).bind _)
              congr 1
              funext ds
              cases ds with
              | nil => rfl
              | cons d r =>
                cases r with
                | cons _ _ => cases d <;> rfl
                | nil =>
                  cases d with
                  | int n =>
                    unfold appPopO
                    rcases hp : popD ys n with _ | ⟨d, zs⟩
                    · simp only [hp]; rfl
                    · by_cases hs : small xs.length = true
                      · simp only [hp, hs, if_true]; rfl
                      · simp only [hp, if_neg hs]; rfl
                  | _ => rfl
            | _ => rfl
      | _ => rfl
@[simp] theorem noX_is {α : Type} (a : α) : noX (Res.ok a) = .ok a := rfl
/-! own or None -/
@[simp] theorem wOf_lst (xs : List D) : wOf (.lst xs) = .lst xs := rfl
@[simp] theorem wOf_dic (ks : List Key) (xs : List D) : wOf (.dic ks xs) = .dic ks xs := rfl
@[simp] theorem wOf_dit (ks : List (List Key)) (xs : List D) : wOf (.dit ks xs) = .dit ks xs := rfl
def wOo {α : Type} (f : α → D) : Option α → W
  | some a => wOf (f a)
  | none => .sh .non
@[simp] theorem wOo_none {α : Type} (f : α → D) : wOo f none = .sh .non := rfl
@[simp] theorem wOo_some {α : Type} (f : α → D) (a : α) : wOo f (some a) = wOf (f a) := rfl
@[simp] theorem wOo_toD {α : Type} (f : α → D) (o : Option α) : (wOo f o).toD = eO f o := by
  cases o with
  | none => rfl
  | some a => exact wOf_toD (f a)
theorem isi_O {α : Type} {f : α → D} {t : String} {b : Bool} (h : ∀ a, isiD [f a, .ty t] = .ok (.sh (.bl b))) (h0 : isiD [.non, .ty t] = .ok (.sh (.bl false))) (o : Option α) : isiD [eO f o, .ty t] = .ok (.sh (.bl (o.isSome && b))) := by
  cases o with
  | none => exact h0
  | some a => exact h a
theorem appPop_fact {α : Type} {e : α → D} {xs ys zs : List α} {n : Int} {q : α × List α} (hp : popL ys n = some q) (ha : apL xs q.1 = some zs) : appPopO (xs.map e) (ys.map e) [.int n] = some (zs.map e, q.2.map e) := by
  unfold apL at ha
  split at ha
  · rename_i hs
    cases ha
    unfold appPopO
    simp only [popD_map hp, List.length_map, hs, if_true, List.map_append, List.map_cons, List.map_nil]
  · cases ha
/-! unpacked -/
def unp2 {α : Type} : List α → Option (α × α)
  | [a, b] => some (a, b)
  | _ => none
theorem unp2_map {α : Type} {e : α → D} {xs : List α} {q : α × α} (h : unp2 xs = some q) : xs.map e = [e q.1, e q.2] := by
  unfold unp2 at h
  split at h
  · cases h; rfl
  · cases h
@[simp] theorem s_mGUnl {n : Nat} (m : List D → En → Res En) (xs : List D) (e : En) : mGUnl n m (.lst xs) e = if xs.length = n then m xs e else .st := rfl
@[simp] theorem s_mAsgP {Mu ts F : List Nat} (me : En → Res W) (mg : D → En → Res En) (e : En) : mAsgP Mu ts F me mg e = if ts.all (free0 Mu) then (mD me (fz F e)).bind fun d => (mg d (fz F e)).map .nx else .st := rfl
@[simp] theorem s_mGDSub (i : Nat) (mk : En → Res D) (d : D) (e : En) : mGDSub i mk d e = match e[i]? with
  | some (some w) => (noX (mk e)).bind fun kd => (noX (putDic kd d w)).map fun w' => e.set i (some w')
  | _ => .st := rfl
@[simp] theorem s_mGLSub (i : Nat) (mk : En → Res D) (d : D) (e : En) : mGLSub i mk d e = match e[i]? with
  | some (some (.lst xs)) => (noX (mk e)).bind fun k => (match lsetR xs k d with
    | some ys => .ok (e.set i (some (.lst ys)))
    | none => .st)
  | _ => .st := by
  unfold mGLSub
  cases e[i]? with
  | none => rfl
  | some o =>
    cases o with
    | none => rfl
    | some w =>
      cases w with
      | lst xs =>
        show ((noX (mk e)).bind _) = ((noX (mk e)).bind _)
        congr 1
        funext k
        cases k <;> try rfl
        rename_i n
        show (match ixN xs.length n with
          | some j => Res.ok (List.set e i (some (W.lst (xs.set j d))))
          | none => Res.st) = match (ixN xs.length n).map fun j => xs.set j d with
          | some ys => Res.ok (List.set e i (some (W.lst ys)))
          | none => .st
        cases ixN xs.length n <;> rfl
      | _ => rfl
@[simp] theorem s_mLstN {e : En} (ma : En → Res (List W)) : mLstN ma e = (ma e).bind fun ds => if small ds.length then .ok (.nst ds) else .st := rfl
@[simp] theorem s_mNNil {e : En} : mNNil e = .ok [] := rfl
@[simp] theorem s_mNCons {e : En} (m : En → Res W) (mr : En → Res (List W)) : mNCons m mr e = (m e).bind fun d => (mr e).map fun ds => d :: ds := rfl
/-! slots made stable behind a loop -/
def fixF (F : List Nat) : Fl → Fl
  | .nx e => .nx (fz F e)
  | f => f
theorem goes_fixG {Q : Fl → Prop} {F : List Nat} {m : En → Res Fl} {e : En} (h : Goes (fun f => Q (fixF F f)) (m e)) : Goes Q (mFix F m e) := by
  obtain ⟨f, h1, h2⟩ := h
  refine ⟨fixF F f, ?_, h2⟩
  unfold mFix
  rw [h1]
  cases f <;> rfl
theorem fix_nx {Q : Fl → Prop} {F : List Nat} {e e' : En} (hf : fz F e = e') (h : Q (.nx e')) : Q (fixF F (.nx e)) := by
  subst hf
  exact h
theorem rng1_of {m : En → Res (List D)} {e : En} {n : Int} {r : List Int} (hm : m e = .ok [.int n]) (h : rg1 n = some r) : mRng1 m e = .ok (r.map D.int) := by
  show (m e).bind rng1D = _
  rw [hm]
  exact rg1_some h
theorem rng2_of {m : En → Res (List D)} {e : En} {a n : Int} {r : List Int} (hm : m e = .ok [.int a, .int n]) (h : rg2 a n = some r) : mRng2 m e = .ok (r.map D.int) := by
  show (m e).bind rng2D = _
  rw [hm]
  exact rg2_some h
theorem imm_O {α : Type} {f : α → D} (h : ∀ a, immD (f a) = true) (o : Option α) : immD (eO f o) = true := by
  cases o with
  | none => rfl
  | some a => exact h a
theorem m_wOo {α : Type} {f : α → D} {o : Option α} {i : Nat} {e : En} (h : e[i]? = some (some (wOo f o))) : mVarV i e = .ok (eO f o) := by
  unfold mVarV
  rw [h]
  cases o with
  | none => rfl
  | some a =>
    show (match some (some (wOf (f a))) with
      | some (some (.obj _ _ _)) => Res.st
      | some (some (.nst _)) => .st
      | some (some (.ntp _)) => .st
      | some (some w) => .ok w.toD
      | _ => .st) = Res.ok (f a)
    cases f a <;> rfl
def immO (d : D) : Option Unit := if immD d = true then some () else none
theorem immO_some {d : D} {u : Unit} (h : immO d = some u) : immD d = true := by
  unfold immO at h
  split at h
  · assumption
  · cases h
/-- a call of what may be own or None -/
theorem call_opt {n : Nat} {f : List D → Res W} {ma mx : En → Res (List D)} {env : En} {ds : List D} {w : W} (he : ma env = .st ∨ ma env = .ok ds) (hx : mx env = .ok ds) (hl : ds.length = n) (hf : f ds = .ok w) (hw : flatW w = true) : mCall n f ma mx env = .ok w := by
  have ha : asked n f ds = .ok w := by
    unfold asked
    rw [if_pos hl, hf]
  unfold mCall
  rcases he with he | he
  · rw [he, hx]
    show onlyFlat (asked n f ds) = _
    rw [ha]
    simp only [onlyFlat, hw, if_true]
  · rw [he]
    exact ha
end Ly

set_option Elab.async false
set_option linter.all false
/-! LyY8: lists of what may be None, those that are there -/
namespace Ly
open PySem L2 PyProof.Rows
theorem filO_id {α : Type} : ∀ xs : List (Option α), filO (fun (o : Option α) => some o) xs = some (List.filterMap (fun (o : Option α) => o) xs)
  | [] => rfl
  | x :: xs => by
    have ih := filO_id xs
    unfold filO
    rw [ih]
    cases x <;> rfl
@[simp] theorem v_lendic (ks : List Key) (xs : List D) : lenD [.dic ks xs] = .ok (.sh (.int ks.length)) := rfl
@[simp] theorem v_isDdic (ks : List Key) (xs : List D) : isD (.dic ks xs) .non = .ok (.bl false) := rfl
@[simp] theorem v_isntDdic (ks : List Key) (xs : List D) : isntD (.dic ks xs) .non = .ok (.bl true) := rfl
@[simp] theorem s_mExtend (F : List Nat) (i : Nat) (ma : En → Res (List D)) (e : En) : mExtend F i ma e = match (fz F e)[i]? with
    | some (some (.lst xs)) => (ma (fz F e)).bind fun ds => match ds with
      | [.lst ys] => if small (xs.length + ys.length) then .ok (.nx ((fz F e).set i (some (.lst (xs ++ ys))))) else .st
      | _ => .st
    | _ => .st := rfl
end Ly

set_option Elab.async false
set_option linter.all false
set_option maxRecDepth 100000
/-! LyN9: != of tuples that hold dicts, told by their parts up to the first that differs. -/
namespace PySem.SeqAt
section
open AutoSeq1 (wpAny_loadPart')
open MeetsSeq MeetsSeq2 MeetsSeq3 SeqRoads2
variable {prog : Program} {w : World}
/-- parts are looked at up to the first unlike one -/
theorem lyNeTup (p q : Addr) (us ws : Array Value) (m1 m2 : Nat) (d1 d2 : Option Addr) (t1 t2 : Array (Option Value)) (f : Nat → Bool) :
    MeetsIn prog w (Builtin.«tuple.__ne__» ⟨[.ref p, .ref q], []⟩)
      (fun A R s => s.heap.get? p = some { cls := .type "tuple", dict := d1, data := .seq us m1, slots := t1 } ∧ s.heap.get? q = some { cls := .type "tuple", dict := d2, data := .seq ws m2, slots := t2 } ∧
        (∀ j (h1 : j < us.size) (h2 : j < ws.size), (∀ i < j, f i = true) → EqIn prog w A.in1 s us[j] ws[j] (f j)) ∧
        R (.ok (.ret (.bool (!((List.range (min us.size ws.size)).all f && us.size == ws.size))))) s) :=
  .of_wp fun A R s G => by
    obtain ⟨hp, gl, dd, tk, os⟩ := s; obtain ⟨hl, hb, parts, fin⟩ := G
    have f2 := AutoSeq1.sub_tuple_tuple
    have zl : (us.toList.zip ws.toList).length = min us.size ws.size := by simp
    wp_walk using wpAny_loadPart' hl, wpAny_loadPart' hb, wpAny_forIn_list _ (fun rest r st => r.1 = none ∧ st = ⟨hp, gl, dd, tk, os⟩ ∧ ∃ i, rest = (us.toList.zip ws.toList).drop i ∧ (∀ j < i, f j = true) ∧
      R (.ok (.ret (.bool (!(((List.range (min us.size ws.size)).drop i).all f && us.size == ws.size))))) ⟨hp, gl, dd, tk, os⟩) _
    case turn =>
      rintro ⟨y, x⟩ rest r st ⟨hr, rfl, i, hz, before, hR⟩
      have hlt : i < (us.toList.zip ws.toList).length := by
        cases Nat.lt_or_ge i (us.toList.zip ws.toList).length with
        | inl a => exact a
        | inr a => rw [List.drop_of_length_le a] at hz; cases hz
      have hm : i < min us.size ws.size := zl ▸ hlt
      have g1 : i < us.size := Nat.lt_of_lt_of_le hm (Nat.min_le_left _ _)
      have g2 : i < ws.size := Nat.lt_of_lt_of_le hm (Nat.min_le_right _ _)
      rw [List.drop_eq_getElem_cons hlt] at hz
      injection hz with pair tail
      have hy : y = us[i] := by have := congrArg (fun z => z.1) pair; simpa using this
      have hx : x = ws[i] := by have := congrArg (fun z => z.2) pair; simpa using this
      subst hy hx
      rw [show (List.range (min us.size ws.size)).drop i = i :: (List.range (min us.size ws.size)).drop (i + 1) by simp [List.drop_eq_getElem_cons, hm], List.all_cons] at hR
      refine wpAny_bind (parts i g1 g2 before _ _ ?_)
      cases hf : f i with
      | true =>
        rw [hf] at hR
        wp_walk
        refine ⟨rfl, rfl, i + 1, tail, fun j hj => ?_, by simpa using hR⟩
        rcases Nat.lt_succ_iff_lt_or_eq.mp hj with a | a
        · exact before j a
        · rw [a]; exact hf
      | false =>
        rw [hf] at hR
        wp_walk
        exact ⟨_, rfl, by simpa using hR⟩
    case fin =>
      rintro ⟨r1, r2⟩ st ⟨hr, rfl, i, hz, before, hR⟩
      simp only at hr
      subst hr
      have hge : min us.size ws.size ≤ i := by
        cases Nat.lt_or_ge i (us.toList.zip ws.toList).length with
        | inl a => rw [List.drop_eq_getElem_cons a] at hz; cases hz
        | inr a => exact zl ▸ a
      rw [List.drop_of_length_le (by simpa using hge)] at hR
      wp_walk
      exact ⟨_, rfl, by simpa [Builtin.Tuple.tupleCompareSizes, bne] using hR⟩
    case h =>
      exact ⟨rfl, rfl, 0, rfl, fun j hj => absurd hj (Nat.not_lt_zero _), by simpa using fin⟩
theorem lyRcNe {A : Around} {s : Shared} {E Q : Value → Shared → Prop} {p q : Addr} {us ws : Array Value} {f : Nat → Bool} (hl : s.heap.IsTuple p us) (hb : s.heap.IsTuple q ws) (hu : A.units < cLine)
    (parts : ∀ j (h1 : j < us.size) (h2 : j < ws.size), (∀ i < j, f i = true) → EqIn prog w A.in1 s us[j] ws[j] (f j)) (h : Q (.bool (!((List.range (min us.size ws.size)).all f && us.size == ws.size))) s) :
    wpAny (model prog w) A (richCompare .NotEq (.ref p) (.ref q)) Q E s := by
  obtain ⟨⟨c1, d1, a1, t1⟩, ho, hc, m1, hd⟩ := id hl
  obtain ⟨⟨c2, d2, a2, t2⟩, ho2, hc2, m2, hd2⟩ := id hb
  simp only at hc hd hc2 hd2
  subst hc
  subst hd
  subst hc2
  subst hd2
  refine wpAny_richCompare_same_room (T := "tuple") (op := .NotEq) ⟨_, ho, rfl⟩ ⟨_, ho2, rfl⟩ F.slot_tuple_ne (call_meetsIn F.slot_tuple_ne ⟨_, ho, rfl⟩ F.entry_tuple_ne (F.args_tuple_ne_2 _ _) (lyNeTup p q us ws m1 m2 d1 d2 t1 t2 f) ⟨ho, ho2, parts, ?_⟩) hu
  exact show Value.bool (!((List.range (min us.size ws.size)).all f && us.size == ws.size)) ≠ Value.notImplemented ∧ Q (.bool (!((List.range (min us.size ws.size)).all f && us.size == ws.size))) s from ⟨(fun x => nomatch x), h⟩
end
end PySem.SeqAt
namespace Ly
open PySem L2 PyProof.Rows
section
variable {K : PySem.W.Frag}
def tupNe : List D → List D → Option Bool
  | [], [] => some false
  | x :: xs, y :: ys => if shl x && shl y && !PyData.eqv (toP x) (toP y) then some true else if deqT 12 x y then tupNe xs ys else none
  | _, _ => none
def fE (xs ys : List D) (j : Nat) : Bool := match xs[j]?, ys[j]? with
  | some x, some y => !(shl x && shl y && !PyData.eqv (toP x) (toP y))
  | _, _ => true
theorem tupNe_at : ∀ (xs ys : List D) (r : Bool), tupNe xs ys = some r → r = (!((List.range (min xs.length ys.length)).all (fE xs ys) && xs.length == ys.length)) ∧ ∀ j x y, xs[j]? = some x → ys[j]? = some y → (∀ i < j, fE xs ys i = true) → fE xs ys j = true → deqT 12 x y = true
  | [], [], r, h => by cases h; exact ⟨rfl, fun j x y e => by simp at e⟩
  | [], y :: ys, r, h => by cases h
  | x :: xs, [], r, h => by cases h
  | x :: xs, y :: ys, r, h => by
    have sh : ∀ j, fE (x :: xs) (y :: ys) (j + 1) = fE xs ys j := fun j => rfl
    have z : fE (x :: xs) (y :: ys) 0 = !(shl x && shl y && !PyData.eqv (toP x) (toP y)) := rfl
    have rg : (List.range (min (x :: xs).length (y :: ys).length)).all (fE (x :: xs) (y :: ys)) = (fE (x :: xs) (y :: ys) 0 && (List.range (min xs.length ys.length)).all (fE xs ys)) := by
      rw [List.length_cons, List.length_cons, show min (xs.length + 1) (ys.length + 1) = min xs.length ys.length + 1 by omega, List.range_succ_eq_map, List.all_cons, List.all_map]
      rfl
    have ln : ((x :: xs).length == (y :: ys).length) = (xs.length == ys.length) := by
      rw [List.length_cons, List.length_cons]
      simp
    rw [rg, ln, z]
    unfold tupNe at h
    cases hc : (shl x && shl y && !PyData.eqv (toP x) (toP y)) with
    | true =>
      rw [hc, if_pos rfl] at h
      cases h
      refine ⟨rfl, fun j a b e1 e2 before hj => ?_⟩
      cases j with
      | zero => rw [z, hc] at hj; cases hj
      | succ j => have := before 0 (Nat.succ_pos _); rw [z, hc] at this; cases this
    | false =>
      rw [hc, if_neg Bool.false_ne_true] at h
      split at h
      · rename_i hd
        obtain ⟨h1, h2⟩ := tupNe_at xs ys r h
        refine ⟨by rw [h1]; rfl, fun j a b e1 e2 before hj => ?_⟩
        cases j with
        | zero => cases e1; cases e2; exact hd
        | succ j => exact h2 j a b e1 e2 (fun i hi => by rw [← sh]; exact before (i + 1) (Nat.succ_lt_succ hi)) (by rw [← sh]; exact hj)
      · cases h
def rNeT (K : PySem.W.Frag) : R2 := fun x y H Q => ∃ xs ys r, Rep K H x (.tup xs) ∧ Rep K H y (.tup ys) ∧ tupNe xs ys = some r ∧ Q (.bl r) H
theorem op_neT {X : Cx} (hK : X.K = K) (hu : X.A.units + 65 < cLine) : OpR X (compareOp .NotEq) (rNeT K) := by
  subst hK
  intro pins s σ H x y v u Q I rx ry h
  obtain ⟨xs, ys, r, ra, rb, ht, q⟩ := h
  obtain ⟨hr, hp⟩ := tupNe_at xs ys r ht
  cases ra with | tup ea qa => ?_
  cases rb with | tup eb qb => ?_
  rename_i p vs p' vs'
  obtain rfl : v = Value.ref p := rx
  obtain rfl : u = Value.ref p' := ry
  obtain ⟨us, r1, p1, _⟩ := I.tuple (SqT.of ea)
  obtain ⟨ws, r2, p2, _⟩ := I.tuple (SqT.of eb)
  have l1 := r1.length; have l2 := r2.length; have l3 : vs.length = xs.length := qa.len; have l4 : vs'.length = ys.length := qb.len
  refine SeqAt.lyRcNe (f := fE xs ys) p1 p2 (by omega) (fun j h1 h2 before => ?_) ?_
  · rw [List.size_toArray] at h1 h2
    have ra := reps_at qa j (by omega) (by omega)
    have rb := reps_at qb j (by omega) (by omega)
    have rv := vals_at r1 j (by omega) h1
    have ru := vals_at r2 j (by omega) h2
    have e1 : xs[j]? = some (xs[j]'(by omega)) := List.getElem?_eq_getElem _
    have e2 : ys[j]? = some (ys[j]'(by omega)) := List.getElem?_eq_getElem _
    rw [List.getElem_toArray, List.getElem_toArray]
    cases hf : fE xs ys j with
    | true =>
      have := (deq_run I 12 _ _ _ _ _ _ (hp j _ _ e1 e2 before hf) ra rb rv ru).tree (by omega)
      exact this.at _ (by show X.A.units + 1 + _ < cLine; omega)
    | false =>
      unfold fE at hf
      rw [e1, e2] at hf
      dsimp only at hf
      rw [Bool.not_eq_false', Bool.and_eq_true, Bool.and_eq_true, Bool.not_eq_true'] at hf
      obtain ⟨⟨s1, s2⟩, s3⟩ := hf
      unfold shl at s1 s2
      rw [Bool.and_eq_true, decide_eq_true_iff] at s1 s2
      obtain ⟨as, qa'⟩ := Dp.reads I _ _ _ (ra.dp _ s1.1) rv
      obtain ⟨bs, qb'⟩ := Dp.reads I _ _ _ (rb.dp _ s2.1) ru
      have := SeqAt.eqAt_reads _ _ X.A.in1 s _ _ as bs qa' qb' s1.1 s2.1 (by
        have := Nat.min_le_left (toP (xs[j]'(by omega))).depth (toP (ys[j]'(by omega))).depth
        show X.A.units + 1 + _ < cLine
        omega)
      rw [s3] at this
      exact this.inModel _ _
  · rw [List.size_toArray, List.size_toArray, ← l1, ← l2, l3, l4, ← hr]
    exact ⟨.bl r, H, I, rfl, q⟩
def rNeZ (K : PySem.W.Frag) : R2 := fun x y H Q => rNeW K x y H Q ∨ rNeT K x y H Q
theorem kz_ne {X : Cx} (K : PySem.W.Frag) (hK : X.K = K) (hu : X.A.units + 65 < cLine) : OpR X (compareOp .NotEq) (rNeZ K) := OpR.or (kx_ne K hK (by omega)) (op_neT hK hu)
def tupNeD : D → D → Option Bool
  | .tup xs, .tup ys => tupNe xs ys
  | _, _ => none
def neZ (a b : D) : Res D := match tupNeD a b with
  | some r => .ok (.bl r)
  | none => neE a b
instance opX_neZ : OpX K (rNeZ K) neZ where
  ok := fun {H v u d e Q z} rv ru h k => by
    unfold neZ at h
    split at h
    · rename_i r hd
      cases h
      unfold tupNeD at hd
      split at hd
      · exact .inr ⟨_, _, r, rv, ru, hd, k _ fun S => .bl _⟩
      · cases hd
    · exact .inl (opX_neE.ok rv ru h k)
  ex := fun h => by
    unfold neZ at h
    split at h
    · cases h
    · exact opX_neE.ex (K := K) h
/-- targets that put, the first one already: looked for ahead of the others -/
instance (priority := high) semS_asgP1 {Mu : List Nat} {E : XK} {te : TE} {F : List Nat} {me : En → Res W} {n i : Nat} {tk : TE} {g : TGs} {ts F1 : List Nat} {mg : D → En → Res En} [h : SemE K E te F me] [hg : SemGP K (gTup K n (gCons (gSub (tVar i) tk rSetL) g)) ts F1 mg] : SemS K Mu E (tAsg te (gTup K n (gCons (gSub (tVar i) tk rSetL) g))) (mAsgP Mu ts (F ++ F1) me mg) := semS_asgP
end
end Ly

set_option Elab.async false
set_option linter.all false
set_option maxRecDepth 100000
/-! LyF: methods that change their own object; a field's list appended to; an early return in a def that changes self; makers with defaults. -/
namespace Ly
open PySem L2 PyProof.Rows
def dels (fp : List Addr) (H : Hp) : Hp := fun a => if a ∈ fp then none else H a
theorem dels_in {fp : List Addr} {H : Hp} {a : Addr} (h : a ∈ fp) : dels fp H a = none := if_pos h
theorem dels_out {fp : List Addr} {H : Hp} {a : Addr} (h : a ∉ fp) : dels fp H a = H a := if_neg h
theorem dels_le {fp : List Addr} {H : Hp} : Same (dels fp H) H := fun a o e => by
  by_cases h : a ∈ fp
  · rw [dels_in h] at e; cases e
  · rw [dels_out h] at e; exact e
def obN (cn : Str) : W → Bool
  | .obj n _ _ => decide (n = cn)
  | _ => false
/-- a method that changes its own object: n parameters beside self; what the object is then; it answers None -/
def spU (K : PySem.W.Frag) (cn : Str) (n : Nat) (g : W → List D → Res W) : Sp := fun vs H Q E => ∃ p us S w0 fp ds, vs = .ref p :: us ∧ us.length = n ∧ Same S H ∧ obN cn w0 = true ∧ Own K S H (.ref p) w0 fp ∧ fp.Nodup ∧ (∀ q ∈ fp, S q = none) ∧ Reps K S us ds ∧ match g w0 ds with
  | .ok w => ∀ S' H' fp', New K S (dels fp H) S' H' (.ref p) w fp' → Q .non H'
  | .ex x => ∀ cls d H', Same (dels fp H) H' → XR K x cls d H' → E cls d H'
  | .st => False
def slotsU (k : Nat) (w : W) (ds : List D) : En := some w :: slots (k - 1) ds
def runU (k : Nat) (m : En → Res Fl) : W → List D → Res W := fun w ds => (m (slotsU k w ds)).bind fun r => match r with
  | .nx e => match e[0]? with
    | some (some w) => .ok w
    | _ => .st
  | _ => .st
section
variable {P : Program} {w : World} {K : PySem.W.Frag} {mg : Str → Option Value} {base : Heap}
theorem meth_start {S H : Hp} {p : Addr} {w0 : W} {fp : List Addr} {us : List V} {ds : List D} {N : List Str} (Mu : List Nat) (h0 : Mu.contains (1000 + 0) = true) (o : Own K S H (.ref p) w0 fp) (nd : fp.Nodup) (hS : ∀ q ∈ fp, S q = none) (hs : Same S H) (r : Reps K S us ds) (hl : us.length + 1 ≤ N.length) :
    StOk K ⟨Mu, [(0, .ref p)], fun q hq => by rw [List.mem_singleton.mp hq]; exact h0⟩ (dels fp H) S (slotsU N.length w0 ds) (L2.start N (.ref p :: us)) S H := by
  have hlen := r.len
  have e0 : (L2.start N (.ref p :: us))[0]? = some (some (.ref p)) := rfl
  refine ⟨by simp [slotsU, slots, L2.start, hlen]; omega, fun q hq => by rw [List.mem_singleton.mp hq]; exact e0, hs, dels_le, Same.refl S, fun a o e => .inl e, fun j => if j = 0 then fp else [], fun i w e => ?_, fun i q hq => ?_, fun i j q hi hj => ?_⟩
  · cases i with
    | zero =>
      cases e
      refine ⟨.ref p, e0, ?_⟩
      simp only [if_pos]
      exact ⟨o, nd⟩
    | succ i =>
      have e' : (slots (N.length - 1) ds)[i]? = some (some w) := e
      unfold slots at e'
      by_cases hi : i < ds.length
      · rw [List.getElem?_append_left (by simpa using hi), List.getElem?_map] at e'
        obtain ⟨d, hd, e'⟩ := Option.map_eq_some_iff.mp e'
        cases e'
        obtain ⟨v, hv, rv⟩ := r.get hd
        refine ⟨v, ?_, ?_⟩
        · unfold L2.start
          rw [List.getElem?_append_left (by simp [hlen]; omega), List.getElem?_map, List.getElem?_cons_succ, hv]
          rfl
        · simp only [Nat.add_one_ne_zero, if_false]
          exact ⟨.sh rv, List.nodup_nil⟩
      · rw [List.getElem?_append_right (by simpa using hi), List.getElem?_replicate] at e'
        split at e' <;> cases e'
  · cases i with
    | zero =>
      simp only [if_true] at hq
      exact ⟨hS q hq, dels_in hq, Own.there w0 o q hq⟩
    | succ i => simp only [Nat.add_one_ne_zero, if_false] at hq; cases hq
  · cases i with
    | zero => cases j with
      | zero => rfl
      | succ j => simp only [Nat.add_one_ne_zero, if_false] at hj; cases hj
    | succ i => simp only [Nat.add_one_ne_zero, if_false] at hi; cases hi
/-! a body whose ends are one: falling off, and return without a value -/
class SemB (K : PySem.W.Frag) (Mu : List Nat) (E : XK) (t : TS) (m : outParam (En → Res Fl)) : Prop where
  run : ∀ {f B S0 D env σ S H}, f.mu = Mu → (∀ σ H, D.nx σ H → D.rt .non H) → StOk K f B S0 env σ S H → Post K f B S0 D E S (m env) → t D σ H
instance (priority := low) semB_S {Mu : List Nat} {E : XK} {t : TS} {m : En → Res Fl} [h : SemS K Mu E t m] : SemB K Mu E t m where
  run := fun hm _ x p => h.run hm x p
instance semB_seq {Mu : List Nat} {E : XK} {t u : TS} {ma mb : En → Res Fl} [ha : SemS K Mu E t ma] [hb : SemB K Mu E u mb] : SemB K Mu E (tSeq t u) (mSeq ma mb) where
  run := fun {f B S0 D env σ S H} hm hD x p => by
    refine ha.run (D := ⟨u D, D.rt, D.bk, D.ct⟩) hm x ?_
    unfold mSeq at p
    cases e : ma env with
    | st => rw [e] at p; exact p
    | ex z => rw [e] at p; exact p
    | ok r =>
      rw [e] at p
      simp only [Res.bind_ok] at p
      cases r with
      | nx en => exact fun σ' S' H' y s => hb.run hm hD y (p.up s)
      | rt w => exact p
      | bk en => exact p
      | ct en => exact p
/-- if c: a, return; then the others -/
def mIfRet (F : List Nat) (mc : En → Res Bool) (ma mb : En → Res Fl) : En → Res Fl := fun env => (mc (fz F env)).bind fun b => if b = true then ma (fz F env) else mb (fz F env)
instance (priority := high) semB_ifRet {Mu : List Nat} {E : XK} {c : TT} {ta tb : TS} {F : List Nat} {mc : En → Res Bool} {ma mb : En → Res Fl} [hc : SemT K E c F mc] [ha : SemS K Mu E ta ma] [hb : SemB K Mu E tb mb] : SemB K Mu E (tSeq (tIfS c (tSeq ta tRetN) tNext) tb) (mIfRet F mc ma mb) where
  run := fun {f B S0 D env σ S H} hm hD x p => by
    obtain ⟨S1, x1, s1⟩ := x.fz F
    unfold mIfRet at p
    cases e : mc (fz F env) with
    | st => rw [e] at p; exact p.elim
    | ex z =>
      rw [e] at p
      exact hc.ex x1.vw e (xr_up x1.base p)
    | ok b =>
      rw [e] at p
      simp only [Res.bind_ok] at p
      refine hc.ok x1.vw e fun H' g => ?_
      have y := x1.gr (.hp x1.sub g)
      cases b with
      | true =>
        simp only [if_true] at p
        have p2 := p.up s1
        show tSeq ta tRetN _ σ H'
        refine ha.run (D := ⟨tRetN ⟨tb D, D.rt, D.bk, D.ct⟩, D.rt, D.bk, D.ct⟩) hm y ?_
        cases em : ma (fz F env) with
        | st => rw [em] at p2; exact p2
        | ex z => rw [em] at p2; exact p2
        | ok fl =>
          rw [em] at p2
          cases fl with
          | nx en => exact fun σ' S' H2 y s => hD σ' H2 (p2 σ' S' H2 y s)
          | rt w => exact p2
          | bk en => exact p2
          | ct en => exact p2
      | false =>
        simp only [if_false, Bool.false_eq_true] at p
        exact hb.run hm hD y (p.up s1)
/-- what the body's ends give: the object as it is then -/
theorem self_end {w1 : W} {B S S' H' : Hp} {f : Fm} {en : En} {σ' : L2.St} {p : Addr} (y : StOk K f B S en σ' S' H') (hp : (0, V.ref p) ∈ f.pins) (e : en[0]? = some (some w1)) : ∃ fp, New K S B S' H' (.ref p) w1 fp := by
  obtain ⟨fps, g1, g2, _⟩ := y.own
  obtain ⟨v, a, b, c⟩ := g1 0 _ e
  have := y.pin (0, .ref p) hp
  rw [this] at a
  cases a
  exact ⟨_, ⟨y.ex0, y.base, y.sub, y.nw⟩, b, c, fun r hr => ⟨(g2 0 r hr).2.1, (g2 0 r hr).1⟩⟩
/-- THE RULE for a method that changes its own object -/
theorem fn_semU {x qual : Str} {st : Stmt} {f : Addr} {fd : FuncData} {N ps : List Str} {k n : Nat} (F : Fun K x qual st f fd) (Sc : FnScope N ps (defScope st)) (cn : Str) (hn : ps.length = n + 1) (g : W → List D → Res W) (Mu : List Nat) (h0 : Mu.contains (1000 + 0) = true) (m : En → Res Fl)
    (hb : ∀ (cdv : Value) (A : Around) (outer : List Env) (s : Shared) (H : Hp) (E : XK), Room k (A.deeper (envOfC qual (defScope st) s.heap.objs.size f cdv)) →
      ∃ t, PSs (cxOf (L2.CX P w) P w K mg base N qual (defScope st) f cdv A outer s H E) (defBody st) t ∧ SemB K Mu E t m)
    (hg : ∀ w ds, g w ds ≠ .st → runU N.length m w ds = g w ds) : FnOk P w K mg base (L2.CX P w) (k + 1) f fd ps (spU K cn n g) := by
  have hpl : ps.length ≤ N.length := by have := congrArg List.length Sc.pre; rw [List.length_take] at this; omega
  refine F.okX Sc (fun vs H Q E h => ?_) fun cdv A outer s H vs Q E hr h => ?_
  · obtain ⟨p, us, S, w0, fp, ds, rfl, hl, _⟩ := h
    rw [List.length_cons, hl, hn]
  · obtain ⟨t, h1, h2⟩ := hb cdv A outer s H E hr
    refine ⟨t, h1, ?_⟩
    obtain ⟨p, us, S, w0, fp, ds, rfl, hl, hs, hc, ho, nd, hS, r, q⟩ := h
    have hne : g w0 ds ≠ .st := fun e => by rw [e] at q; exact q
    have e := hg w0 ds hne
    rw [← e] at q
    refine h2.run rfl (fun _ _ h => h) (meth_start Mu h0 ho nd hS hs r (by omega)) ?_
    unfold runU at q
    cases em : m (slotsU N.length w0 ds) with
    | ex z => rw [em] at q; exact q
    | st => rw [em] at q; exact q
    | ok fl =>
      rw [em] at q
      cases fl with
      | nx en =>
        simp only [Res.bind_ok] at q
        intro σ' S' H' y _
        cases ew : en[0]? with
        | none => rw [ew] at q; exact q.elim
        | some o =>
          cases o with
          | none => rw [ew] at q; exact q.elim
          | some w' =>
            rw [ew] at q
            obtain ⟨fp', nw⟩ := self_end y List.mem_cons_self ew
            exact q S' H' fp' nw
      | rt w => exact q.elim
      | bk en => exact q.elim
      | ct en => exact q.elim
/-- THE RULE for an __init__ that may return early, and that may have defaults -/
theorem fn_semIB {x qual : Str} {ar : Arguments} {bd : List Stmt} {sc : Scope} {dvs : List V} {kws : List (Str × V)} {f : Addr} {fd : FuncData} {N ps : List Str} {k n : Nat} (F : FunD K x qual ar bd sc dvs kws f fd) (Sc : FnScope N ps sc) (cn : Str) (hn : ps.length = n + 1) (g : List D → Res W) (Mu : List Nat) (h0 : Mu.contains (1000 + 0) = true) (m : En → Res Fl)
    (hb : ∀ (cdv : Value) (A : Around) (outer : List Env) (s : Shared) (H : Hp) (E : XK), Room k (A.deeper (envOfC qual sc s.heap.objs.size f cdv)) →
      ∃ t, PSs (cxOf (L2.CX P w) P w K mg base N qual sc f cdv A outer s H E) bd t ∧ SemB K Mu E t m)
    (hg : ∀ ds, g ds ≠ .st → runI cn N.length m ds = g ds) : FnOk P w K mg base (L2.CX P w) (k + 1) f fd ps (spI K cn n g) := by
  have hpl : ps.length ≤ N.length := by have := congrArg List.length Sc.pre; rw [List.length_take] at this; omega
  refine F.ok Sc (fun vs H Q E h => ?_) fun cdv A outer s H vs Q E hr h => ?_
  · obtain ⟨p, C, dx, us, S, ds, rfl, hl, _⟩ := h
    rw [List.length_cons, hl, hn]
  · obtain ⟨t, h1, h2⟩ := hb cdv A outer s H E hr
    refine ⟨t, h1, ?_⟩
    obtain ⟨p, C, dx, us, S, ds, rfl, hl, hc, hp, hS, hs, r, q⟩ := h
    have hne : g ds ≠ .st := fun e => by rw [e] at q; exact q
    have e := hg ds hne
    rw [← e] at q
    refine h2.run rfl (fun _ _ h => h) (init_start Mu h0 hc hp hS hs r (by omega)) ?_
    unfold runI at q
    cases em : m (slotsI cn N.length ds) with
    | ex z => rw [em] at q; exact q
    | st => rw [em] at q; exact q
    | ok fl =>
      rw [em] at q
      cases fl with
      | nx en =>
        simp only [Res.bind_ok] at q
        intro σ' S' H' y _
        cases ew : en[0]? with
        | none => rw [ew] at q; exact q.elim
        | some o =>
          cases o with
          | none => rw [ew] at q; exact q.elim
          | some w' =>
            rw [ew] at q
            obtain ⟨fp', nw⟩ := self_end y List.mem_cons_self ew
            exact q S' H' fp' nw
      | rt w => exact q.elim
      | bk en => exact q.elim
      | ct en => exact q.elim
end
section
variable {K : PySem.W.Frag} {Mu : List Nat} {E : XK} {T : List (Str × List Str × List Str)}
/-- the object of a slot, changed by a call -/
theorem StOk.upd {f : Fm} {B S0 S H S2 H2 : Hp} {env : En} {σ : L2.St} {i : Nat} {v : V} {w w' : W} {fps : Nat → List Addr} {fp' : List Addr} (x : StOk K f B S0 env σ S H)
    (h1 : ∀ (i : Nat) w, env[i]? = some (some w) → ∃ v, σ[i]? = some (some v) ∧ Own K S H v w (fps i) ∧ (fps i).Nodup) (h2 : ∀ i p, p ∈ fps i → S p = none ∧ B p = none ∧ isMu (H p) = true) (h3 : ∀ i j p, p ∈ fps i → p ∈ fps j → i = j)
    (e : env[i]? = some (some w)) (hv : σ[i]? = some (some v)) (n : New K S (dels (fps i) H) S2 H2 v w' fp') : StOk K f B S0 (env.set i (some w')) σ S2 H2 := by
  have keep : ∀ j, j ≠ i → ∀ q ∈ fps j, dels (fps i) H q = H q := fun j hj q hq => dels_out fun z => hj (h3 j i q hq z)
  have same : ∀ j, j ≠ i → ∀ q ∈ fps j, H2 q = H q := fun j hj q hq => by
    obtain ⟨u, eu, _⟩ := isMu_some (h2 j q hq).2.2
    rw [n.gr.hh q u (by rw [keep j hj q hq]; exact eu), eu]
  refine ⟨by rw [List.length_set]; exact x.len, x.pin, n.gr.sub, fun a o z => ?_, x.ex0.trans n.gr.ss, fun a o z => ?_, fun j => if j = i then fp' else fps j, fun j u e' => ?_, fun j q hq => ?_, fun j k q hj hk => ?_⟩
  · have ha : a ∉ fps i := fun h => by rw [(h2 i a h).2.1] at z; cases z
    exact n.gr.hh a o (by rw [dels_out ha]; exact x.base a o z)
  · rcases n.gr.nw a o z with h | h | h
    · exact x.nw a o h
    · by_cases ha : a ∈ fps i
      · exact .inr (.inl (h2 i a ha).2.1)
      · rw [dels_out ha] at h
        exact .inr (.inl (x.base.free h))
    · exact .inr (.inr h)
  · rcases get_set e' with ⟨rfl, e1, hl⟩ | ⟨ne, e1⟩
    · cases e1
      refine ⟨v, hv, ?_⟩
      simp only [if_pos]
      exact ⟨n.own, n.nd⟩
    · obtain ⟨z, a, b, c⟩ := h1 j u e1
      refine ⟨z, a, ?_⟩
      simp only [if_neg (Ne.symm ne)]
      exact ⟨b.carry n.gr.ss u (same j (Ne.symm ne)), c⟩
  · by_cases ej : j = i
    · simp only [if_pos ej] at hq
      refine ⟨(n.new q hq).2, ?_, Own.there w' n.own q hq⟩
      by_cases ha : q ∈ fps i
      · exact (h2 i q ha).2.1
      · have := (n.new q hq).1
        rw [dels_out ha] at this
        exact x.base.free this
    · simp only [if_neg ej] at hq
      obtain ⟨a, b, c⟩ := h2 j q hq
      refine ⟨n.gr.gone a (by rw [keep j ej q hq]; exact c), b, by rw [same j ej q hq]; exact c⟩
  · have far : ∀ j, j ≠ i → ∀ q, q ∈ fps j → q ∈ fp' → False := fun j hj q h h' => by
      have h4 := (n.new q h').1
      rw [keep j hj q h] at h4
      have := (h2 j q h).2.2
      rw [h4] at this
      cases this
    by_cases ej : j = i
    · by_cases ek : k = i
      · exact ej.trans ek.symm
      · simp only [if_pos ej, if_neg ek] at hj hk
        exact (far k ek q hk hj).elim
    · by_cases ek : k = i
      · simp only [if_neg ej, if_pos ek] at hj hk
        exact (far j ej q hj hk).elim
      · simp only [if_neg ej, if_neg ek] at hj hk
        exact h3 j k q hj hk
def obM (cn m : Str) : W → Bool
  | .obj n fs _ => decide (n = cn) && decide (m ∉ fs)
  | _ => false
/-- o.m(..): the own object of a slot is changed -/
def mUMeth (cn m : Str) (n : Nat) (g : W → List D → Res W) (F : List Nat) (i : Nat) (ma : En → Res (List D)) : En → Res Fl := fun env => match (fz F env)[i]? with
  | some (some w) => if obM cn m w = true then (ma (fz F env)).bind fun ds => if ds.length = n then (g w ds).map fun w' => .nx ((fz F env).set i (some w')) else .st else .st
  | _ => .st
instance (priority := high) semS_umeth {C : Addr} {cn m : Str} {n i : Nat} {g : W → List D → Res W} {t : TA} {F : List Nat} {ma : En → Res (List D)} [hc : ClsIs K C cn] [ha : SemA K E t F ma] :
    SemS K Mu E (tDrop (tMeth C m (spU K cn n g) [] E (tVar i) t)) (mUMeth cn m n g F i ma) where
  run := fun {f B S0 D env σ S H} hm x p => by
    obtain ⟨S1, x1, s1⟩ := x.fz F
    unfold mUMeth at p
    split at p
    case h_2 => exact p.elim
    rename_i w e
    split at p
    case isFalse => exact p.elim
    rename_i hob
    have hob' : obN cn w = true ∧ ∃ n fs ws, w = .obj n fs ws ∧ n = cn ∧ m ∉ fs := by
      unfold obM at hob
      split at hob
      · rename_i n' fs ws
        rw [Bool.and_eq_true, decide_eq_true_iff, decide_eq_true_iff] at hob
        exact ⟨by unfold obN; rw [decide_eq_true_iff]; exact hob.1, n', fs, ws, rfl, hob.1, hob.2⟩
      · cases hob
    obtain ⟨hN, n', fs, ws, hw, hn, hm2⟩ := hob'
    obtain ⟨fps, h1, h2, h3⟩ := x1.own
    obtain ⟨v, a, b, _⟩ := h1 i w e
    subst hw
    subst hn
    generalize fps i = fpi at b
    cases b with
    | obj ci hp hl ho =>
      rename_i pa C' dx vs0 fp0
      cases ci.one hc.is
      refine ⟨.ref pa, a, pa, dx, fs.zip vs0, rfl, hp, lookup_none hm2, ?_⟩
      cases ea : ma (fz F env) with
      | ex z =>
        rw [ea] at p
        exact ha.ex x1.vw ea (xr_up x1.base p)
      | st => rw [ea] at p; exact p.elim
      | ok ds =>
        rw [ea] at p
        simp only [Res.bind_ok] at p
        refine ha.ok x1.vw ea fun vs S2 H2 g2 r2 => ?_
        split at p
        case isFalse => exact p.elim
        rename_i hlen
        have x2 := x1.gr g2
        obtain ⟨fps2, a1, a2, a3⟩ := x2.own
        obtain ⟨v2, b1, b2, b3⟩ := a1 i _ e
        rw [a] at b1
        cases b1
        refine ⟨pa, vs, S2, _, fps2 i, ds, by rw [List.append_nil], by rw [← hlen, r2.len], g2.sub, hN, b2, b3, fun q hq => (a2 i q hq).1, r2, ?_⟩
        cases eg : g (.obj n' fs ws) ds with
        | st => rw [eg] at p; exact p.elim
        | ex z =>
          rw [eg] at p
          exact fun cls d H' hs q => p cls d H' (fun a' o z' => hs a' o (by
            rw [dels_out fun hq => by rw [(a2 i a' hq).2.1] at z'; cases z']
            exact x2.base a' o z')) q
        | ok w' =>
          rw [eg] at p
          exact fun S' H' fp' nw => p σ S' H' (StOk.upd x2 a1 a2 a3 e a nw) ((s1.trans g2.ss).trans nw.gr.ss)
end
end Ly

set_option Elab.async false
set_option linter.all false
set_option maxRecDepth 100000
/-! LyF2: a field's list appended to; makers whose last parameters are defaults. -/
namespace Ly
open PySem L2 PyProof.Rows
section
variable {K : PySem.W.Frag} {Mu : List Nat} {E : XK} {T : List (Str × List Str × List Str)}
def mFAppend (T : List (Str × List Str × List Str)) (F : List Nat) (i : Nat) (f : Str) (ma : En → Res (List D)) : En → Res Fl := fun env => match (fz F env)[i]? with
  | some (some (.obj n fs ws)) => if hasF T n f then match flook fs ws f with
    | some (.lst xs) => (ma (fz F env)).bind fun ds => match ds with
      | [d] => if small xs.length then .ok (.nx ((fz F env).set i (some (.obj n fs (putWs fs ws f (.lst (xs ++ [d]))))))) else .st
      | _ => .st
    | _ => .st
    else .st
  | _ => .st
instance (priority := high) semS_fappend {i : Nat} {f : Str} {t : TA} {F : List Nat} {ma : En → Res (List D)} [FldTab K T] [h : SemA K E t F ma] : SemS K Mu E (tDrop (tBM K "list" rAppend (tFld K (tVar i) f) t)) (mFAppend T F i f ma) where
  run := fun {fm B S0 D env σ S H} hm x p => by
    obtain ⟨S1, x1, s1⟩ := x.fz F
    unfold mFAppend at p
    split at p
    case h_2 => exact p.elim
    rename_i n fs ws e
    split at p
    case isFalse => exact p.elim
    rename_i hf
    split at p
    case h_2 => exact p.elim
    rename_i xs ef
    obtain ⟨u, fp, a, b, c⟩ := x1.vw.at_ i _ e
    obtain ⟨pa, C, dx, gs, uf, fq, h1, h2, h3, h4, h5, h6⟩ := fldW_ok (T := T) (f := f) (r := .lst xs) x1.sub b (by unfold fldW; simp only; rw [if_pos hf, ef])
    cases h6 with
    | lst hp hr =>
      rename_i af vl
      refine ⟨u, a, pa, C, dx, gs, .ref af, h1, h2, h3, h4, h5, .inl ⟨rfl, _, SqL.of hp⟩, ?_⟩
      cases ea : ma (fz F env) with
      | ex z => rw [ea] at p; exact h.ex x1.vw ea (xr_up x1.base p)
      | st => rw [ea] at p; exact p.elim
      | ok ds =>
        rw [ea] at p
        simp only [Res.bind_ok] at p
        refine h.ok x1.vw ea fun vs S2 H2 g r => ?_
        split at p
        case h_2 => exact p.elim
        rename_i d
        split at p
        case isFalse => exact p.elim
        rename_i hs
        cases r with
        | cons r1 r2 =>
          cases r2
          rename_i vd
          have x2 := x1.gr g
          refine ⟨_, _, _, rfl, rfl, g.hh _ _ hp, by rw [hr.len]; exact small_line hs, ?_⟩
          refine p _ S2 _ ?_ (s1.trans g.ss)
          subst h1
          have hp2 := g.hh _ _ h2
          have e4 : Own K S2 (upd H2 af (.lst (vl ++ [vd]))) (.ref af) (.lst (xs ++ [d])) [af] := .lst upd_same ((hr.up g.ss).app (.cons r1 .nil))
          refine x2.mutN (w := .sh .non) (y := .non) (fq := []) (.sh (.refl x2.sub) .non) e a (by have hm := Own.there _ e4 af (by simp); rwa [upd_same] at hm) fun fp0 ho hnd hdd => ?_
          cases ho with
          | obj c2 hpo hlen2 hw2 =>
            rename_i C2 dx2 vs2 fp2
            rw [hp2] at hpo
            injection hpo with hpo
            injection hpo with q1 q2 q3
            subst q3
            have hnd' := List.nodup_cons.mp hnd
            obtain ⟨i1, i2⟩ := Owns.change (w := .lst xs) (w' := .lst (xs ++ [d])) rfl (fun _ => e4) fs vs2 ws fp2 hlen2 hw2 hnd'.2 ef h5
            have nap : pa ≠ af := fun z => hnd'.1 (z ▸ i2)
            exact ⟨List.mem_cons_of_mem _ i2, pa :: fp2, .obj c2 (by rw [upd_ne nap, hp2, q1, q2]) hlen2 i1, hnd, fun q hq => .inl hq⟩
/-! makers with defaults -/
/-- plain values -/
def plV : D → Option V
  | .non => some .non
  | .bl b => some (.bl b)
  | .int i => some (.int i)
  | .str z => some (.str z)
  | _ => none
def plVs : List D → Option (List V)
  | [] => some []
  | d :: ds => (plV d).bind fun v => (plVs ds).map fun vs => v :: vs
theorem plV_rep {S : Hp} {d : D} {v : V} (h : plV d = some v) : Rep K S v d := by
  cases d <;> first | (cases h; constructor) | (cases h)
theorem plVs_rep {S : Hp} : ∀ {ds : List D} {vs : List V}, plVs ds = some vs → Reps K S vs ds
  | [], vs, h => by cases h; exact .nil
  | d :: ds, vs, h => by
    unfold plVs at h
    obtain ⟨v, hv, h⟩ := Option.bind_eq_some_iff.mp h
    obtain ⟨us, hu, rfl⟩ := Option.map_eq_some_iff.mp h
    exact .cons (plV_rep hv) (plVs_rep hu)
class DfV (dvs : List V) (dds : outParam (List D)) : Prop where
  is : plVs dds = some dvs
instance dfV_nil : DfV [] [] := ⟨rfl⟩
instance dfV_non {vs : List V} {ds : List D} [h : DfV vs ds] : DfV (.non :: vs) (.non :: ds) := ⟨by unfold plVs; rw [h.is]; rfl⟩
instance dfV_int {vs : List V} {ds : List D} {i : Int} [h : DfV vs ds] : DfV (.int i :: vs) (.int i :: ds) := ⟨by unfold plVs; rw [h.is]; rfl⟩
def mMakeD (n : Nat) (g : List D → Res W) (dds : List D) (ma : En → Res (List D)) : En → Res W := fun e => (ma e).bind fun ds => asked n g (ds ++ dds)
instance semE_makeD {C : Addr} {cn : Str} {n : Nat} {g : List D → Res W} {dvs : List V} {v0 : V} {dds : List D} {t : TA} {F : List Nat} {ma : En → Res (List D)} [hc : ClsIs K C cn] [ha : SemA K E t F ma] [hd : DfV (v0 :: dvs) dds] : SemE K E (tMake C (spI K cn n g) (v0 :: dvs) E t) F (mMakeD n g dds ma) where
  ok := fun {env σ S H Q w} x e k => by
    obtain ⟨ds, e1, e2⟩ := Res.of_ok e
    obtain ⟨hl, e2⟩ := asked_ok e2 (by simp)
    refine ha.ok x e1 fun vs S' H' g' r => fun p dx hp hdx hne => ?_
    have rd : Reps K S' (v0 :: dvs) dds := plVs_rep hd.is
    refine ⟨p, C, dx, vs ++ (v0 :: dvs), S', ds ++ dds, rfl, by rw [List.length_append, r.len, rd.len, ← List.length_append]; exact hl, hc.is, upd_same, g'.sub.free hp, fun a o q => ?_, r.app rd, ?_⟩
    · rw [upd_ne (ne_of_none q (g'.sub.free hp)), upd_ne (ne_of_none q (g'.sub.free hdx))]
      exact g'.sub a o q
    · rw [e2]
      intro S2 H2 fp nw
      have old : ∀ a, delp p (upd (upd H' dx (.own p)) p (.ins C dx [])) a = none → H' a = none := fun a h => by
        by_cases ha : a = p
        · rw [ha]; exact hp
        · rw [delp_ne ha, upd_ne ha] at h
          by_cases hd : a = dx
          · rw [hd]; exact hdx
          · rw [upd_ne hd] at h; exact h
      have g2 : Gr S' H' S2 H2 := ⟨nw.gr.ss, fun a o q => nw.gr.hh a o (by rw [delp_ne (ne_of_none q hp), upd_ne (ne_of_none q hp), upd_ne (ne_of_none q hdx)]; exact q), nw.gr.sub, fun a o q => by
        rcases nw.gr.nw a o q with h | h | h
        · exact .inl h
        · exact .inr (.inl (old a h))
        · exact .inr (.inr h)⟩
      exact ⟨rfl, k (.ref p) S2 H2 fp ⟨g'.trans g2, nw.own, nw.nd, fun q hq => ⟨g'.hh.free (old q (nw.new q hq).1), (nw.new q hq).2⟩⟩⟩
  ex := fun {env σ S H Q z} x e k => by
    rcases Res.of_ex e with e1 | ⟨ds, e1, e2⟩
    · exact ha.ex x e1 k
    · obtain ⟨hl, e2⟩ := asked_ok e2 (by simp)
      refine ha.ok x e1 fun vs S' H' g' r => fun p dx hp hdx hne => ?_
      have rd : Reps K S' (v0 :: dvs) dds := plVs_rep hd.is
      refine ⟨p, C, dx, vs ++ (v0 :: dvs), S', ds ++ dds, rfl, by rw [List.length_append, r.len, rd.len, ← List.length_append]; exact hl, hc.is, upd_same, g'.sub.free hp, fun a o q => ?_, r.app rd, ?_⟩
      · rw [upd_ne (ne_of_none q (g'.sub.free hp)), upd_ne (ne_of_none q (g'.sub.free hdx))]
        exact g'.sub a o q
      · rw [e2]
        exact fun c d H2 s q => k c d H2 (g'.hh.trans fun a o z => s a o (by rw [delp_ne (ne_of_none z hp), upd_ne (ne_of_none z hp), upd_ne (ne_of_none z hdx)]; exact z)) q
end
end Ly

set_option Elab.async false
set_option linter.all false
set_option maxRecDepth 100000
/-! LyY9: joined texts; typed objects: fields, methods that change their own object. -/
namespace Ly
open PySem L2
def jnO (a : Str) (xs : List Str) : Option Str := if small ((xs.map (·.length)).sum + xs.length * a.length) then some (Txt.join a xs) else none
theorem join_fact {a y : Str} {xs : List Str} (h : jnO a xs = some y) : joinD a (.lst (xs.map D.str)) = .ok (.sh (.str y)) := by
  unfold jnO at h
  unfold joinD
  simp only [strsD_strs']
  split at h
  · rename_i hs
    cases h
    rw [if_pos hs]
  · cases h
/-- as v_lenl, but no defeq step (the kernel would look into what stands around) -/
theorem w_lenl (xs : List D) : lenD [.lst xs] = .ok (.sh (.int xs.length)) := Eq.trans (v_lenl xs) (Eq.refl _)
/-! objects -/
theorem a_mFldV (T : List (Str × List Str × List Str)) (f : Str) (i : Nat) (e : En) : mFldV T f i e = match e[i]? with
  | some (some w) => (fldW T f w).bind wView
  | _ => .st := rfl
theorem a_mFldE (T : List (Str × List Str × List Str)) (f : Str) (i : Nat) (e : En) : mFldE T f i e = match e[i]? with
  | some (some w) => (fldW T f w).bind shOnly
  | _ => .st := rfl
@[simp] theorem wView_sh (d : D) : wView (.sh d) = .ok d := rfl
@[simp] theorem wView_lst (xs : List D) : wView (.lst xs) = .ok (.lst xs) := rfl
@[simp] theorem wView_dic (ks : List Key) (xs : List D) : wView (.dic ks xs) = .ok (.dic ks xs) := rfl
@[simp] theorem wView_dit (ks : List (List Key)) (xs : List D) : wView (.dit ks xs) = .ok (.dit ks xs) := rfl
@[simp] theorem shOnly_sh (d : D) : shOnly (.sh d) = .ok (.sh d) := rfl
@[simp] theorem a_mMakeD (n : Nat) (g : List D → Res W) (dds : List D) (ma : En → Res (List D)) (e : En) : mMakeD n g dds ma e = (ma e).bind fun ds => asked n g (ds ++ dds) := rfl
theorem goes_runU {k : Nat} {m : En → Res Fl} {w0 w : W} {ds : List D} (h : Goes (fun f => ∃ e, f = .nx e ∧ e[0]? = some (some w)) (m (slotsU k w0 ds))) : runU k m w0 ds = .ok w := by
  obtain ⟨f, e1, e, rfl, h2⟩ := h
  unfold runU
  rw [e1]
  simp only [Res.bind_ok]
  rw [h2]
theorem goes_runI {cn : Str} {k : Nat} {m : En → Res Fl} {w : W} {ds : List D} (h : Goes (fun f => ∃ e, f = .nx e ∧ e[0]? = some (some w)) (m (slotsI cn k ds))) : runI cn k m ds = .ok w := by
  obtain ⟨f, e1, e, rfl, h2⟩ := h
  unfold runI
  rw [e1]
  simp only [Res.bind_ok]
  rw [h2]
theorem goes_ifRet {Q : Fl → Prop} {F : List Nat} {mc : En → Res Bool} {ma mb : En → Res Fl} {env e : En} (hf : fz F env = e) (hc : mc e = .ok false) (h2 : Goes Q (mb e)) : Goes Q (mIfRet F mc ma mb env) := by
  unfold mIfRet
  rw [hf, hc]
  exact h2
theorem goes_ifRetT {Q : Fl → Prop} {F : List Nat} {mc : En → Res Bool} {ma mb : En → Res Fl} {env e : En} (hf : fz F env = e) (hc : mc e = .ok true) (h2 : Goes Q (ma e)) : Goes Q (mIfRet F mc ma mb env) := by
  unfold mIfRet
  rw [hf, hc]
  exact h2
theorem setf_run {T : List (Str × List Str × List Str)} {F : List Nat} {i : Nat} {f : Str} {me : En → Res W} {env e' : En} {w u u' : W} (hf : fz F env = e') (hm : me e' = .ok w) (hu : e'[i]? = some (some u)) (hs : setFld T f w u = .ok u') : mSetF T F i f me env = .ok (.nx (e'.set i (some u'))) := by
  unfold mSetF
  rw [hf, hm]
  simp only [Res.bind_ok]
  rw [hu]
  simp only
  rw [hs]
  rfl
def fdputR (T : List (Str × List Str × List Str)) (f : Str) (k x : D) : W → Res W
  | .obj n fs ws => if hasF T n f then match flook fs ws f with
    | some w => (putDic k x w).map fun w' => .obj n fs (putWs fs ws f w')
    | none => .st
    else .st
  | _ => .st
theorem fdput_run {T : List (Str × List Str × List Str)} {F : List Nat} {i : Nat} {f : Str} {mk mv : En → Res D} {env e' : En} {k x : D} {w w' : W} (hf : fz F env = e') (hv : mv e' = .ok x ∧ mk e' = .ok k) (hu : e'[i]? = some (some w)) (hp : fdputR T f k x w = .ok w') : mFDPut T F i f mk mv env = .ok (.nx (e'.set i (some w'))) := by
  unfold mFDPut
  rw [hf, hv.1]
  simp only [Res.bind_ok]
  rw [hu]
  cases w with
  | obj n fs ws =>
    unfold fdputR at hp
    simp only at hp ⊢
    by_cases h1 : hasF T n f = true
    · rw [if_pos h1] at hp ⊢
      cases e : flook fs ws f with
      | none => rw [e] at hp; cases hp
      | some y =>
        rw [e] at hp
        simp only at hp ⊢
        rw [hv.2]
        simp only [Res.bind_ok]
        cases e2 : putDic k x y with
        | ok z => rw [e2] at hp; cases hp; rfl
        | ex z => rw [e2] at hp; cases hp
        | st => rw [e2] at hp; cases hp
    · rw [if_neg h1] at hp; cases hp
  | _ => cases hp
theorem umeth_run {cn m : Str} {n i : Nat} {g : W → List D → Res W} {F : List Nat} {ma : En → Res (List D)} {env e' : En} {ds : List D} {w w' : W} (hf : fz F env = e') (ha : ma e' = .ok ds) (hu : e'[i]? = some (some w)) (ho : obM cn m w = true) (hl : ds.length = n) (hg : g w ds = .ok w') : mUMeth cn m n g F i ma env = .ok (.nx (e'.set i (some w'))) := by
  unfold mUMeth
  rw [hf, hu]
  simp only
  rw [if_pos ho, ha]
  simp only [Res.bind_ok]
  rw [if_pos hl, hg]
  rfl
def fappR (T : List (Str × List Str × List Str)) (f : Str) (d : D) : W → Res W
  | .obj n fs ws => if hasF T n f then match flook fs ws f with
    | some (.lst xs) => if small xs.length then .ok (.obj n fs (putWs fs ws f (.lst (xs ++ [d])))) else .st
    | _ => .st
    else .st
  | _ => .st
theorem fapp_run {T : List (Str × List Str × List Str)} {F : List Nat} {i : Nat} {f : Str} {ma : En → Res (List D)} {env e' : En} {d : D} {w w' : W} (hf : fz F env = e') (ha : ma e' = .ok [d]) (hu : e'[i]? = some (some w)) (hp : fappR T f d w = .ok w') : mFAppend T F i f ma env = .ok (.nx (e'.set i (some w'))) := by
  unfold mFAppend
  rw [hf, hu]
  cases w with
  | obj n fs ws =>
    unfold fappR at hp
    simp only at hp ⊢
    by_cases h1 : hasF T n f = true
    · rw [if_pos h1] at hp ⊢
      cases e : flook fs ws f with
      | none => rw [e] at hp; cases hp
      | some y =>
        rw [e] at hp
        cases y with
        | lst xs =>
          simp only at hp ⊢
          rw [ha]
          simp only [Res.bind_ok]
          by_cases hs : small xs.length = true
          · rw [if_pos hs] at hp ⊢
            cases hp
            rfl
          · rw [if_neg hs] at hp
            cases hp
        | _ => cases hp
    · rw [if_neg h1] at hp; cases hp
  | _ => cases hp
end Ly

set_option Elab.async false
set_option linter.all false
set_option maxRecDepth 100000
/-! LyY17: typed facts: split, upper, replace of texts. -/
namespace Ly
open PySem L2 PyProof.Rows
@[simp] theorem a_mUpper (m : En → Res D) (e : En) : mUpper m e = (m e).bind upperD := rfl
@[simp] theorem a_mRepl (y z : Str) (n : Nat) (m : En → Res D) (e : En) : mRepl y z n m e = (m e).bind (replD y z n) := rfl
def splO (a b : Str) : Option (List Str) := if (b.length == 0) = false ∧ small a.length = true then some (Txt.split a b) else none
theorem splO_some {a b : Str} {r : List Str} (h : splO a b = some r) : splitD a (.str b) = .ok (.lst (List.map D.str r)) := by
  unfold splO at h
  split at h
  · rename_i hc
    cases h
    unfold splitD
    dsimp only
    rw [if_pos hc]
  · cases h
def upO (a : Str) : Option Str := if a.length ≤ 5592405 then some (Txt.upper a) else none
theorem upO_some {a r : Str} (h : upO a = some r) : upperD (.str a) = .ok (.sh (.str r)) := by
  unfold upO at h
  split at h
  · rename_i hc
    cases h
    unfold upperD
    dsimp only
    rw [if_pos hc]
  · cases h
def rpO (y z : Str) (n : Nat) (a : Str) : Option Str := if a.length + n * z.length ≤ 16777216 then some (replC a y z n) else none
theorem rpO_some {y z : Str} {n : Nat} {a r : Str} (h : rpO y z n a = some r) : replD y z n (.str a) = .ok (.sh (.str r)) := by
  unfold rpO at h
  split at h
  · rename_i hc
    cases h
    unfold replD
    dsimp only
    rw [if_pos hc]
  · cases h
/-- what a call tells, as a dict of texts and tuples -/
def decSI : List Key → List D → Option (List (Str × (Str × Int)))
  | [], [] => some []
  | Sum.inr k :: ks, .tup [.str b, .int i] :: vs => (decSI ks vs).map fun r => (k, (b, i)) :: r
  | _, _ => none
theorem decSI_some : ∀ {ks : List Key} {vs : List D} {r : List (Str × (Str × Int))}, decSI ks vs = some r → ks = r.map kS ∧ vs = r.map fun p => D.tup [.str p.2.1, .int p.2.2]
  | ks, vs, r, h => by
    unfold decSI at h
    split at h
    · cases h; exact ⟨rfl, rfl⟩
    · obtain ⟨r', h', rfl⟩ := Option.map_eq_some_iff.mp h
      obtain ⟨a, b⟩ := decSI_some h'
      exact ⟨by rw [a]; rfl, by rw [b]; rfl⟩
    · cases h
def asDW : Res W → Option (List (Str × (Str × Int)))
  | .ok (.dic ks vs) => decSI ks vs
  | _ => none
theorem asDW_some {r : Res W} {p : List (Str × (Str × Int))} (h : asDW r = some p) : r = .ok (.dic (p.map kS) (p.map fun p => D.tup [.str p.2.1, .int p.2.2])) := by
  unfold asDW at h
  split at h
  · obtain ⟨a, b⟩ := decSI_some h
    rw [a, b]
  · cases h
end Ly

set_option Elab.async false
set_option linter.all false
set_option maxRecDepth 100000
set_option maxHeartbeats 4000000
namespace My
open PySem L2 Ly
noncomputable def p_read_plan (z : Str) : Option (List (Str × (Str × Int))) := asDW (r_read_plan [.str z])
theorem e_read_plan (z : Str) {r : List (Str × (Str × Int))} (h : p_read_plan z = some r) : r_read_plan [.str z] = .ok (W.dic (List.map kS r) (List.map (fun (p : Str × (Str × Int)) => (D.tup [(D.str p.2.1), (D.int p.2.2)])) r)) := asDW_some h
noncomputable def p__law_refused (d : D) : Option Bool := asBW (r__law_refused [d])
theorem e__law_refused (d : D) {r : Bool} (h : p__law_refused d = some r) : r__law_refused [d] = .ok (W.sh (D.bl r)) := asBW_some h
end My

set_option Elab.async false
set_option linter.all false
set_option maxRecDepth 100000
/-! LyZ: plain rules for typed functions. -/
namespace Ly
open PySem L2 PyProof.Rows
/-- p comes to something of which P holds -/
def Is {α : Type} (p : Option α) (P : α → Prop) : Prop := ∃ r, p = some r ∧ P r
section
variable {α β σ : Type}
theorem Is.bind {p : Option α} {f : α → Option β} {P : α → Prop} {Q : β → Prop} (h : Is p P) (k : ∀ a, P a → Is (f a) Q) : Is (p.bind f) Q := by
  obtain ⟨a, rfl, ha⟩ := h
  exact k a ha
theorem Is.pure {a : α} {P : α → Prop} (h : P a) : Is (some a) P := ⟨a, rfl, h⟩
theorem Is.imp {p : Option α} {P Q : α → Prop} (h : Is p P) (k : ∀ a, P a → Q a) : Is p Q := by
  obtain ⟨a, rfl, ha⟩ := h
  exact ⟨a, rfl, k a ha⟩
theorem Is.of {p : Option α} {a : α} {P : α → Prop} (h : p = some a) (q : P a) : Is p P := ⟨a, h, q⟩
theorem Is.eq {p : Option α} {a : α} (h : Is p (· = a)) : p = some a := by
  obtain ⟨r, rfl, rfl⟩ := h
  rfl
theorem Is.ite {c : Bool} {p q : Option α} {P : α → Prop} (h1 : c = true → Is p P) (h2 : c = false → Is q P) : Is (if c = true then p else q) P := by
  cases c with
  | true => exact h1 rfl
  | false => exact h2 rfl
theorem Is.ands {p q : Option α} {P Q : α → Prop} (h : Is p P) (k : Is p Q) : Is p (fun a => P a ∧ Q a) := by
  obtain ⟨a, rfl, ha⟩ := h
  obtain ⟨b, e, hb⟩ := k
  cases e
  exact ⟨a, rfl, ha, hb⟩
theorem is_apL {xs : List α} {x : α} (h : xs.length ≤ 10000000) : apL xs x = some (xs ++ [x]) := by unfold apL; rw [if_pos (a_small h)]
theorem is_exL {xs ys : List α} (h : xs.length + ys.length ≤ 10000000) : exL xs ys = some (xs ++ ys) := by unfold exL; rw [if_pos (a_small h)]
theorem is_gd {xs : List α} (h : xs.length ≤ 10000000) : gd xs = some xs := by unfold gd; rw [if_pos (a_small h)]
theorem is_gdU {n : Nat} (h : n ≤ 10000000) : gdU n = some () := by unfold gdU; rw [if_pos (a_small h)]
theorem is_gS {z : Str} (h : z.length ≤ 10000000) : gS z = some z := by unfold gS; rw [if_pos (a_small h)]
theorem is_adS {a b : Str} (h : a.length + b.length ≤ 10000000) : adS a b = some (a ++ b) := by unfold adS; rw [if_pos (a_small h)]
theorem is_muI {a b : Int} (h : -(2 ^ 64) < a ∧ a < 2 ^ 64) : muI a b = some (a * b) := by unfold muI; rw [if_pos (.inl h)]
theorem is_muI' {a b : Int} (h : -(2 ^ 64) < b ∧ b < 2 ^ 64) : muI a b = some (a * b) := by unfold muI; rw [if_pos (.inr h)]
theorem is_moI {a b : Int} (h : 0 < b) : moI a b = some (a % b) := by unfold moI; rw [if_pos h]
theorem is_diI {a b : Int} (h : 0 < b) (h2 : b < 10 ^ 60) : diI a b = some (a / b) := by unfold diI; rw [if_pos ⟨h, h2⟩]
theorem atI_nat (xs : List α) (i : Int) (h0 : 0 ≤ i) : atI xs i = xs[i.toNat]? := by
  unfold atI ixN
  rw [if_pos h0]
  by_cases h : i < xs.length
  · rw [if_pos h]; rfl
  · rw [if_neg h]
    exact (List.getElem?_eq_none (by omega)).symm
theorem is_atI {xs : List α} {i : Int} (h0 : 0 ≤ i) (h : i < xs.length) : Is (atI xs i) (fun x => x ∈ xs) := by
  rw [atI_nat xs i h0]
  have hl : i.toNat < xs.length := by omega
  exact ⟨xs[i.toNat], List.getElem?_eq_getElem hl, List.getElem_mem hl⟩
theorem cutD_drop (xs : List α) (i : Int) (h0 : 0 ≤ i) : cutD xs (some i) none = xs.drop i.toNat := by
  unfold cutD
  have e : HT.sIx xs.length 0 (some i) = min i.toNat xs.length := by
    show (if i < 0 then _ else min i.toNat xs.length) = _
    rw [if_neg (by omega)]
  rw [e, show HT.sIx xs.length xs.length none = xs.length from rfl]
  by_cases h : i.toNat ≤ xs.length
  · rw [Nat.min_eq_left h, List.take_of_length_le (by rw [List.length_drop]; omega)]
  · rw [Nat.min_eq_right (by omega), List.drop_of_length_le (Nat.le_refl _), List.drop_of_length_le (by omega), List.take_nil]
theorem cutD_take (xs : List α) (i : Int) (h0 : 0 ≤ i) : cutD xs none (some i) = xs.take i.toNat := by
  unfold cutD
  have e : HT.sIx xs.length xs.length (some i) = min i.toNat xs.length := by
    show (if i < 0 then _ else min i.toNat xs.length) = _
    rw [if_neg (by omega)]
  rw [e, show HT.sIx xs.length 0 none = 0 from rfl, Nat.sub_zero, List.drop_zero]
  by_cases h : i.toNat ≤ xs.length
  · rw [Nat.min_eq_left h]
  · rw [Nat.min_eq_right (by omega), List.take_of_length_le (Nat.le_refl _), List.take_of_length_le (by omega)]
theorem is_rg1 {n : Int} (h0 : 0 ≤ n) (h : n < 2 ^ 62) : rg1 n = some (rngF 0 n.toNat) := by
  unfold rg1
  rw [if_pos (by unfold big62; rw [decide_eq_true (by omega : -(2:Int) ^ 62 ≤ n), decide_eq_true h]; rfl)]
theorem rngF_get (lo : Int) (n i : Nat) : (rngF lo n)[i]? = if i < n then some (lo + (i : Int)) else none := by
  unfold rngF
  rw [List.getElem?_map]
  by_cases h : i < n
  · rw [if_pos h, List.getElem?_range h]; rfl
  · rw [if_neg h, List.getElem?_eq_none (by simpa using h)]; rfl
theorem rngF_len (lo : Int) (n : Nat) : (rngF lo n).length = n := by unfold rngF; rw [List.length_map, List.length_range]
theorem enumF_get (xs : List α) : ∀ (j i : Nat), (enumF j xs)[i]? = (xs[i]?).map fun x => (((j + i : Nat) : Int), x) := by
  induction xs with
  | nil => intro j i; rfl
  | cons x r ih =>
    intro j i
    cases i with
    | zero => rfl
    | succ i =>
      show (enumF (j + 1) r)[i]? = _
      rw [ih, List.getElem?_cons_succ, show j + 1 + i = j + (i + 1) by omega]
theorem enumF_len (xs : List α) : ∀ j, (enumF j xs).length = xs.length := by
  induction xs with
  | nil => intro j; rfl
  | cons x r ih => intro j; show (enumF (j + 1) r).length + 1 = _; rw [ih]; rfl
/-- a loop by what holds behind each turn -/
theorem is_forF {f : α → σ → Option σ} (J : Nat → σ → Prop) : ∀ (xs : List α) (k : Nat) (s : σ), J k s → (∀ i x s, xs[i]? = some x → J (k + i) s → Is (f x s) (J (k + i + 1))) → Is (forF f xs s) (J (k + xs.length))
  | [], k, s, h, _ => ⟨s, rfl, h⟩
  | x :: xs, k, s, h, step => by
    refine Is.bind (step 0 x s rfl h) fun t ht => ?_
    refine (is_forF J xs (k + 1) t ht fun i y s hy hs => ?_).imp fun a ha => by rw [List.length_cons, show k + (xs.length + 1) = k + 1 + xs.length by omega]; exact ha
    have := step (i + 1) y s (by rw [List.getElem?_cons_succ]; exact hy) (by rw [show k + (i + 1) = k + 1 + i by omega]; exact hs)
    rw [show k + (i + 1) + 1 = k + 1 + i + 1 by omega] at this
    exact this
theorem is_forF0 {f : α → σ → Option σ} (J : Nat → σ → Prop) {xs : List α} {s : σ} (h : J 0 s) (step : ∀ i x s, xs[i]? = some x → J i s → Is (f x s) (J (i + 1))) : Is (forF f xs s) (J xs.length) := by
  have := is_forF J xs 0 s h fun i x s hx hs => by
    rw [Nat.zero_add] at hs ⊢
    exact step i x s hx hs
  rwa [Nat.zero_add] at this
/-- two lists, item by item -/
inductive Two (P : α → β → Prop) : List α → List β → Prop
  | nil : Two P [] []
  | cons {x : α} {y : β} {xs : List α} {ys : List β} : P x y → Two P xs ys → Two P (x :: xs) (y :: ys)
theorem is_mapO {f : α → Option β} (P : α → β → Prop) : ∀ (xs : List α), (∀ x ∈ xs, Is (f x) (P x)) → Is (mapO f xs) (Two P xs)
  | [], _ => ⟨[], rfl, .nil⟩
  | x :: xs, h => by
    obtain ⟨y, e1, h1⟩ := h x List.mem_cons_self
    obtain ⟨ys, e2, h2⟩ := is_mapO P xs fun z hz => h z (List.mem_cons_of_mem _ hz)
    refine ⟨y :: ys, ?_, .cons h1 h2⟩
    show (f x).bind (fun y => (mapO f xs).map fun ys => y :: ys) = _
    rw [e1, e2]
    rfl
theorem mapO_eq {f : α → Option β} {g : α → β} : ∀ (xs : List α), (∀ x ∈ xs, f x = some (g x)) → mapO f xs = some (xs.map g)
  | [], _ => rfl
  | x :: xs, h => by
    show (f x).bind (fun y => (mapO f xs).map fun ys => y :: ys) = _
    rw [h x List.mem_cons_self, mapO_eq xs fun z hz => h z (List.mem_cons_of_mem _ hz)]
    rfl
theorem filO_eq {f : α → Option (Option β)} {g : α → Option β} : ∀ (xs : List α), (∀ x ∈ xs, f x = some (g x)) → filO f xs = some (xs.filterMap g)
  | [], _ => rfl
  | x :: xs, h => by
    unfold filO
    rw [h x List.mem_cons_self, filO_eq xs fun z hz => h z (List.mem_cons_of_mem _ hz), List.filterMap_cons]
    cases g x <;> rfl
theorem two_len {P : α → β → Prop} : ∀ {xs : List α} {ys : List β}, Two P xs ys → ys.length = xs.length
  | _, _, .nil => rfl
  | _, _, .cons _ t => congrArg (· + 1) (two_len t)
end
/-! equality of typed data -/
open PyData in
structure Enc {α : Type} (e : α → D) (G : α → Prop) (n : Nat) : Prop where
  lay : ∀ a, G a → canLay0 (toP (e a)) = true ∧ depth (toP (e a)) ≤ n
  eq : ∀ a b, eqv (toP (e a)) (toP (e b)) = true ↔ a = b
section
open PyData
theorem Enc.int : Enc D.int (fun _ => True) 0 := ⟨fun a _ => ⟨rfl, Nat.le_refl _⟩, fun a b => by show (a == b) = true ↔ _; exact beq_iff_eq⟩
theorem Enc.bl : Enc D.bl (fun _ => True) 0 := ⟨fun a _ => ⟨rfl, Nat.le_refl _⟩, fun a b => by show (a == b) = true ↔ _; exact beq_iff_eq⟩
theorem Enc.str : Enc D.str (fun z => strOk z = true) 0 := ⟨fun a h => ⟨by show canLay0 (.str a) = true; unfold canLay0; exact h, Nat.le_refl _⟩, fun a b => by show (a == b) = true ↔ _; exact beq_iff_eq⟩
variable {α β γ δ ε : Type} {e : α → D} {f : β → D} {g : γ → D} {h : δ → D} {i : ε → D} {G : α → Prop} {F : β → Prop} {H : γ → Prop} {I : δ → Prop} {J : ε → Prop} {n m k l o : Nat}
theorem Enc.lays (q : Enc e G n) : ∀ xs : List α, (∀ x ∈ xs, G x) → canLayAll0 (toPs (xs.map e)) = true ∧ depthAll (toPs (xs.map e)) ≤ n
  | [], _ => ⟨rfl, Nat.zero_le _⟩
  | x :: xs, hx => by
    obtain ⟨a, b⟩ := Enc.lays q xs fun y hy => hx y (List.mem_cons_of_mem _ hy)
    obtain ⟨c, d⟩ := q.lay x (hx x List.mem_cons_self)
    rw [List.map_cons]
    unfold toPs canLayAll0 depthAll
    exact ⟨by rw [c, a]; rfl, Nat.max_le.mpr ⟨d, b⟩⟩
theorem Enc.eqs (q : Enc e G n) : ∀ xs ys : List α, eqvAll (toPs (xs.map e)) (toPs (ys.map e)) = true ↔ xs = ys
  | [], [] => ⟨fun _ => rfl, fun _ => rfl⟩
  | [], y :: ys => ⟨fun z => (Bool.false_ne_true z).elim, fun z => (by cases z)⟩
  | x :: xs, [] => ⟨fun z => (Bool.false_ne_true z).elim, fun z => (by cases z)⟩
  | x :: xs, y :: ys => by
    rw [List.map_cons, List.map_cons]
    unfold toPs eqvAll
    rw [Bool.and_eq_true, q.eq, Enc.eqs q xs ys, List.cons.injEq]
theorem Enc.lst (q : Enc e G n) : Enc (fun l => D.lst (List.map e l)) (fun l => ∀ x ∈ l, G x) (n + 1) where
  lay := fun a h => by
    obtain ⟨c, d⟩ := q.lays a h
    show canLay0 (.list (toPs (a.map e))) = true ∧ depth (.list (toPs (a.map e))) ≤ n + 1
    unfold canLay0 depth
    exact ⟨c, by omega⟩
  eq := fun a b => by
    show eqv (.list (toPs (a.map e))) (.list (toPs (b.map e))) = true ↔ _
    unfold eqv
    exact q.eqs a b
theorem tup_lay {ds : List D} (h : ∀ d ∈ ds, canLay0 (toP d) = true ∧ depth (toP d) ≤ n) : canLay0 (toP (.tup ds)) = true ∧ depth (toP (.tup ds)) ≤ n + 1 := by
  have key : ∀ ds : List D, (∀ d ∈ ds, canLay0 (toP d) = true ∧ depth (toP d) ≤ n) → canLayAll0 (toPs ds) = true ∧ depthAll (toPs ds) ≤ n := by
    intro ds
    induction ds with
    | nil => intro _; exact ⟨rfl, Nat.zero_le _⟩
    | cons d r ih =>
      intro h
      obtain ⟨a, b⟩ := ih fun y hy => h y (List.mem_cons_of_mem _ hy)
      obtain ⟨c, d⟩ := h d List.mem_cons_self
      unfold toPs canLayAll0 depthAll
      exact ⟨by rw [c, a]; rfl, Nat.max_le.mpr ⟨d, b⟩⟩
  obtain ⟨a, b⟩ := key ds h
  show canLay0 (.tuple (toPs ds)) = true ∧ depth (.tuple (toPs ds)) ≤ n + 1
  unfold canLay0 depth
  exact ⟨a, by omega⟩
theorem tup_eqv (xs ys : List D) : eqv (toP (.tup xs)) (toP (.tup ys)) = eqvAll (toPs xs) (toPs ys) := by
  show eqv (.tuple (toPs xs)) (.tuple (toPs ys)) = _
  unfold eqv
  rfl
theorem cons_eqv (x y : D) (xs ys : List D) : eqvAll (toPs (x :: xs)) (toPs (y :: ys)) = (eqv (toP x) (toP y) && eqvAll (toPs xs) (toPs ys)) := by
  rw [toPs, toPs, eqvAll]
theorem nil_eqv : eqvAll (toPs []) (toPs []) = true := rfl
theorem lay_le {d : PyData} {n m : Nat} (h : canLay0 d = true ∧ depth d ≤ n) (q : n ≤ m) : canLay0 d = true ∧ depth d ≤ m := ⟨h.1, Nat.le_trans h.2 q⟩
theorem Enc.t2 (q : Enc e G n) (r : Enc f F n) : Enc (fun p : α × β => D.tup [e p.1, f p.2]) (fun p => G p.1 ∧ F p.2) (n + 1) where
  lay := fun a h => tup_lay fun d hd => by
    simp only [List.mem_cons, List.not_mem_nil, or_false] at hd
    rcases hd with rfl | rfl
    · exact q.lay _ h.1
    · exact r.lay _ h.2
  eq := fun a b => by
    rw [tup_eqv, cons_eqv, cons_eqv, nil_eqv, Bool.and_true, Bool.and_eq_true, q.eq, r.eq, Prod.ext_iff]
theorem Enc.t3 (q : Enc e G n) (r : Enc f F n) (s : Enc g H n) : Enc (fun p : α × β × γ => D.tup [e p.1, f p.2.1, g p.2.2]) (fun p => G p.1 ∧ F p.2.1 ∧ H p.2.2) (n + 1) where
  lay := fun a h => tup_lay fun d hd => by
    simp only [List.mem_cons, List.not_mem_nil, or_false] at hd
    rcases hd with rfl | rfl | rfl
    · exact q.lay _ h.1
    · exact r.lay _ h.2.1
    · exact s.lay _ h.2.2
  eq := fun a b => by
    rw [tup_eqv, cons_eqv, cons_eqv, cons_eqv, nil_eqv, Bool.and_true, Bool.and_eq_true, Bool.and_eq_true, q.eq, r.eq, s.eq, Prod.ext_iff, Prod.ext_iff]
theorem Enc.t4 (q : Enc e G n) (r : Enc f F n) (s : Enc g H n) (t : Enc h I n) : Enc (fun p : α × β × γ × δ => D.tup [e p.1, f p.2.1, g p.2.2.1, h p.2.2.2]) (fun p => G p.1 ∧ F p.2.1 ∧ H p.2.2.1 ∧ I p.2.2.2) (n + 1) where
  lay := fun a h => tup_lay fun d hd => by
    simp only [List.mem_cons, List.not_mem_nil, or_false] at hd
    rcases hd with rfl | rfl | rfl | rfl
    · exact q.lay _ h.1
    · exact r.lay _ h.2.1
    · exact s.lay _ h.2.2.1
    · exact t.lay _ h.2.2.2
  eq := fun a b => by
    rw [tup_eqv, cons_eqv, cons_eqv, cons_eqv, cons_eqv, nil_eqv, Bool.and_true, Bool.and_eq_true, Bool.and_eq_true, Bool.and_eq_true, q.eq, r.eq, s.eq, t.eq, Prod.ext_iff, Prod.ext_iff, Prod.ext_iff]
theorem Enc.t5 (q : Enc e G n) (r : Enc f F n) (s : Enc g H n) (t : Enc h I n) (u : Enc i J n) : Enc (fun p : α × β × γ × δ × ε => D.tup [e p.1, f p.2.1, g p.2.2.1, h p.2.2.2.1, i p.2.2.2.2]) (fun p => G p.1 ∧ F p.2.1 ∧ H p.2.2.1 ∧ I p.2.2.2.1 ∧ J p.2.2.2.2) (n + 1) where
  lay := fun a h => tup_lay fun d hd => by
    simp only [List.mem_cons, List.not_mem_nil, or_false] at hd
    rcases hd with rfl | rfl | rfl | rfl | rfl
    · exact q.lay _ h.1
    · exact r.lay _ h.2.1
    · exact s.lay _ h.2.2.1
    · exact t.lay _ h.2.2.2.1
    · exact u.lay _ h.2.2.2.2
  eq := fun a b => by
    rw [tup_eqv, cons_eqv, cons_eqv, cons_eqv, cons_eqv, cons_eqv, nil_eqv, Bool.and_true, Bool.and_eq_true, Bool.and_eq_true, Bool.and_eq_true, Bool.and_eq_true, q.eq, r.eq, s.eq, t.eq, u.eq, Prod.ext_iff, Prod.ext_iff, Prod.ext_iff, Prod.ext_iff]
theorem Enc.up (q : Enc e G n) (h : n ≤ m) : Enc e G m := ⟨fun a ha => lay_le (q.lay a ha) h, q.eq⟩
theorem Enc.shaped (q : Enc e G n) (h : n ≤ 64) {a : α} (ha : G a) : SeqAt.shaped (toP (e a)) = true := by
  obtain ⟨c, d⟩ := q.lay a ha
  unfold SeqAt.shaped
  rw [c, decide_eq_true (by omega)]
  rfl
theorem Enc.eqB [DecidableEq α] (q : Enc e G n) (a b : α) : eqv (toP (e a)) (toP (e b)) = decide (a = b) := by
  by_cases h : a = b
  · rw [decide_eq_true h]; exact (q.eq a b).mpr h
  · rw [decide_eq_false h]
    cases hb : eqv (toP (e a)) (toP (e b)) with
    | false => rfl
    | true => exact absurd ((q.eq a b).mp hb) h
/-- == of lists -/
theorem eq_lst [DecidableEq α] (q : Enc e G n) (h : n ≤ 62) {xs ys : List α} (hx : ∀ x ∈ xs, G x) (hy : ∀ x ∈ ys, G x) : eqE (.lst (xs.map e)) (.lst (ys.map e)) = .ok (.bl (decide (xs = ys))) := by
  have s1 := q.lst.shaped (by omega) (a := xs) hx
  have s2 := q.lst.shaped (by omega) (a := ys) hy
  have e1 := q.lst.eqB xs ys
  show (Res.map D.bl (if SeqAt.shaped (toP (.lst (xs.map e))) && SeqAt.shaped (toP (.lst (ys.map e))) then .ok (PyData.eqv (toP (.lst (xs.map e))) (toP (.lst (ys.map e)))) else .st)) = _
  rw [s1, s2, e1]
  rfl
theorem ne_lst [DecidableEq α] (q : Enc e G n) (h : n ≤ 62) {xs ys : List α} (hx : ∀ x ∈ xs, G x) (hy : ∀ x ∈ ys, G x) : neE (.lst (xs.map e)) (.lst (ys.map e)) = .ok (.bl (!decide (xs = ys))) := by
  have s1 := q.lst.shaped (by omega) (a := xs) hx
  have s2 := q.lst.shaped (by omega) (a := ys) hy
  have e1 := q.lst.eqB xs ys
  show (Res.map (fun t => D.bl (!t)) (if SeqAt.shaped (toP (.lst (xs.map e))) && SeqAt.shaped (toP (.lst (ys.map e))) then .ok (PyData.eqv (toP (.lst (xs.map e))) (toP (.lst (ys.map e)))) else .st)) = _
  rw [s1, s2, e1]
  rfl
/-- == of tuples -/
theorem eq_tup [DecidableEq α] (q : Enc e G n) (h : n ≤ 64) {x y : α} {xs ys : List D} (ex : e x = .tup xs) (ey : e y = .tup ys) (hx : G x) (hy : G y) : eqE (e x) (e y) = .ok (.bl (decide (x = y))) := by
  have s1 := q.shaped h hx
  have s2 := q.shaped h hy
  have e1 := q.eqB x y
  rw [ex, ey] at *
  show (Res.map D.bl (if SeqAt.shaped (toP (.tup xs)) && SeqAt.shaped (toP (.tup ys)) then .ok (PyData.eqv (toP (.tup xs)) (toP (.tup ys))) else .st)) = _
  rw [s1, s2, e1]
  rfl
theorem ne_tup [DecidableEq α] (q : Enc e G n) (h : n ≤ 64) {x y : α} {xs ys : List D} (ex : e x = .tup xs) (ey : e y = .tup ys) (hx : G x) (hy : G y) : neE (e x) (e y) = .ok (.bl (!decide (x = y))) := by
  have s1 := q.shaped h hx
  have s2 := q.shaped h hy
  have e1 := q.eqB x y
  rw [ex, ey] at *
  show (Res.map (fun t => D.bl (!t)) (if SeqAt.shaped (toP (.tup xs)) && SeqAt.shaped (toP (.tup ys)) then .ok (PyData.eqv (toP (.tup xs)) (toP (.tup ys))) else .st)) = _
  rw [s1, s2, e1]
  rfl
theorem any_eqv [DecidableEq α] (q : Enc e G n) (a : α) : ∀ xs : List α, (toPs (xs.map e)).any (fun z => eqv z (toP (e a))) = decide (a ∈ xs)
  | [] => rfl
  | x :: xs => by
    rw [List.map_cons]
    unfold toPs
    rw [List.any_cons, any_eqv q a xs, q.eqB]
    by_cases h : x = a
    · subst h; simp
    · rw [decide_eq_false h, Bool.false_or]
      by_cases h2 : a ∈ xs
      · rw [decide_eq_true h2, decide_eq_true (List.mem_cons_of_mem _ h2)]
      · rw [decide_eq_false h2, decide_eq_false fun z => (List.mem_cons.mp z).elim (fun w => h w.symm) h2]
/-- a tuple in a list -/
theorem in_tup [DecidableEq α] (q : Enc e G n) (h : n ≤ 62) {a : α} {xs : List α} (ds : List D) (ea : e a = .tup ds) (ha : G a) (hx : ∀ x ∈ xs, G x) : inD (e a) (.lst (xs.map e)) = .ok (decide (a ∈ xs)) := by
  have s1 := q.shaped (by omega) ha
  have s2 := q.lst.shaped (by omega) (a := xs) hx
  have e1 := any_eqv q a xs
  rw [ea] at *
  show (if false && (xs.map e).all flatD then Res.ok ((xs.map e).any fun y => eqF y (.tup ds)) else if SeqAt.shaped (toP (.tup ds)) && SeqAt.shaped (.list (toPs (xs.map e))) then .ok ((toPs (xs.map e)).any fun z => PyData.eqv z (toP (.tup ds))) else .st) = _
  rw [Bool.false_and, if_neg Bool.false_ne_true, s1, show SeqAt.shaped (.list (toPs (xs.map e))) = true from s2, Bool.and_self, if_pos rfl, e1]
theorem in_str (z : Str) (zs : List Str) : inD (.str z) (.lst (zs.map D.str)) = .ok (decide (z ∈ zs)) := by
  have hf : (zs.map D.str).all flatD = true := by
    rw [List.all_eq_true]
    intro d hd
    obtain ⟨y, _, rfl⟩ := List.mem_map.mp hd
    rfl
  have ha : ((zs.map D.str).any fun y => eqF y (.str z)) = decide (z ∈ zs) := by
    induction zs with
    | nil => rfl
    | cons y r ih =>
      rw [List.map_cons, List.any_cons, ih (by rw [List.all_eq_true] at hf ⊢; exact fun d hd => hf d (by rw [List.map_cons]; exact List.mem_cons_of_mem _ hd))]
      show ((y == z) || decide (z ∈ r)) = _
      by_cases h : y = z
      · subst h; simp
      · rw [beq_false_of_ne h, Bool.false_or]
        by_cases h2 : z ∈ r
        · rw [decide_eq_true h2, decide_eq_true (List.mem_cons_of_mem _ h2)]
        · rw [decide_eq_false h2, decide_eq_false fun w => (List.mem_cons.mp w).elim (fun w => h w.symm) h2]
  show (if true && (zs.map D.str).all flatD then Res.ok ((zs.map D.str).any fun y => eqF y (.str z)) else _) = _
  rw [hf, Bool.and_self, if_pos rfl, ha]
theorem inB_of {a b : D} {t : Bool} (h : inD a b = .ok t) : inB a b = .ok (.bl t) := by unfold inB; rw [h]; rfl
theorem notInB_of {a b : D} {t : Bool} (h : inD a b = .ok t) : notInB a b = .ok (.bl (!t)) := by unfold notInB; rw [h]; rfl
theorem asB_ok (t : Bool) : asB (.ok (.bl t)) = some t := rfl
end
end Ly

set_option Elab.async false
set_option linter.all false
set_option maxRecDepth 100000
/-! LyZ2: plain rules of dicts, of sorted rows that begin with two whole numbers, of the greatest number. -/
namespace Ly
open PySem L2 PyProof.Rows
section
variable {κ α : Type} [DecidableEq κ]
theorem dgt_nil (k : κ) : dgt ([] : List (κ × α)) k = none := rfl
theorem dgt_cons (p : κ × α) (r : List (κ × α)) (k : κ) : dgt (p :: r) k = if p.1 = k then some p.2 else dgt r k := by
  unfold dgt
  rw [List.find?_cons]
  by_cases h : p.1 = k
  · rw [if_pos h, decide_eq_true h]; rfl
  · rw [if_neg h, decide_eq_false h]
theorem dgt_some_iff {k : κ} : ∀ {s : List (κ × α)}, (dgt s k).isSome = true ↔ k ∈ s.map (·.1)
  | [] => by simp [dgt_nil]
  | p :: r => by
    rw [dgt_cons, List.map_cons, List.mem_cons]
    by_cases h : p.1 = k
    · rw [if_pos h]; simp [h]
    · rw [if_neg h, dgt_some_iff]
      exact ⟨.inr, fun q => q.elim (fun e => (h e.symm).elim) id⟩
theorem dgt_none {k : κ} {s : List (κ × α)} (h : k ∉ s.map (·.1)) : dgt s k = none := by
  cases e : dgt s k with
  | none => rfl
  | some x => exact (h (dgt_some_iff.mp (by rw [e]; rfl))).elim
theorem dgt_mem {k : κ} {x : α} : ∀ {s : List (κ × α)}, (s.map (·.1)).Nodup → (k, x) ∈ s → dgt s k = some x
  | p :: r, nd, h => by
    rw [List.map_cons, List.nodup_cons] at nd
    rw [dgt_cons]
    rcases List.mem_cons.mp h with e | h
    · subst e; rw [if_pos rfl]
    · rw [if_neg fun e => nd.1 (by rw [show p.1 = k from e]; exact List.mem_map.mpr ⟨_, h, rfl⟩)]
      exact dgt_mem nd.2 h
theorem mem_dgt {k : κ} {x : α} : ∀ {s : List (κ × α)}, dgt s k = some x → (k, x) ∈ s
  | p :: r, h => by
    rw [dgt_cons] at h
    by_cases e : p.1 = k
    · rw [if_pos e] at h
      cases h
      subst e
      exact List.mem_cons_self
    · rw [if_neg e] at h
      exact List.mem_cons_of_mem _ (mem_dgt h)
theorem dgt_dpt (k k' : κ) (x : α) : ∀ s : List (κ × α), dgt (dpt s k x) k' = if k = k' then some x else dgt s k'
  | [] => by rw [dpt, dgt_cons]
  | p :: r => by
    unfold dpt
    by_cases h : p.1 = k
    · rw [if_pos h, dgt_cons, dgt_cons]
      by_cases e : k = k'
      · rw [if_pos e, if_pos e]
      · rw [if_neg e, if_neg e, if_neg (by rw [h]; exact e)]
    · rw [if_neg h, dgt_cons, dgt_cons, dgt_dpt k k' x r]
      by_cases e : k = k'
      · subst e; rw [if_pos rfl, if_neg h, if_pos rfl]
      · rw [if_neg e, if_neg e]
theorem dpt_new {k : κ} {x : α} : ∀ {s : List (κ × α)}, k ∉ s.map (·.1) → dpt s k x = s ++ [(k, x)]
  | [], _ => rfl
  | p :: r, h => by
    rw [List.map_cons, List.mem_cons, not_or] at h
    unfold dpt
    rw [if_neg fun e => h.1 e.symm, dpt_new h.2]
    rfl
theorem dpt_same {k : κ} {x : α} : ∀ {s : List (κ × α)}, dgt s k = some x → dpt s k x = s
  | p :: r, h => by
    rw [dgt_cons] at h
    unfold dpt
    by_cases e : p.1 = k
    · rw [if_pos e] at h ⊢
      cases h
      subst e
      rfl
    · rw [if_neg e] at h ⊢
      rw [dpt_same h]
theorem is_dpG {k : κ} {x : α} {s : List (κ × α)} (h : s.length ≤ 10000000) (nd : (s.map (·.1)).Nodup) : dpG s k x = some (dpt s k x) := by
  unfold dpG
  rw [if_pos (by rw [Bool.and_eq_true]; exact ⟨a_small h, decide_eq_true nd⟩)]
theorem foldl_nd : ∀ (xs s : List (κ × α)), ((s ++ xs).map (·.1)).Nodup → xs.foldl (fun acc p => dpt acc p.1 p.2) s = s ++ xs
  | [], s, _ => by rw [List.append_nil]; rfl
  | x :: xs, s, nd => by
    rw [List.foldl_cons, dpt_new, foldl_nd xs]
    · rw [List.append_assoc]; rfl
    · rw [List.append_assoc]; exact nd
    · rw [List.map_append, List.map_cons, List.nodup_append] at nd
      exact fun h => nd.2.2 _ h _ List.mem_cons_self rfl
theorem dmk_nd {xs : List (κ × α)} (nd : (xs.map (·.1)).Nodup) : dmk xs = xs := foldl_nd xs [] nd
end
theorem in_bl (z : Bool) (zs : List Bool) : inD (.bl z) (.lst (zs.map D.bl)) = .ok (decide (z ∈ zs)) := by
  have hf : (zs.map D.bl).all flatD = true := by
    rw [List.all_eq_true]
    intro d hd
    obtain ⟨y, _, rfl⟩ := List.mem_map.mp hd
    rfl
  have ha : ((zs.map D.bl).any fun y => eqF y (.bl z)) = decide (z ∈ zs) := by
    clear hf
    induction zs with
    | nil => rfl
    | cons y r ih =>
      rw [List.map_cons, List.any_cons, ih]
      show ((y == z) || decide (z ∈ r)) = _
      cases y <;> cases z <;> simp
  show (if true && (zs.map D.bl).all flatD then Res.ok ((zs.map D.bl).any fun y => eqF y (.bl z)) else _) = _
  rw [hf, Bool.and_self, if_pos rfl, ha]
/-! loops that put behind -/
theorem loop_fil {α β : Type} {body : α → List β → Option (List β)} {p : α → Bool} {g : α → β} : ∀ (r : List α) (s : List β), s.length + r.length ≤ 10000 → (∀ y ∈ r, ∀ s, s.length ≤ 10000 → body y s = some (if p y = true then s ++ [g y] else s)) → forF body r s = some (s ++ (r.filter p).map g)
  | [], s, _, _ => by rw [List.filter_nil, List.map_nil, List.append_nil]; rfl
  | y :: r, s, hl, h => by
    rw [List.length_cons] at hl
    show (body y s).bind (fun s => forF body r s) = _
    rw [h y List.mem_cons_self s (by omega), Option.bind_some]
    have h' : ∀ y ∈ r, ∀ s, s.length ≤ 10000 → body y s = some (if p y = true then s ++ [g y] else s) := fun z hz => h z (List.mem_cons_of_mem _ hz)
    cases hp : p y with
    | true =>
      rw [if_pos rfl, loop_fil r _ (by rw [List.length_append, List.length_singleton]; omega) h', List.filter_cons_of_pos hp, List.map_cons, List.append_assoc]
      rfl
    | false => rw [if_neg Bool.false_ne_true, loop_fil r _ (by omega) h', List.filter_cons_of_neg (by rw [hp]; exact Bool.false_ne_true)]
theorem loop_flat {α β : Type} {body : α → List β → Option (List β)} {f : α → List β} (n : Nat) : ∀ (r : List α) (s : List β), s.length + r.length * n ≤ 9000 → (∀ y ∈ r, (f y).length ≤ n) → (∀ y ∈ r, ∀ s, s.length ≤ 9000 → body y s = some (s ++ f y)) → forF body r s = some (s ++ r.flatMap f)
  | [], s, _, _, _ => by rw [List.flatMap_nil, List.append_nil]; rfl
  | y :: r, s, hl, hn, h => by
    rw [List.length_cons, Nat.succ_mul] at hl
    have hy := hn y List.mem_cons_self
    show (body y s).bind (fun s => forF body r s) = _
    rw [h y List.mem_cons_self s (by omega), Option.bind_some, loop_flat n r _ (by rw [List.length_append]; omega) (fun z hz => hn z (List.mem_cons_of_mem _ hz)) fun z hz => h z (List.mem_cons_of_mem _ hz), List.flatMap_cons, List.append_assoc]
theorem forB_unit {α ρ : Type} {f : α → Unit → Option (Bo Unit ρ)} (h : ∀ x, f x () = some (.nx ())) : ∀ l : List α, forB f l () = some (.nx ())
  | [] => rfl
  | x :: l => by
    show (f x ()).bind _ = _
    rw [h x, Option.bind_some]
    exact forB_unit h l
theorem enumF_snd {α : Type} (xs : List α) : ∀ j, (enumF j xs).map (·.2) = xs := by
  induction xs with
  | nil => intro j; rfl
  | cons x r ih =>
    intro j
    show x :: (enumF (j + 1) r).map (·.2) = _
    rw [ih]
/-! the greatest -/
theorem best_zero : ∀ (n : Int) (zs : List Int), 0 ≤ n → (∀ z ∈ zs, z = 0) → bestI true n zs = n
  | n, [], _, _ => rfl
  | n, z :: zs, h, q => by
    have hz := q z List.mem_cons_self
    subst hz
    have := best_zero n zs h fun z hz => q z (List.mem_cons_of_mem _ hz)
    unfold bestI at this ⊢
    rw [if_pos rfl] at this ⊢
    rw [List.foldl_cons, Int.max_eq_left h]
    exact this
/-! rows that begin with two whole numbers -/
theorem le_iiss (i j k l : Int) (a b c d : Str) (h : ¬ (i = k ∧ j = l) ∨ (a = c ∧ b = d)) : leDat (.tup [.int i, .int j, .str a, .str b]) (.tup [.int k, .int l, .str c, .str d]) = decide (i < k ∨ i = k ∧ j ≤ l) := by
  have e : ∀ R T : List (Int ⊕ List Nat), PyProof.Rows.lexLt itemOrd (.inl 1 :: .inl k :: .inl 1 :: .inl l :: R) (.inl 1 :: .inl i :: .inl 1 :: .inl j :: T) = (decide (k < i) || (!decide (i < k) && (decide (l < j) || (!decide (j < l) && PyProof.Rows.lexLt itemOrd R T)))) := fun R T => by
    rw [lex_self, lex_cons, lex_self, lex_cons]
    rfl
  show (!PyProof.Rows.lexLt itemOrd (PySem.W.keyToks (.tuple [.int k, .int l, .str c, .str d])) (PySem.W.keyToks (.tuple [.int i, .int j, .str a, .str b]))) = _
  simp only [PySem.W.keyToks, PySem.W.keyToksAll, List.cons_append, List.nil_append]
  rw [e]
  rcases h with h | ⟨rfl, rfl⟩
  · by_cases h1 : i = k
    · subst h1
      have h2 : ¬ j = l := fun q => h ⟨rfl, q⟩
      by_cases h3 : l < j
      · simp [h3, Int.lt_irrefl, show ¬ j ≤ l by omega]
      · simp [h3, Int.lt_irrefl, show j < l by omega, show j ≤ l by omega]
    · by_cases h3 : k < i
      · simp [h3, show ¬ i < k by omega, h1]
      · simp [h3, show i < k by omega]
  · rw [lex_irrefl]
    by_cases h1 : i = k
    · subst h1
      by_cases h3 : l < j
      · simp [h3, Int.lt_irrefl, show ¬ j ≤ l by omega]
      · simp [h3, Int.lt_irrefl, show j ≤ l by omega]
    · by_cases h3 : k < i
      · simp [h3, show ¬ i < k by omega, h1]
      · simp [h3, show i < k by omega]
theorem ok_iiss {α : Type} {E : α → D} (xs : List α) (hE : ∀ x ∈ xs, ∃ i j a b, E x = .tup [.int i, .int j, .str a, .str b] ∧ PyData.strOk a = true ∧ PyData.strOk b = true) : okSort (xs.map E) = true := by
  unfold okSort
  rw [List.all_eq_true]
  intro d hd
  obtain ⟨x, hx, rfl⟩ := List.mem_map.mp hd
  obtain ⟨i, j, a, b, e, ha, hb⟩ := hE x hx
  have hs := fun (z : Str) (hz : PyData.strOk z = true) => Enc.str.lay z hz
  obtain ⟨l1, l2⟩ := tup_lay (n := 0) (ds := [.int i, .int j, .str a, .str b]) fun d hd => by
    simp only [List.mem_cons, List.not_mem_nil, or_false] at hd
    rcases hd with rfl | rfl | rfl | rfl
    · exact Enc.int.lay _ trivial
    · exact Enc.int.lay _ trivial
    · exact hs a ha
    · exact hs b hb
  rw [e, Bool.and_eq_true, Bool.and_eq_true, Bool.and_eq_true, List.all_eq_true]
  refine ⟨⟨⟨?_, rfl⟩, decide_eq_true (by omega)⟩, fun d hd => ?_⟩
  · show SeqAt.shaped _ = true
    unfold SeqAt.shaped
    rw [l1, decide_eq_true (by omega)]
    rfl
  obtain ⟨y, hy, rfl⟩ := List.mem_map.mp hd
  obtain ⟨k, l, c, d, e, _, _⟩ := hE y hy
  rw [e]
  rfl
/-- sorted rows, where the two numbers tell the rows -/
theorem srt_iiss {α : Type} {E : α → D} {A B : α → Int} {X Y : α → Str} (hE : ∀ x, E x = .tup [.int (A x), .int (B x), .str (X x), .str (Y x)]) {xs ys : List α} (hp : xs.Perm ys) (hn : ∀ x ∈ ys, PyData.strOk (X x) = true ∧ PyData.strOk (Y x) = true)
    (inj : ∀ x ∈ ys, ∀ y ∈ ys, A x = A y → B x = B y → x = y) (hs : ys.Pairwise fun x y => A x < A y ∨ A x = A y ∧ B x < B y) : srtG E xs = some ys := by
  let le : α → α → Bool := fun x y => decide (A x < A y ∨ A x = A y ∧ B x ≤ B y)
  have hle : ∀ x y, le x y = true ↔ (A x < A y ∨ A x = A y ∧ B x ≤ B y) := fun x y => decide_eq_true_iff
  have inj' : ∀ x ∈ xs, ∀ y ∈ xs, A x = A y → B x = B y → x = y := fun x hx y hy => inj x (hp.mem_iff.mp hx) y (hp.mem_iff.mp hy)
  have h1 : xs.mergeSort le = ys := by
    refine List.Perm.eq_of_pairwise (le := fun x y => le x y = true) ?_ (List.pairwise_mergeSort ?_ ?_ xs) ?_ ((List.mergeSort_perm xs le).trans hp)
    · intro a b ha hb h1 h2
      rw [hle] at h1 h2
      have ha := hp.mem_iff.mp ((List.mergeSort_perm xs le).mem_iff.mp ha)
      exact inj a ha b hb (by omega) (by omega)
    · intro a b c h1 h2
      rw [hle] at h1 h2 ⊢
      omega
    · intro a b
      rw [Bool.or_eq_true, hle, hle]
      omega
    · exact hs.imp fun {x y} h => (hle x y).mpr (by omega)
  have h2 : xs.mergeSort (fun a b => leDat (E a) (E b)) = xs.mergeSort le := by
    have := List.map_mergeSort (r := le) (s := fun a b => leDat (E a) (E b)) (f := fun x : α => x) (l := xs) fun a ha b hb => by
      show le a b = leDat (E a) (E b)
      rw [hE a, hE b, le_iiss]
      by_cases q : A a = A b ∧ B a = B b
      · have := inj' a ha b hb q.1 q.2
        subst this
        exact .inr ⟨rfl, rfl⟩
      · exact .inl q
    rw [List.map_id', List.map_id'] at this
    exact this.symm
  unfold srtG
  cases xs with
  | nil =>
    rw [List.nil_perm.mp hp]
  | cons x r =>
    simp only
    rw [if_pos (ok_iiss _ fun x hx => ⟨_, _, _, _, hE x, hn x (hp.mem_iff.mp hx)⟩), h2, h1]
end Ly

set_option Elab.async false
set_option linter.all false
set_option maxRecDepth 100000
set_option maxHeartbeats 4000000
namespace My
open PySem L2 Ly

@[simp] def e_T2IS (x : (Int × Str)) : D := (D.tup [(D.int x.1), (D.str x.2)])
noncomputable def p__law_rows (cell : Int) : Option (List Str) :=
  (rg1 ((1 : Int) + (cell % (5 : Int)))).bind fun (r : (List Int)) =>
  ((mapO (fun (x_ : Int) => ((atI ([("a" : Str), ("b" : Str), ("c" : Str), ("d" : Str), ("e" : Str)]) x_).bind fun (y : Str) => (muS y ((1 : Int) + ((cell / (5 : Int)) % (3 : Int)))).bind fun (z : Str) => (adS z (" i" : Str)).bind fun (z_2 : Str) => (muS ("j" : Str) (x_ % (3 : Int))).bind fun (z_3 : Str) => (adS z_2 z_3).bind fun (z_4 : Str) => some z_4)) r).bind gd).bind fun (l : (List Str)) =>
  some l
theorem e__law_rows (cell : Int) {r : (List Str)} (h : p__law_rows cell = some r) : r__law_rows [(D.int cell)] = .ok (W.lst (List.map D.str r)) := by
  unfold p__law_rows at h
  unfold r__law_rows
  refine goes_runD ?_
  rw [show slots _ _ = [(some (W.sh (D.int cell))), none] from rfl]
  unfold m__law_rows
  replace h := Option.bind_eq_some_iff.mp h; obtain ⟨r, h_r, h⟩ := h
  replace h := Option.bind_eq_some_iff.mp h; obtain ⟨l, h_l, h⟩ := h
  refine goes_ok (f := .rt (W.lst (List.map D.str l))) (by
      have hc_l : runC (mName 1) mTrue (mD (mOp addD (mD (mOp addD (mD (mOp mulD (mD (mOp ixD (mD (mLst (mCons (mD (mK (.str "a"))) (mCons (mD (mK (.str "b"))) (mCons (mD (mK (.str "c"))) (mCons (mD (mK (.str "d"))) (mCons (mD (mK (.str "e"))) mNil))))))) (mVarV 1))) (mD (mOp addD (mD (mK (.int 1))) (mD (mOpX modD (mD (mOpX fdivD (mVarX 0) (mD (mK (.int 5))))) (mD (mK (.int 3))))))))) (mD (mK (.str " i"))))) (mD (mOp mulD (mD (mK (.str "j"))) (mD (mOpX modD (mVarX 1) (mD (mK (.int 3))))))))) (List.map D.int r) [(some (W.sh (D.int cell))), none] = .ok (List.map D.str l) := by
        obtain ⟨l0, hl0, hg⟩ := Option.bind_eq_some_iff.mp h_l
        rw [← (gd_some hg).2]
        refine runC_mapO _ _ hl0 fun x_ _ y0_ hy => ⟨[(some (W.sh (D.int cell))), (some (W.sh (D.int x_)))], by first | rfl | simp [-Int.sub_pos, -v_mod, -v_fdiv, -v_muli, -v_adds, -v_addl, -v_lens, -v_sls, -v_ixl, -v_ixt, -v_ixr, -v_ixs, -v_mull, -v_isi, -a_mChain, -a_runD, -v_enuml, -v_enumr, -v_items], rfl, ?_⟩
        replace hy := Option.bind_eq_some_iff.mp hy; obtain ⟨y, h_y, hy⟩ := hy
        replace hy := Option.bind_eq_some_iff.mp hy; obtain ⟨z, h_z, hy⟩ := hy
        replace hy := Option.bind_eq_some_iff.mp hy; obtain ⟨z_2, h_z_2, hy⟩ := hy
        replace hy := Option.bind_eq_some_iff.mp hy; obtain ⟨z_3, h_z_3, hy⟩ := hy
        replace hy := Option.bind_eq_some_iff.mp hy; obtain ⟨z_4, h_z_4, hy⟩ := hy
        replace hy := Option.some.inj hy
        first | rfl | simp [-Int.sub_pos, -v_mod, -v_fdiv, -v_muli, -v_adds, -v_addl, -v_lens, -v_sls, -v_ixl, -v_ixt, -v_ixr, -v_ixs, -v_mull, -v_isi, -a_mChain, -a_runD, -v_enuml, -v_enumr, -v_items, (show ixD (D.lst [(D.str ("a" : Str)), (D.str ("b" : Str)), (D.str ("c" : Str)), (D.str ("d" : Str)), (D.str ("e" : Str))]) (D.int x_) = .ok (.sh (D.str y)) from ixL_some (e := D.str) h_y), muS_some h_z, adS_fact h_z_2, muS_some h_z_3, adS_fact h_z_4, ← hy]
      have hs_l : small (List.length l) = true := by obtain ⟨l0, hl0, hg⟩ := Option.bind_eq_some_iff.mp h_l; rw [← (gd_some hg).2]; exact (gd_some hg).1
      simp [-Int.sub_pos, -v_mod, -v_fdiv, -v_muli, -v_adds, -v_addl, -v_lens, -v_sls, -v_ixl, -v_ixt, -v_ixr, -v_ixs, -v_mull, -v_isi, -a_mChain, -a_runD, -v_enuml, -v_enumr, -v_items, (rg1_some h_r), ↓hc_l, hs_l]
      ) ?_
  cases h; rfl
noncomputable def p__law_spoilt (rows_here : (List Str)) (cell : Int) : Option Str :=
  (moI (cell / (24 : Int)) (List.length rows_here : Int)).bind fun (m : Int) =>
  (atI rows_here m).bind fun (y : Str) =>
  (splO y (" " : Str)).bind fun (z : (List Str)) =>
  (adS y (" " : Str)).bind fun (z_2 : Str) =>
  (adS (" " : Str) y).bind fun (z_3 : Str) =>
  (rpO " " "  " 1 y).bind fun (z_4 : Str) =>
  (atI z (0 : Int)).bind fun (y_2 : Str) =>
  (adS y (" 3" : Str)).bind fun (z_5 : Str) =>
  (adS y_2 (" " : Str)).bind fun (z_6 : Str) =>
  (atI z (2 : Int)).bind fun (y_3 : Str) =>
  (adS z_6 y_3).bind fun (z_7 : Str) =>
  (some ([z_2, z_3, z_4, y_2, z_5, z_7])).bind fun (some_ : (List Str)) =>
  (upO y).bind fun (z_8 : Str) =>
  (atI z (1 : Int)).bind fun (y_4 : Str) =>
  (adS ("abcdefghi " : Str) y_4).bind fun (z_9 : Str) =>
  (adS z_9 (" 4" : Str)).bind fun (z_10 : Str) =>
  (atI z (0 : Int)).bind fun (y_5 : Str) =>
  (adS y_5 (" " : Str)).bind fun (z_11 : Str) =>
  (adS z_11 y_4).bind fun (z_12 : Str) =>
  (adS z_12 (" 04" : Str)).bind fun (z_13 : Str) =>
  (adS y ("\n" : Str)).bind fun (z_14 : Str) =>
  (exL some_ ([z_8, z_10, z_13, z_14, ("" : Str)])).bind fun (l : (List Str)) =>
  (atI z (0 : Int)).bind fun (y_6 : Str) =>
  (adS y_6 (" " : Str)).bind fun (z_15 : Str) =>
  (atI z (1 : Int)).bind fun (y_7 : Str) =>
  (adS z_15 y_7).bind fun (z_16 : Str) =>
  (adS z_16 (" -1" : Str)).bind fun (z_17 : Str) =>
  (adS z_16 (" 1.0" : Str)).bind fun (z_18 : Str) =>
  (adS y ("; " : Str)).bind fun (z_19 : Str) =>
  (adS z_19 y).bind fun (z_20 : Str) =>
  (exL l ([z_17, z_18, z_20])).bind fun (l_2 : (List Str)) =>
  (gS y).bind fun (z_21 : Str) =>
  (adS ("zz" : Str) (cutS y (some (-1 : Int)) none)).bind fun (z_22 : Str) =>
  (atI z (1 : Int)).bind fun (y_8 : Str) =>
  (adS (" " : Str) y_8).bind fun (z_23 : Str) =>
  (adS z_23 (" 1" : Str)).bind fun (z_24 : Str) =>
  (atI z (0 : Int)).bind fun (y_9 : Str) =>
  (adS y_9 (" abcdefghi 1" : Str)).bind fun (z_25 : Str) =>
  (adS y_9 ("  1" : Str)).bind fun (z_26 : Str) =>
  (adS y (";" : Str)).bind fun (z_27 : Str) =>
  (exL l_2 ([z_22, z_24, z_25, z_26, z_27])).bind fun (l_3 : (List Str)) =>
  (atI z (1 : Int)).bind fun (y_10 : Str) =>
  (adS ("1 " : Str) y_10).bind fun (z_28 : Str) =>
  (adS z_28 (" 1" : Str)).bind fun (z_29 : Str) =>
  (atI z (0 : Int)).bind fun (y_11 : Str) =>
  (adS y_11 (" " : Str)).bind fun (z_30 : Str) =>
  (adS z_30 y_10).bind fun (z_31 : Str) =>
  (adS z_31 (" +1" : Str)).bind fun (z_32 : Str) =>
  (adS z_31 (" 1_0" : Str)).bind fun (z_33 : Str) =>
  (exL l_3 ([z_29, z_32, z_33])).bind fun (l_4 : (List Str)) =>
  (atI z (0 : Int)).bind fun (y_12 : Str) =>
  (adS y_12 (" I 1" : Str)).bind fun (z_34 : Str) =>
  (adS y_12 (" i1 1" : Str)).bind fun (z_35 : Str) =>
  (exL l_4 ([z_34, z_35])).bind fun (l_5 : (List Str)) =>
  (atI l_5 (cell % (24 : Int))).bind fun (y_13 : Str) =>
  (exL (cutD rows_here none (some m)) ([y_13])).bind fun (l_6 : (List Str)) =>
  (exL l_6 (cutD rows_here (some (m + (1 : Int))) none)).bind fun (l_7 : (List Str)) =>
  (jnO ("; " : Str) l_7).bind fun (z_36 : Str) =>
  some z_36
theorem e__law_spoilt (rows_here : (List Str)) (cell : Int) {r : Str} (h : p__law_spoilt rows_here cell = some r) : r__law_spoilt [(D.lst (List.map D.str rows_here)), (D.int cell)] = .ok (W.sh (D.str r)) := by
  unfold p__law_spoilt at h
  unfold r__law_spoilt
  refine goes_runD ?_
  rw [show slots _ _ = [(some (W.sh (D.lst (List.map D.str rows_here)))), (some (W.sh (D.int cell))), none, none, none, none] from rfl]
  unfold m__law_spoilt
  replace h := Option.bind_eq_some_iff.mp h; obtain ⟨m, h_m, h⟩ := h
  refine goes_nx (e' := [(some (W.sh (D.lst (List.map D.str rows_here)))), (some (W.sh (D.int cell))), (some (W.sh (D.int m))), none, none, none]) (by first | rfl | simp [-Int.sub_pos, -v_mod, -v_fdiv, -v_muli, -v_adds, -v_addl, -v_lens, -v_sls, -v_ixl, -v_ixt, -v_ixr, -v_ixs, -v_mull, -v_isi, -a_mChain, -a_runD, -v_enuml, -v_enumr, -v_items, moI_some h_m]) ?_
  replace h := Option.bind_eq_some_iff.mp h; obtain ⟨y, h_y, h⟩ := h
  refine goes_nx (e' := [(some (W.sh (D.lst (List.map D.str rows_here)))), (some (W.sh (D.int cell))), (some (W.sh (D.int m))), (some (W.sh (D.str y))), none, none]) (by first | rfl | simp [-Int.sub_pos, -v_mod, -v_fdiv, -v_muli, -v_adds, -v_addl, -v_lens, -v_sls, -v_ixl, -v_ixt, -v_ixr, -v_ixs, -v_mull, -v_isi, -a_mChain, -a_runD, -v_enuml, -v_enumr, -v_items, (show ixD (D.lst (List.map D.str rows_here)) (D.int m) = .ok (.sh (D.str y)) from ixL_some (e := D.str) h_y)]) ?_
  replace h := Option.bind_eq_some_iff.mp h; obtain ⟨z, h_z, h⟩ := h
  refine goes_nx (e' := [(some (W.sh (D.lst (List.map D.str rows_here)))), (some (W.sh (D.int cell))), (some (W.sh (D.int m))), (some (W.sh (D.str y))), (some (W.sh (D.lst (List.map D.str z)))), none]) (by first | rfl | simp [-Int.sub_pos, -v_mod, -v_fdiv, -v_muli, -v_adds, -v_addl, -v_lens, -v_sls, -v_ixl, -v_ixt, -v_ixr, -v_ixs, -v_mull, -v_isi, -a_mChain, -a_runD, -v_enuml, -v_enumr, -v_items, (splO_some h_z)]) ?_
  replace h := Option.bind_eq_some_iff.mp h; obtain ⟨z_2, h_z_2, h⟩ := h
  replace h := Option.bind_eq_some_iff.mp h; obtain ⟨z_3, h_z_3, h⟩ := h
  replace h := Option.bind_eq_some_iff.mp h; obtain ⟨z_4, h_z_4, h⟩ := h
  replace h := Option.bind_eq_some_iff.mp h; obtain ⟨y_2, h_y_2, h⟩ := h
  replace h := Option.bind_eq_some_iff.mp h; obtain ⟨z_5, h_z_5, h⟩ := h
  replace h := Option.bind_eq_some_iff.mp h; obtain ⟨z_6, h_z_6, h⟩ := h
  replace h := Option.bind_eq_some_iff.mp h; obtain ⟨y_3, h_y_3, h⟩ := h
  replace h := Option.bind_eq_some_iff.mp h; obtain ⟨z_7, h_z_7, h⟩ := h
  replace h := Option.bind_eq_some_iff.mp h; obtain ⟨some_, h_some_, h⟩ := h
  refine goes_nx (e' := [(some (W.sh (D.lst (List.map D.str rows_here)))), (some (W.sh (D.int cell))), (some (W.sh (D.int m))), (some (W.sh (D.str y))), (some (W.sh (D.lst (List.map D.str z)))), (some (W.sh (D.lst (List.map D.str some_))))]) (by first | rfl | simp [-Int.sub_pos, -v_mod, -v_fdiv, -v_muli, -v_adds, -v_addl, -v_lens, -v_sls, -v_ixl, -v_ixt, -v_ixr, -v_ixs, -v_mull, -v_isi, -a_mChain, -a_runD, -v_enuml, -v_enumr, -v_items, ← Option.some.inj h_some_, adS_fact h_z_2, adS_fact h_z_3, (rpO_some h_z_4), (show ixD (D.lst (List.map D.str z)) (D.int (0 : Int)) = .ok (.sh (D.str y_2)) from ixL_some (e := D.str) h_y_2), adS_fact h_z_5, adS_fact h_z_6, (show ixD (D.lst (List.map D.str z)) (D.int (2 : Int)) = .ok (.sh (D.str y_3)) from ixL_some (e := D.str) h_y_3), adS_fact h_z_7]) ?_
  replace h := Option.bind_eq_some_iff.mp h; obtain ⟨z_8, h_z_8, h⟩ := h
  replace h := Option.bind_eq_some_iff.mp h; obtain ⟨y_4, h_y_4, h⟩ := h
  replace h := Option.bind_eq_some_iff.mp h; obtain ⟨z_9, h_z_9, h⟩ := h
  replace h := Option.bind_eq_some_iff.mp h; obtain ⟨z_10, h_z_10, h⟩ := h
  replace h := Option.bind_eq_some_iff.mp h; obtain ⟨y_5, h_y_5, h⟩ := h
  replace h := Option.bind_eq_some_iff.mp h; obtain ⟨z_11, h_z_11, h⟩ := h
  replace h := Option.bind_eq_some_iff.mp h; obtain ⟨z_12, h_z_12, h⟩ := h
  replace h := Option.bind_eq_some_iff.mp h; obtain ⟨z_13, h_z_13, h⟩ := h
  replace h := Option.bind_eq_some_iff.mp h; obtain ⟨z_14, h_z_14, h⟩ := h
  replace h := Option.bind_eq_some_iff.mp h; obtain ⟨l, h_l, h⟩ := h
  refine goes_nx (e' := [(some (W.sh (D.lst (List.map D.str rows_here)))), (some (W.sh (D.int cell))), (some (W.sh (D.int m))), (some (W.sh (D.str y))), (some (W.sh (D.lst (List.map D.str z)))), (some (W.sh (D.lst (List.map D.str l))))]) (by first | rfl | simp [-Int.sub_pos, -v_mod, -v_fdiv, -v_muli, -v_adds, -v_addl, -v_lens, -v_sls, -v_ixl, -v_ixt, -v_ixr, -v_ixs, -v_mull, -v_isi, -a_mChain, -a_runD, -v_enuml, -v_enumr, -v_items, (upO_some h_z_8), (show ixD (D.lst (List.map D.str z)) (D.int (1 : Int)) = .ok (.sh (D.str y_4)) from ixL_some (e := D.str) h_y_4), adS_fact h_z_9, adS_fact h_z_10, (show ixD (D.lst (List.map D.str z)) (D.int (0 : Int)) = .ok (.sh (D.str y_5)) from ixL_some (e := D.str) h_y_5), adS_fact h_z_11, adS_fact h_z_12, adS_fact h_z_13, adS_fact h_z_14, (show addD (D.lst (List.map D.str some_)) (D.lst [(D.str z_8), (D.str z_10), (D.str z_13), (D.str z_14), (D.str ("" : Str))]) = .ok (.lst (List.map D.str l)) from exL_fact (e := D.str) h_l)]) ?_
  replace h := Option.bind_eq_some_iff.mp h; obtain ⟨y_6, h_y_6, h⟩ := h
  replace h := Option.bind_eq_some_iff.mp h; obtain ⟨z_15, h_z_15, h⟩ := h
  replace h := Option.bind_eq_some_iff.mp h; obtain ⟨y_7, h_y_7, h⟩ := h
  replace h := Option.bind_eq_some_iff.mp h; obtain ⟨z_16, h_z_16, h⟩ := h
  replace h := Option.bind_eq_some_iff.mp h; obtain ⟨z_17, h_z_17, h⟩ := h
  replace h := Option.bind_eq_some_iff.mp h; obtain ⟨z_18, h_z_18, h⟩ := h
  replace h := Option.bind_eq_some_iff.mp h; obtain ⟨z_19, h_z_19, h⟩ := h
  replace h := Option.bind_eq_some_iff.mp h; obtain ⟨z_20, h_z_20, h⟩ := h
  replace h := Option.bind_eq_some_iff.mp h; obtain ⟨l_2, h_l_2, h⟩ := h
  refine goes_nx (e' := [(some (W.sh (D.lst (List.map D.str rows_here)))), (some (W.sh (D.int cell))), (some (W.sh (D.int m))), (some (W.sh (D.str y))), (some (W.sh (D.lst (List.map D.str z)))), (some (W.sh (D.lst (List.map D.str l_2))))]) (by first | rfl | simp [-Int.sub_pos, -v_mod, -v_fdiv, -v_muli, -v_adds, -v_addl, -v_lens, -v_sls, -v_ixl, -v_ixt, -v_ixr, -v_ixs, -v_mull, -v_isi, -a_mChain, -a_runD, -v_enuml, -v_enumr, -v_items, (show ixD (D.lst (List.map D.str z)) (D.int (0 : Int)) = .ok (.sh (D.str y_6)) from ixL_some (e := D.str) h_y_6), adS_fact h_z_15, (show ixD (D.lst (List.map D.str z)) (D.int (1 : Int)) = .ok (.sh (D.str y_7)) from ixL_some (e := D.str) h_y_7), adS_fact h_z_16, adS_fact h_z_17, adS_fact h_z_18, adS_fact h_z_19, adS_fact h_z_20, (show addD (D.lst (List.map D.str l)) (D.lst [(D.str z_17), (D.str z_18), (D.str z_20)]) = .ok (.lst (List.map D.str l_2)) from exL_fact (e := D.str) h_l_2)]) ?_
  replace h := Option.bind_eq_some_iff.mp h; obtain ⟨z_21, h_z_21, h⟩ := h
  replace h := Option.bind_eq_some_iff.mp h; obtain ⟨z_22, h_z_22, h⟩ := h
  replace h := Option.bind_eq_some_iff.mp h; obtain ⟨y_8, h_y_8, h⟩ := h
  replace h := Option.bind_eq_some_iff.mp h; obtain ⟨z_23, h_z_23, h⟩ := h
  replace h := Option.bind_eq_some_iff.mp h; obtain ⟨z_24, h_z_24, h⟩ := h
  replace h := Option.bind_eq_some_iff.mp h; obtain ⟨y_9, h_y_9, h⟩ := h
  replace h := Option.bind_eq_some_iff.mp h; obtain ⟨z_25, h_z_25, h⟩ := h
  replace h := Option.bind_eq_some_iff.mp h; obtain ⟨z_26, h_z_26, h⟩ := h
  replace h := Option.bind_eq_some_iff.mp h; obtain ⟨z_27, h_z_27, h⟩ := h
  replace h := Option.bind_eq_some_iff.mp h; obtain ⟨l_3, h_l_3, h⟩ := h
  refine goes_nx (e' := [(some (W.sh (D.lst (List.map D.str rows_here)))), (some (W.sh (D.int cell))), (some (W.sh (D.int m))), (some (W.sh (D.str y))), (some (W.sh (D.lst (List.map D.str z)))), (some (W.sh (D.lst (List.map D.str l_3))))]) (by first | rfl | simp [-Int.sub_pos, -v_mod, -v_fdiv, -v_muli, -v_adds, -v_addl, -v_lens, -v_sls, -v_ixl, -v_ixt, -v_ixr, -v_ixs, -v_mull, -v_isi, -a_mChain, -a_runD, -v_enuml, -v_enumr, -v_items, (gS_some h_z_21).1, adS_fact h_z_22, (show ixD (D.lst (List.map D.str z)) (D.int (1 : Int)) = .ok (.sh (D.str y_8)) from ixL_some (e := D.str) h_y_8), adS_fact h_z_23, adS_fact h_z_24, (show ixD (D.lst (List.map D.str z)) (D.int (0 : Int)) = .ok (.sh (D.str y_9)) from ixL_some (e := D.str) h_y_9), adS_fact h_z_25, adS_fact h_z_26, adS_fact h_z_27, (show addD (D.lst (List.map D.str l_2)) (D.lst [(D.str z_22), (D.str z_24), (D.str z_25), (D.str z_26), (D.str z_27)]) = .ok (.lst (List.map D.str l_3)) from exL_fact (e := D.str) h_l_3)]) ?_
  replace h := Option.bind_eq_some_iff.mp h; obtain ⟨y_10, h_y_10, h⟩ := h
  replace h := Option.bind_eq_some_iff.mp h; obtain ⟨z_28, h_z_28, h⟩ := h
  replace h := Option.bind_eq_some_iff.mp h; obtain ⟨z_29, h_z_29, h⟩ := h
  replace h := Option.bind_eq_some_iff.mp h; obtain ⟨y_11, h_y_11, h⟩ := h
  replace h := Option.bind_eq_some_iff.mp h; obtain ⟨z_30, h_z_30, h⟩ := h
  replace h := Option.bind_eq_some_iff.mp h; obtain ⟨z_31, h_z_31, h⟩ := h
  replace h := Option.bind_eq_some_iff.mp h; obtain ⟨z_32, h_z_32, h⟩ := h
  replace h := Option.bind_eq_some_iff.mp h; obtain ⟨z_33, h_z_33, h⟩ := h
  replace h := Option.bind_eq_some_iff.mp h; obtain ⟨l_4, h_l_4, h⟩ := h
  refine goes_nx (e' := [(some (W.sh (D.lst (List.map D.str rows_here)))), (some (W.sh (D.int cell))), (some (W.sh (D.int m))), (some (W.sh (D.str y))), (some (W.sh (D.lst (List.map D.str z)))), (some (W.sh (D.lst (List.map D.str l_4))))]) (by first | rfl | simp [-Int.sub_pos, -v_mod, -v_fdiv, -v_muli, -v_adds, -v_addl, -v_lens, -v_sls, -v_ixl, -v_ixt, -v_ixr, -v_ixs, -v_mull, -v_isi, -a_mChain, -a_runD, -v_enuml, -v_enumr, -v_items, (show ixD (D.lst (List.map D.str z)) (D.int (1 : Int)) = .ok (.sh (D.str y_10)) from ixL_some (e := D.str) h_y_10), adS_fact h_z_28, adS_fact h_z_29, (show ixD (D.lst (List.map D.str z)) (D.int (0 : Int)) = .ok (.sh (D.str y_11)) from ixL_some (e := D.str) h_y_11), adS_fact h_z_30, adS_fact h_z_31, adS_fact h_z_32, adS_fact h_z_33, (show addD (D.lst (List.map D.str l_3)) (D.lst [(D.str z_29), (D.str z_32), (D.str z_33)]) = .ok (.lst (List.map D.str l_4)) from exL_fact (e := D.str) h_l_4)]) ?_
  replace h := Option.bind_eq_some_iff.mp h; obtain ⟨y_12, h_y_12, h⟩ := h
  replace h := Option.bind_eq_some_iff.mp h; obtain ⟨z_34, h_z_34, h⟩ := h
  replace h := Option.bind_eq_some_iff.mp h; obtain ⟨z_35, h_z_35, h⟩ := h
  replace h := Option.bind_eq_some_iff.mp h; obtain ⟨l_5, h_l_5, h⟩ := h
  refine goes_nx (e' := [(some (W.sh (D.lst (List.map D.str rows_here)))), (some (W.sh (D.int cell))), (some (W.sh (D.int m))), (some (W.sh (D.str y))), (some (W.sh (D.lst (List.map D.str z)))), (some (W.sh (D.lst (List.map D.str l_5))))]) (by first | rfl | simp [-Int.sub_pos, -v_mod, -v_fdiv, -v_muli, -v_adds, -v_addl, -v_lens, -v_sls, -v_ixl, -v_ixt, -v_ixr, -v_ixs, -v_mull, -v_isi, -a_mChain, -a_runD, -v_enuml, -v_enumr, -v_items, (show ixD (D.lst (List.map D.str z)) (D.int (0 : Int)) = .ok (.sh (D.str y_12)) from ixL_some (e := D.str) h_y_12), adS_fact h_z_34, adS_fact h_z_35, (show addD (D.lst (List.map D.str l_4)) (D.lst [(D.str z_34), (D.str z_35)]) = .ok (.lst (List.map D.str l_5)) from exL_fact (e := D.str) h_l_5)]) ?_
  replace h := Option.bind_eq_some_iff.mp h; obtain ⟨y_13, h_y_13, h⟩ := h
  replace h := Option.bind_eq_some_iff.mp h; obtain ⟨l_6, h_l_6, h⟩ := h
  replace h := Option.bind_eq_some_iff.mp h; obtain ⟨l_7, h_l_7, h⟩ := h
  replace h := Option.bind_eq_some_iff.mp h; obtain ⟨z_36, h_z_36, h⟩ := h
  refine goes_ok (f := .rt (W.sh (D.str z_36))) (by first | rfl | simp [-Int.sub_pos, -v_mod, -v_fdiv, -v_muli, -v_adds, -v_addl, -v_lens, -v_sls, -v_ixl, -v_ixt, -v_ixr, -v_ixs, -v_mull, -v_isi, -a_mChain, -a_runD, -v_enuml, -v_enumr, -v_items, (show ixD (D.lst (List.map D.str l_5)) (D.int (cell % (24 : Int))) = .ok (.sh (D.str y_13)) from ixL_some (e := D.str) h_y_13), (show addD (D.lst (List.map D.str (cutD rows_here none (some m)))) (D.lst [(D.str y_13)]) = .ok (.lst (List.map D.str l_6)) from exL_fact (e := D.str) h_l_6), (show addD (D.lst (List.map D.str l_6)) (D.lst (List.map D.str (cutD rows_here (some (m + (1 : Int))) none))) = .ok (.lst (List.map D.str l_7)) from exL_fact (e := D.str) h_l_7), (show joinD ("; " : Str) (D.lst (List.map D.str l_7)) = .ok (.sh (.str z_36)) from join_fact h_z_36)]) ?_
  cases h; rfl
noncomputable def p_law (script : List Int) : Option Bool :=
  (exL ([(3 : Int)]) (cutD script none (some (60 : Int)))).bind fun (l : (List Int)) =>
  (forB (ρ := Bool) (fun (x_ : Int) (s_ : Unit) =>
      (p__law_rows (x_ / (100 : Int))).bind fun (c : (List Str)) =>
      ((mapO (fun (x__2 : (Int × Str)) => ((adS x__2.2 (" " : Str)).bind fun (z : Str) => (muI ((x_ / (7 : Int)) % (9 : Int)) x__2.1).bind fun (p : Int) => (asSW (strD [(D.int p)])).bind fun (z_2 : Str) => (adS z z_2).bind fun (z_3 : Str) => some z_3)) (enumF 0 c)).bind gd).bind fun (l_2 : (List Str)) =>
      (jnO ("; " : Str) l_2).bind fun (z_4 : Str) =>
      (p_read_plan z_4).bind fun (c_2 : (List (Str × (Str × Int)))) =>
      ((if (!decide ((List.length c_2 : Int) = (List.length l_2 : Int))) = true then some true else ((p_read_plan ("" : Str)).bind fun (c_3 : (List (Str × (Str × Int)))) => (asB (neE (D.dic (List.map kS c_3) (List.map (fun (p : Str × (Str × Int)) => (D.tup [(D.str p.2.1), (D.int p.2.2)])) c_3)) (D.dic [] []))).bind fun (t : Bool) => some t))).bind fun (t_2 : Bool) =>
      if t_2 = true then (
        some (.rt false)
      ) else (
        ((if (decide ((1 : Int) < (List.length l_2 : Int))) = true then ((jnO ("; " : Str) l_2.reverse).bind fun (z_5 : Str) => (p__law_refused ((D.str z_5))).bind fun (c_4 : Bool) => some (!c_4)) else some false)).bind fun (t_3 : Bool) =>
        if t_3 = true then (
          some (.rt false)
        ) else (
          (p__law_spoilt l_2 x_).bind fun (c_5 : Str) =>
          ((if (!decide (c_5 = ("" : Str))) = true then ((p__law_refused ((D.str c_5))).bind fun (c_6 : Bool) => some (!c_6)) else some false)).bind fun (t_4 : Bool) =>
          if t_4 = true then (
            some (.rt false)
          ) else (
            (atI ([D.non, (D.int (5 : Int)), (D.bl true), (D.lst [(D.str ("a b 1" : Str))]), (D.tup [(D.str ("a" : Str))]), (D.dic [] []), (D.int (9 : Int))] : List D) (x_ % (7 : Int))).bind fun (y : D) =>
            (p__law_refused y).bind fun (c_7 : Bool) =>
            if (!c_7) = true then (
              some (.rt false)
            ) else (
              some (.nx ())
            )
          )
        )
      )
    ) l ()).bind fun (o_ : Bo Unit Bool) =>
  boK o_ (fun r =>
      some r
    ) fun (s__2 : Unit) =>
  some true
theorem e_law (script : List Int) {r : Bool} (h : p_law script = some r) : r_law [(D.scr script)] = .ok (W.sh (D.bl r)) := by
  unfold p_law at h
  unfold r_law
  refine goes_runD ?_
  rw [show slots _ _ = [(some (W.sh (D.scr script))), none, none, none, none, none] from rfl]
  unfold m_law
  replace h := Option.bind_eq_some_iff.mp h; obtain ⟨l, h_l, h⟩ := h
  replace h := Option.bind_eq_some_iff.mp h; obtain ⟨o_, h_o_, h⟩ := h
  refine goes_seq ?_
  refine goes_forB (R := fun (s_ : Unit) env => ∃ (j : Option W) (j_2 : Option W) (j_3 : Option W), env = [(some (W.sh (D.scr script))), j, j_2, j_3, none, none]) (ea := D.int) (wr := fun r => (W.sh (D.bl r))) (by decide) (e1 := [(some (W.sh (D.scr script))), none, none, none, none, none]) rfl (by first | rfl | simp [-Int.sub_pos, -v_mod, -v_fdiv, -v_muli, -v_adds, -v_addl, -v_lens, -v_sls, -v_ixl, -v_ixt, -v_ixr, -v_ixs, -v_mull, -v_isi, -a_mChain, -a_runD, -v_enuml, -v_enumr, -v_items, (show addD (D.lst [(D.int (3 : Int))]) (D.lst (List.map D.int (cutD script none (some (60 : Int))))) = .ok (.lst (List.map D.int l)) from exL_fact (e := D.int) h_l)]) ⟨_, _, _, rfl⟩ ?_ h_o_ ?_ ?_
  · clear h h_o_
    rintro x_ s_ o _ ⟨j, j_2, j_3, rfl⟩ h
    refine ⟨[(some (W.sh (D.scr script))), (some (W.sh (D.int x_))), j_2, j_3, none, none], rfl, ?_⟩
    unfold m_law_b1
    replace h := Option.bind_eq_some_iff.mp h; obtain ⟨c, h_c, h⟩ := h
    replace h := Option.bind_eq_some_iff.mp h; obtain ⟨l_2, h_l_2, h⟩ := h
    refine goes_nx (e' := [(some (W.sh (D.scr script))), (some (W.sh (D.int x_))), (some (W.sh (D.lst (List.map D.str l_2)))), j_3, none, none]) (by
        have hc_l_2 : runC (mGTup 2 (mGCons (mName 4) (mGCons (mName 5) mGNil))) mTrue (mD (mOp addD (mD (mOp addD (mVarV 5) (mD (mK (.str " "))))) (mD (mCal strD (mCons (mD (mOp mulD (mD (mOpX modD (mD (mOpX fdivD (mVarX 1) (mD (mK (.int 7))))) (mD (mK (.int 9))))) (mVarV 4))) mNil))))) (List.map e_T2IS (enumF 0 c)) [(some (W.sh (D.scr script))), (some (W.sh (D.int x_))), j_2, j_3, none, none] = .ok (List.map D.str l_2) := by
          obtain ⟨l0, hl0, hg⟩ := Option.bind_eq_some_iff.mp h_l_2
          rw [← (gd_some hg).2]
          refine runC_mapO _ _ hl0 fun x__2 _ y0_ hy => ⟨[(some (W.sh (D.scr script))), (some (W.sh (D.int x_))), j_2, j_3, (some (W.sh (D.int x__2.1))), (some (W.sh (D.str x__2.2)))], by first | rfl | simp [-Int.sub_pos, -v_mod, -v_fdiv, -v_muli, -v_adds, -v_addl, -v_lens, -v_sls, -v_ixl, -v_ixt, -v_ixr, -v_ixs, -v_mull, -v_isi, -a_mChain, -a_runD, -v_enuml, -v_enumr, -v_items], rfl, ?_⟩
          replace hy := Option.bind_eq_some_iff.mp hy; obtain ⟨z, h_z, hy⟩ := hy
          replace hy := Option.bind_eq_some_iff.mp hy; obtain ⟨p, h_p, hy⟩ := hy
          replace hy := Option.bind_eq_some_iff.mp hy; obtain ⟨z_2, h_z_2, hy⟩ := hy
          replace hy := Option.bind_eq_some_iff.mp hy; obtain ⟨z_3, h_z_3, hy⟩ := hy
          replace hy := Option.some.inj hy
          first | rfl | simp [-Int.sub_pos, -v_mod, -v_fdiv, -v_muli, -v_adds, -v_addl, -v_lens, -v_sls, -v_ixl, -v_ixt, -v_ixr, -v_ixs, -v_mull, -v_isi, -a_mChain, -a_runD, -v_enuml, -v_enumr, -v_items, adS_fact h_z, muI_some h_p, asSW_some h_z_2, adS_fact h_z_3, ← hy]
        have hs_l_2 : small (List.length l_2) = true := by obtain ⟨l0, hl0, hg⟩ := Option.bind_eq_some_iff.mp h_l_2; rw [← (gd_some hg).2]; exact (gd_some hg).1
        simp [-Int.sub_pos, -v_mod, -v_fdiv, -v_muli, -v_adds, -v_addl, -v_lens, -v_sls, -v_ixl, -v_ixt, -v_ixr, -v_ixs, -v_mull, -v_isi, -a_mChain, -a_runD, -v_enuml, -v_enumr, -v_items, (show enumItems [(D.lst (List.map D.str c))] = .ok (List.map e_T2IS (enumF 0 c)) from congrArg Res.ok (enumF_D D.str c 0)), (show r__law_rows [(D.int (x_ / (100 : Int)))] = .ok (W.lst (List.map D.str c)) from e__law_rows (x_ / (100 : Int)) h_c), ↓hc_l_2, hs_l_2]
        ) ?_
    replace h := Option.bind_eq_some_iff.mp h; obtain ⟨z_4, h_z_4, h⟩ := h
    replace h := Option.bind_eq_some_iff.mp h; obtain ⟨c_2, h_c_2, h⟩ := h
    replace h := Option.bind_eq_some_iff.mp h; obtain ⟨t_2, h_t_2, h⟩ := h
    refine goes_seq ?_
    refine goes_if (e := [(some (W.sh (D.scr script))), (some (W.sh (D.int x_))), (some (W.sh (D.lst (List.map D.str l_2)))), j_3, none, none]) (c := t_2) rfl (by
        rcases pif h_t_2 with ⟨hb_t_2, hi_t_2⟩ | ⟨hb_t_2, hi_t_2⟩
        · replace hi_t_2 := Option.some.inj hi_t_2; subst hi_t_2
          first | (simp [-Int.sub_pos, -v_mod, -v_fdiv, -v_muli, -v_adds, -v_addl, -v_lens, -v_sls, -v_ixl, -v_ixt, -v_ixr, -v_ixs, -v_mull, -v_isi, -a_mChain, -a_runD, -v_enuml, -v_enumr, -v_items, (show joinD ("; " : Str) (D.lst (List.map D.str l_2)) = .ok (.sh (.str z_4)) from join_fact h_z_4), (show r_read_plan [(D.str z_4)] = .ok (W.dic (List.map kS c_2) (List.map (fun (p : Str × (Str × Int)) => (D.tup [(D.str p.2.1), (D.int p.2.2)])) c_2)) from e_read_plan _ h_c_2), hb_t_2]; done) | contradiction
        · replace hi_t_2 := Option.bind_eq_some_iff.mp hi_t_2; obtain ⟨c_3, h_c_3, hi_t_2⟩ := hi_t_2
          replace hi_t_2 := Option.bind_eq_some_iff.mp hi_t_2; obtain ⟨t, h_t, hi_t_2⟩ := hi_t_2
          replace hi_t_2 := Option.some.inj hi_t_2; subst hi_t_2
          first | (simp [-Int.sub_pos, -v_mod, -v_fdiv, -v_muli, -v_adds, -v_addl, -v_lens, -v_sls, -v_ixl, -v_ixt, -v_ixr, -v_ixs, -v_mull, -v_isi, -a_mChain, -a_runD, -v_enuml, -v_enumr, -v_items, (show joinD ("; " : Str) (D.lst (List.map D.str l_2)) = .ok (.sh (.str z_4)) from join_fact h_z_4), (show r_read_plan [(D.str z_4)] = .ok (W.dic (List.map kS c_2) (List.map (fun (p : Str × (Str × Int)) => (D.tup [(D.str p.2.1), (D.int p.2.2)])) c_2)) from e_read_plan _ h_c_2), hb_t_2, (show r_read_plan [(D.str ("" : Str))] = .ok (W.dic (List.map kS c_3) (List.map (fun (p : Str × (Str × Int)) => (D.tup [(D.str p.2.1), (D.int p.2.2)])) c_3)) from e_read_plan ("" : Str) h_c_3), asB_some h_t]; done) | contradiction
        ) ?_ ?_
    · intro hc
      replace h := pifT h hc
      refine goes_ok (f := .rt (W.sh (D.bl false))) (by first | rfl | simp [-Int.sub_pos, -v_mod, -v_fdiv, -v_muli, -v_adds, -v_addl, -v_lens, -v_sls, -v_ixl, -v_ixt, -v_ixr, -v_ixs, -v_mull, -v_isi, -a_mChain, -a_runD, -v_enuml, -v_enumr, -v_items]) ?_
      refine SQ_rt ?_
      cases h; exact rfl
    · intro hc
      replace h := pifF h hc
      refine goes_ok (f := .nx _) rfl ?_
      refine SQ_nx ?_
      replace h := Option.bind_eq_some_iff.mp h; obtain ⟨t_3, h_t_3, h⟩ := h
      refine goes_seq ?_
      refine goes_if (e := [(some (W.sh (D.scr script))), (some (W.sh (D.int x_))), (some (W.sh (D.lst (List.map D.str l_2)))), j_3, none, none]) (c := t_3) rfl (by
          rcases pif h_t_3 with ⟨hb_t_3, hi_t_3⟩ | ⟨hb_t_3, hi_t_3⟩
          · replace hi_t_3 := Option.bind_eq_some_iff.mp hi_t_3; obtain ⟨z_5, h_z_5, hi_t_3⟩ := hi_t_3
            replace hi_t_3 := Option.bind_eq_some_iff.mp hi_t_3; obtain ⟨c_4, h_c_4, hi_t_3⟩ := hi_t_3
            replace hi_t_3 := Option.some.inj hi_t_3; subst hi_t_3
            first | (simp [-Int.sub_pos, -v_mod, -v_fdiv, -v_muli, -v_adds, -v_addl, -v_lens, -v_sls, -v_ixl, -v_ixt, -v_ixr, -v_ixs, -v_mull, -v_isi, -a_mChain, -a_runD, -v_enuml, -v_enumr, -v_items, -List.map_reverse, ← List.map_reverse, hb_t_3, (show joinD ("; " : Str) (D.lst (List.map D.str l_2.reverse)) = .ok (.sh (.str z_5)) from join_fact h_z_5), (show r__law_refused [(D.str z_5)] = .ok (W.sh (D.bl c_4)) from e__law_refused _ h_c_4)]; done) | contradiction
          · replace hi_t_3 := Option.some.inj hi_t_3; subst hi_t_3
            first | rfl | (simp [-Int.sub_pos, -v_mod, -v_fdiv, -v_muli, -v_adds, -v_addl, -v_lens, -v_sls, -v_ixl, -v_ixt, -v_ixr, -v_ixs, -v_mull, -v_isi, -a_mChain, -a_runD, -v_enuml, -v_enumr, -v_items, hb_t_3]; done) | contradiction
          ) ?_ ?_
      · intro hc
        replace h := pifT h hc
        refine goes_ok (f := .rt (W.sh (D.bl false))) (by first | rfl | simp [-Int.sub_pos, -v_mod, -v_fdiv, -v_muli, -v_adds, -v_addl, -v_lens, -v_sls, -v_ixl, -v_ixt, -v_ixr, -v_ixs, -v_mull, -v_isi, -a_mChain, -a_runD, -v_enuml, -v_enumr, -v_items]) ?_
        refine SQ_rt ?_
        cases h; exact rfl
      · intro hc
        replace h := pifF h hc
        refine goes_ok (f := .nx _) rfl ?_
        refine SQ_nx ?_
        replace h := Option.bind_eq_some_iff.mp h; obtain ⟨c_5, h_c_5, h⟩ := h
        refine goes_nx (e' := [(some (W.sh (D.scr script))), (some (W.sh (D.int x_))), (some (W.sh (D.lst (List.map D.str l_2)))), (some (W.sh (D.str c_5))), none, none]) (by simp [-Int.sub_pos, -v_mod, -v_fdiv, -v_muli, -v_adds, -v_addl, -v_lens, -v_sls, -v_ixl, -v_ixt, -v_ixr, -v_ixs, -v_mull, -v_isi, -a_mChain, -a_runD, -v_enuml, -v_enumr, -v_items, (show r__law_spoilt [(D.lst (List.map D.str l_2)), (D.int x_)] = .ok (W.sh (D.str c_5)) from e__law_spoilt _ _ h_c_5)]) ?_
        replace h := Option.bind_eq_some_iff.mp h; obtain ⟨t_4, h_t_4, h⟩ := h
        refine goes_seq ?_
        refine goes_if (e := [(some (W.sh (D.scr script))), (some (W.sh (D.int x_))), (some (W.sh (D.lst (List.map D.str l_2)))), (some (W.sh (D.str c_5))), none, none]) (c := t_4) rfl (by
            rcases pif h_t_4 with ⟨hb_t_4, hi_t_4⟩ | ⟨hb_t_4, hi_t_4⟩
            · replace hi_t_4 := Option.bind_eq_some_iff.mp hi_t_4; obtain ⟨c_6, h_c_6, hi_t_4⟩ := hi_t_4
              replace hi_t_4 := Option.some.inj hi_t_4; subst hi_t_4
              first | (simp [-Int.sub_pos, -v_mod, -v_fdiv, -v_muli, -v_adds, -v_addl, -v_lens, -v_sls, -v_ixl, -v_ixt, -v_ixr, -v_ixs, -v_mull, -v_isi, -a_mChain, -a_runD, -v_enuml, -v_enumr, -v_items, hb_t_4, (show r__law_refused [(D.str c_5)] = .ok (W.sh (D.bl c_6)) from e__law_refused _ h_c_6)]; done) | contradiction
            · replace hi_t_4 := Option.some.inj hi_t_4; subst hi_t_4
              first | rfl | (simp [-Int.sub_pos, -v_mod, -v_fdiv, -v_muli, -v_adds, -v_addl, -v_lens, -v_sls, -v_ixl, -v_ixt, -v_ixr, -v_ixs, -v_mull, -v_isi, -a_mChain, -a_runD, -v_enuml, -v_enumr, -v_items, hb_t_4]; done) | contradiction
            ) ?_ ?_
        · intro hc
          replace h := pifT h hc
          refine goes_ok (f := .rt (W.sh (D.bl false))) (by first | rfl | simp [-Int.sub_pos, -v_mod, -v_fdiv, -v_muli, -v_adds, -v_addl, -v_lens, -v_sls, -v_ixl, -v_ixt, -v_ixr, -v_ixs, -v_mull, -v_isi, -a_mChain, -a_runD, -v_enuml, -v_enumr, -v_items]) ?_
          refine SQ_rt ?_
          cases h; exact rfl
        · intro hc
          replace h := pifF h hc
          refine goes_ok (f := .nx _) rfl ?_
          refine SQ_nx ?_
          replace h := Option.bind_eq_some_iff.mp h; obtain ⟨y, h_y, h⟩ := h
          replace h := Option.bind_eq_some_iff.mp h; obtain ⟨c_7, h_c_7, h⟩ := h
          refine goes_if (e := [(some (W.sh (D.scr script))), (some (W.sh (D.int x_))), (some (W.sh (D.lst (List.map D.str l_2)))), (some (W.sh (D.str c_5))), none, none]) (c := (!c_7)) rfl (by simp [-Int.sub_pos, -v_mod, -v_fdiv, -v_muli, -v_adds, -v_addl, -v_lens, -v_sls, -v_ixl, -v_ixt, -v_ixr, -v_ixs, -v_mull, -v_isi, -a_mChain, -a_runD, -v_enuml, -v_enumr, -v_items, (show ixD (D.lst [D.non, (D.int (5 : Int)), (D.bl true), (D.lst [(D.str ("a b 1" : Str))]), (D.tup [(D.str ("a" : Str))]), (D.dic [] []), (D.int (9 : Int))]) (D.int (x_ % (7 : Int))) = .ok (.sh y) from ixL_some (e := fun (d : D) => d) h_y), (show r__law_refused [y] = .ok (W.sh (D.bl c_7)) from e__law_refused _ h_c_7)]) ?_ ?_
          · intro hc
            replace h := pifT h hc
            refine goes_ok (f := .rt (W.sh (D.bl false))) (by first | rfl | simp [-Int.sub_pos, -v_mod, -v_fdiv, -v_muli, -v_adds, -v_addl, -v_lens, -v_sls, -v_ixl, -v_ixt, -v_ixr, -v_ixs, -v_mull, -v_isi, -a_mChain, -a_runD, -v_enuml, -v_enumr, -v_items]) ?_
            cases h; exact rfl
          · intro hc
            replace h := pifF h hc
            refine goes_ok (f := .nx _) rfl ?_
            cases h; exact ⟨_, _, _, rfl⟩
  · rintro s__2 _ ho ⟨j_4, j_5, j_6, rfl⟩
    subst ho
    replace h := boK_nx h
    refine SQ_nx ?_
    refine goes_ok (f := .rt (W.sh (D.bl true))) (by first | rfl | simp [-Int.sub_pos, -v_mod, -v_fdiv, -v_muli, -v_adds, -v_addl, -v_lens, -v_sls, -v_ixl, -v_ixt, -v_ixr, -v_ixs, -v_mull, -v_isi, -a_mChain, -a_runD, -v_enuml, -v_enumr, -v_items]) ?_
    cases h; rfl
  · rintro r ho
    subst ho
    replace h := boK_rt h
    refine SQ_rt ?_
    cases h; rfl
end My

set_option Elab.async false
set_option linter.all false
set_option maxRecDepth 100000
set_option maxHeartbeats 4000000
namespace My
open PySem L2 Ly TL
/-! k24: the rows there are, told by the kernel -/
def nmL (k m : Nat) : List Nat := List.replicate (m + 1) (97 + k)
def dgL (d : Nat) : List Nat := if d < 10 then [48 + d] else [48 + d / 10, 48 + d % 10]
def rowL (k m c : Nat) : List Nat := nmL k m ++ [32, 105] ++ List.replicate (k % 3) 106 ++ [32] ++ dgL (c * k)
def nm (k m : Nat) : Str := ofL (nmL k m)
def row (k m c : Nat) : Str := ofL (rowL k m c)
def ah (k m : Nat) : Str := if k = 0 then PySem.Str.ofString "" else nm (k - 1) m
def rowsOf (n m c : Nat) : List Str := (List.range (n + 1)).map fun k => row k m c
noncomputable def RW (a c : Int) : Option (List Str) := (p__law_rows a).bind fun cs => ((mapO (fun (x__2 : (Int × Str)) => ((adS x__2.2 (" " : Str)).bind fun (z : Str) => (muI c x__2.1).bind fun (p : Int) => (asSW (strD [(D.int p)])).bind fun (z_2 : Str) => (adS z z_2).bind fun (z_3 : Str) => some z_3)) (enumF 0 cs)).bind gd)
noncomputable def MID (y : Str) : Option (List Str) :=
  (splO y (" " : Str)).bind fun (z : (List Str)) =>
  (adS y (" " : Str)).bind fun (z_2 : Str) =>
  (adS (" " : Str) y).bind fun (z_3 : Str) =>
  (rpO " " "  " 1 y).bind fun (z_4 : Str) =>
  (atI z (0 : Int)).bind fun (y_2 : Str) =>
  (adS y (" 3" : Str)).bind fun (z_5 : Str) =>
  (adS y_2 (" " : Str)).bind fun (z_6 : Str) =>
  (atI z (2 : Int)).bind fun (y_3 : Str) =>
  (adS z_6 y_3).bind fun (z_7 : Str) =>
  (some ([z_2, z_3, z_4, y_2, z_5, z_7])).bind fun (some_ : (List Str)) =>
  (upO y).bind fun (z_8 : Str) =>
  (atI z (1 : Int)).bind fun (y_4 : Str) =>
  (adS ("abcdefghi " : Str) y_4).bind fun (z_9 : Str) =>
  (adS z_9 (" 4" : Str)).bind fun (z_10 : Str) =>
  (atI z (0 : Int)).bind fun (y_5 : Str) =>
  (adS y_5 (" " : Str)).bind fun (z_11 : Str) =>
  (adS z_11 y_4).bind fun (z_12 : Str) =>
  (adS z_12 (" 04" : Str)).bind fun (z_13 : Str) =>
  (adS y ("\n" : Str)).bind fun (z_14 : Str) =>
  (exL some_ ([z_8, z_10, z_13, z_14, ("" : Str)])).bind fun (l : (List Str)) =>
  (atI z (0 : Int)).bind fun (y_6 : Str) =>
  (adS y_6 (" " : Str)).bind fun (z_15 : Str) =>
  (atI z (1 : Int)).bind fun (y_7 : Str) =>
  (adS z_15 y_7).bind fun (z_16 : Str) =>
  (adS z_16 (" -1" : Str)).bind fun (z_17 : Str) =>
  (adS z_16 (" 1.0" : Str)).bind fun (z_18 : Str) =>
  (adS y ("; " : Str)).bind fun (z_19 : Str) =>
  (adS z_19 y).bind fun (z_20 : Str) =>
  (exL l ([z_17, z_18, z_20])).bind fun (l_2 : (List Str)) =>
  (gS y).bind fun (z_21 : Str) =>
  (adS ("zz" : Str) (cutS y (some (-1 : Int)) none)).bind fun (z_22 : Str) =>
  (atI z (1 : Int)).bind fun (y_8 : Str) =>
  (adS (" " : Str) y_8).bind fun (z_23 : Str) =>
  (adS z_23 (" 1" : Str)).bind fun (z_24 : Str) =>
  (atI z (0 : Int)).bind fun (y_9 : Str) =>
  (adS y_9 (" abcdefghi 1" : Str)).bind fun (z_25 : Str) =>
  (adS y_9 ("  1" : Str)).bind fun (z_26 : Str) =>
  (adS y (";" : Str)).bind fun (z_27 : Str) =>
  (exL l_2 ([z_22, z_24, z_25, z_26, z_27])).bind fun (l_3 : (List Str)) =>
  (atI z (1 : Int)).bind fun (y_10 : Str) =>
  (adS ("1 " : Str) y_10).bind fun (z_28 : Str) =>
  (adS z_28 (" 1" : Str)).bind fun (z_29 : Str) =>
  (atI z (0 : Int)).bind fun (y_11 : Str) =>
  (adS y_11 (" " : Str)).bind fun (z_30 : Str) =>
  (adS z_30 y_10).bind fun (z_31 : Str) =>
  (adS z_31 (" +1" : Str)).bind fun (z_32 : Str) =>
  (adS z_31 (" 1_0" : Str)).bind fun (z_33 : Str) =>
  (exL l_3 ([z_29, z_32, z_33])).bind fun (l_4 : (List Str)) =>
  (atI z (0 : Int)).bind fun (y_12 : Str) =>
  (adS y_12 (" I 1" : Str)).bind fun (z_34 : Str) =>
  (adS y_12 (" i1 1" : Str)).bind fun (z_35 : Str) =>
  (exL l_4 ([z_34, z_35])).bind fun (l_5 : (List Str)) =>
  some l_5
theorem rows_are : ∀ m < 3, ∀ n < 5, ∀ c < 9, RW ((n : Nat) + 5 * (m : Nat)) (c : Nat) = some (rowsOf n m c) := by decide +kernel
noncomputable def chkR (k m c : Nat) : Bool := decide (rowK (ah k m) (row k m c) = some (some (nm k m))) && decide (rowK (PySem.Str.ofString "") (row k m c) = some (some (nm k m))) && decide (k = 0 ∨ rowK (nm k m) (row (k - 1) m c) = some none) && noM (rowL k m c) && decide ((rowL k m c).length ≤ 30)
theorem row_told : ∀ k < 5, ∀ m < 3, ∀ c < 9, chkR k m c = true := by decide +kernel
noncomputable def chkP (k m c v : Nat) (p : Str) : Bool := if v = 13 then decide (tl p = rowL k m c ++ ([59, 32] ++ rowL k m c)) && decide (rowK (nm k m) (row k m c) = some none) else decide ((tl p).length ≤ 100) && noM (tl p) && decide (rowK (ah k m) p = some none)
noncomputable def chkM (k m c : Nat) : Bool := match MID (row k m c) with
  | some l => decide (l.length = 24) && (List.range 24).all fun v => match l[v]? with
    | some p => chkP k m c v p
    | none => false
  | none => false
end My

set_option Elab.async false
set_option linter.all false
set_option maxRecDepth 100000
set_option maxHeartbeats 4000000
namespace My
open PySem L2 Ly TL
theorem mid_told : ∀ k < 5, ∀ m < 3, ∀ c < 9, chkM k m c = true := by decide +kernel
end My

set_option Elab.async false
set_option linter.all false
set_option maxRecDepth 100000
set_option maxHeartbeats 4000000
namespace My
open PySem L2 Ly TL
theorem tl_of (l : List Nat) : tl (ofL l) = l := by show l.toArray.toList = l; simp
theorem of_len (l : List Nat) : (ofL l).length = l.length := by rw [len_tl, tl_of]
theorem rows_rl {k m c : Nat} (hk : k < 5) (hm : m < 3) (hc : c < 9) : rowK (ah k m) (row k m c) = some (some (nm k m)) ∧ rowK (PySem.Str.ofString "") (row k m c) = some (some (nm k m)) ∧ (k = 0 ∨ rowK (nm k m) (row (k - 1) m c) = some none) ∧ noM (tl (row k m c)) = true ∧ (row k m c).length ≤ 30 := by
  have h := row_told k hk m hm c hc
  unfold chkR at h
  simp only [Bool.and_eq_true, decide_eq_true_eq] at h
  obtain ⟨⟨⟨⟨h1, h2⟩, h3⟩, h4⟩, h5⟩ := h
  exact ⟨h1, h2, h3, by show noM (tl (ofL _)) = true; rw [tl_of]; exact h4, by show (ofL _).length ≤ 30; rw [of_len]; exact h5⟩
/-- rows from the k-th on, in order -/
theorem scanX_from {m c : Nat} (hm : m < 3) (hc : c < 9) : ∀ (n k : Nat), k + n ≤ 5 → scanX (ah k m) ((List.range' k n).map fun i => row i m c) = some ((List.range' k n).map fun i => nm i m)
  | 0, _, _ => rfl
  | n + 1, k, h => by
    have e := (rows_rl (k := k) (by omega) hm hc).1
    have ih := scanX_from hm hc n (k + 1) (by omega)
    rw [List.range'_succ, List.map_cons, List.map_cons]
    unfold scanX
    rw [e]
    dsimp only
    rw [show ah (k + 1) m = nm k m from by unfold ah; rw [if_neg (by omega)]; rfl] at ih
    rw [ih]
    rfl
theorem rows_scan {n m c : Nat} (hn : n < 5) (hm : m < 3) (hc : c < 9) : scanX (PySem.Str.ofString "") (rowsOf n m c) = some ((List.range (n + 1)).map fun i => nm i m) := by
  have := scanX_from (c := c) hm hc (n + 1) 0 (by omega)
  rw [show ah 0 m = PySem.Str.ofString "" from rfl] at this
  unfold rowsOf
  rw [List.range_eq_range']
  exact this
theorem nm_nodup : ∀ m < 3, ((List.range 5).map fun i => nm i m).Nodup := by decide +kernel
theorem names_nd {n m : Nat} (hn : n < 5) (hm : m < 3) : ((List.range (n + 1)).map fun i => nm i m).Nodup :=
  (nm_nodup m hm).sublist ((List.range_sublist.mpr (by omega)).map _)
theorem dec_plan : ∀ (zs : List Str) (L : Str → Str × Int), decSI (zs.map Sum.inr) (zs.map fun z => rowD (L z)) = some (zs.map fun z => (z, L z))
  | [], _ => rfl
  | z :: zs, L => by
    show (decSI (zs.map Sum.inr) (zs.map fun z => rowD (L z))).map _ = _
    rw [dec_plan zs L]
    rfl
theorem ne_of {z : Str} {p : Nat} {l : List Nat} (h : tl z = p :: l) : ¬ z = PySem.Str.ofString "" := fun e => by
  rw [e] at h
  cases h
theorem join_len : ∀ (ps : List (List Nat)) (b : Nat), (∀ p ∈ ps, p.length ≤ b) → (joinL [59, 32] ps).length ≤ ps.length * (b + 2)
  | [], _, _ => by simp [joinL]
  | [p], b, h => by
    have := h p (List.mem_singleton.mpr rfl)
    simp [joinL]
    omega
  | p :: q :: r, b, h => by
    have h1 := h p List.mem_cons_self
    have h2 := join_len (q :: r) b fun x hx => h x (List.mem_cons_of_mem _ hx)
    show (p ++ ([59, 32] ++ joinL [59, 32] (q :: r))).length ≤ _
    rw [List.length_append, List.length_append, List.length_cons (as := q :: r), Nat.succ_mul]
    simp only [List.length_cons, List.length_nil] at *
    omega
theorem small_join {ps : List Str} {b : Nat} (hb : ∀ p ∈ ps, p.length ≤ b) (hl : ps.length * (b + 2) ≤ 10000) : small ((ps.map (·.length)).sum + ps.length * semi.length) = true := by
  have hs : ∀ (ps : List Str), (∀ p ∈ ps, p.length ≤ b) → (ps.map (·.length)).sum ≤ ps.length * b := by
    intro ps
    induction ps with
    | nil => intro _; simp
    | cons p ps ih =>
      intro h
      have h1 := h p List.mem_cons_self
      have h2 := ih fun x hx => h x (List.mem_cons_of_mem _ hx)
      rw [List.map_cons, List.sum_cons, List.length_cons, Nat.succ_mul]
      omega
  have h1 := hs ps hb
  have h2 : semi.length = 2 := by decide
  have h3 : ps.length * (b + 2) = ps.length * b + ps.length * 2 := Nat.mul_add _ _ _
  rw [h2]
  exact a_small (by omega)
theorem jn_is {ps : List Str} {b : Nat} (hb : ∀ p ∈ ps, p.length ≤ b) (hl : ps.length * (b + 2) ≤ 10000) : jnO ("; " : Str) ps = some (Txt.join semi ps) := by
  unfold jnO
  exact if_pos (small_join hb hl)
theorem refused_of {z : Str} {ps : List Str} (e : tl z = joinL [59, 32] (ps.map tl)) (hne : ps ≠ []) (hp : ∀ p ∈ ps, noM (tl p) = true) (hb : ∀ p ∈ ps, p.length ≤ 100) (hl : ps.length ≤ 9) (hz : ¬ z = PySem.Str.ofString "") (hs : scan (PySem.Str.ofString "") ps = some false) : p__law_refused (.str z) = some true := by
  have es := sem_of e hne hp
  have hlen : z.length ≤ 1000 := by
    rw [len_tl, e]
    have := join_len (ps.map tl) 100 fun p h => by obtain ⟨q, hq, rfl⟩ := List.mem_map.mp h; rw [← len_tl]; exact hb q hq
    rw [List.length_map] at this
    omega
  have h : chkT z = true := by
    unfold chkT
    rw [es]
    simp only [Bool.and_eq_true, decide_eq_true_eq, List.all_eq_true]
    exact ⟨⟨⟨⟨hlen, by simpa using hz⟩, fun r hr => by have := hb r hr; omega⟩, by omega⟩, hs⟩
  unfold p__law_refused
  rw [refused_is h]
  rfl
section
variable {n m c : Nat} (hn : n < 5) (hm : m < 3) (hc : c < 9)
include hn hm hc
theorem row_mem {r : Str} (h : r ∈ rowsOf n m c) : noM (tl r) = true ∧ r.length ≤ 30 := by
  obtain ⟨k, hk, rfl⟩ := List.mem_map.mp h
  rw [List.mem_range] at hk
  obtain ⟨_, _, _, h4, h5⟩ := rows_rl (k := k) (by omega) hm hc
  exact ⟨h4, h5⟩
theorem rows_len : (rowsOf n m c).length = n + 1 := by unfold rowsOf; rw [List.length_map, List.length_range]
theorem read_is : ∃ z d, jnO ("; " : Str) (rowsOf n m c) = some z ∧ p_read_plan z = some d ∧ d.length = n + 1 := by
  have hl := rows_len hn hm hc
  have hne : rowsOf n m c ≠ [] := fun e => by rw [e] at hl; simp at hl
  have hp := fun p (h : p ∈ rowsOf n m c) => row_mem hn hm hc h
  have es := sem_of (tl_jn (rowsOf n m c)) hne fun p h => (hp p h).1
  have hlen : (Txt.join semi (rowsOf n m c)).length ≤ 10000 := by
    rw [len_tl, tl_jn]
    have := join_len ((rowsOf n m c).map tl) 30 fun p h => by obtain ⟨q, hq, rfl⟩ := List.mem_map.mp h; rw [← len_tl]; exact (hp q hq).2
    rw [List.length_map] at this
    omega
  have hz : ¬ Txt.join semi (rowsOf n m c) = PySem.Str.ofString "" := by
    intro e
    rw [e] at es
    have : rowsOf n m c = [PySem.Str.ofString ""] := es.symm.trans (by decide +kernel)
    have h2 := rows_scan hn hm hc
    rw [this] at h2
    have h3 : scanX (PySem.Str.ofString "") [PySem.Str.ofString ""] = none := by decide +kernel
    rw [h3] at h2
    cases h2
  obtain ⟨L', e⟩ := read_good hlen hz (fun r hr => by rw [es] at hr; have := (hp r hr).2; omega) (by rw [es]; omega) (by rw [es]; exact rows_scan hn hm hc) (names_nd hn hm)
  refine ⟨_, _, jn_is (b := 30) (fun p h => (hp p h).2) (by omega), (by unfold p_read_plan; rw [e]; exact dec_plan _ _), ?_⟩
  rw [List.length_map, List.length_map, List.length_range]
theorem rev_is (h1 : 1 ≤ n) : ∃ z, jnO ("; " : Str) (rowsOf n m c).reverse = some z ∧ p__law_refused (.str z) = some true := by
  have hl := rows_len hn hm hc
  have hp := fun p (h : p ∈ (rowsOf n m c).reverse) => row_mem hn hm hc (List.mem_reverse.mp h)
  refine ⟨_, jn_is (b := 30) (fun p h => (hp p h).2) (by rw [List.length_reverse]; omega), ?_⟩
  obtain ⟨q, rfl⟩ : ∃ q, n = q + 1 := ⟨n - 1, by omega⟩
  have er : (rowsOf (q + 1) m c).reverse = row (q + 1) m c :: row q m c :: ((List.range q).map fun k => row k m c).reverse := by
    unfold rowsOf
    rw [List.range_succ, List.range_succ, List.map_append, List.map_append, List.reverse_append, List.reverse_append]
    rfl
  obtain ⟨_, h2, h3, _, _⟩ := rows_rl (k := q + 1) (by omega) hm hc
  have h3' : rowK (nm (q + 1) m) (row q m c) = some none := by
    rcases h3 with h3 | h3
    · omega
    · exact h3
  have hs : scan (PySem.Str.ofString "") (rowsOf (q + 1) m c).reverse = some false := by
    rw [er]
    show (match rowK (PySem.Str.ofString "") (row (q + 1) m c) with | some (some x) => scan x _ | some none => some false | none => none) = _
    rw [h2]
    show (match rowK (nm (q + 1) m) (row q m c) with | some (some x) => scan x _ | some none => some false | none => none) = _
    rw [h3']
  refine refused_of (ps := (rowsOf (q + 1) m c).reverse) (tl_jn _) (by rw [er]; simp) (fun p h => (hp p h).1) (fun p h => by have := (hp p h).2; omega) (by rw [List.length_reverse]; omega) ?_ hs
  have e1 := tl_jn (rowsOf (q + 1) m c).reverse
  have : ∃ p l, tl (row (q + 1) m c) = p :: l := by
    show ∃ p l, tl (ofL _) = p :: l
    rw [tl_of]
    exact ⟨_, _, rfl⟩
  obtain ⟨p, l, ep⟩ := this
  rw [er, List.map_cons, joinL_cons (by simp), ep] at e1
  rw [er]
  exact ne_of e1
end
theorem mid_of {k m c : Nat} (hk : k < 5) (hm : m < 3) (hc : c < 9) : ∃ l, MID (row k m c) = some l ∧ l.length = 24 ∧ ∀ v < 24, ∃ p, l[v]? = some p ∧ chkP k m c v p = true := by
  have h := mid_told k hk m hm c hc
  unfold chkM at h
  split at h
  · rename_i l e
    rw [Bool.and_eq_true, decide_eq_true_eq, List.all_eq_true] at h
    refine ⟨l, e, h.1, fun v hv => ?_⟩
    have := h.2 v (List.mem_range.mpr hv)
    split at this
    · rename_i p ep; exact ⟨p, ep, this⟩
    · cases this
  · cases h
theorem spoilt_eq (R : List Str) (x : Int) : p__law_spoilt R x = (moI (x / (24 : Int)) (List.length R : Int)).bind fun m => (atI R m).bind fun y => (MID y).bind fun l5 => (atI l5 (x % (24 : Int))).bind fun y13 => (exL (cutD R none (some m)) ([y13])).bind fun l6 => (exL l6 (cutD R (some (m + (1 : Int))) none)).bind fun l7 => jnO ("; " : Str) l7 := by
  unfold p__law_spoilt MID
  simp only [Option.bind_assoc, Option.bind_some]
  simp only [Option.bind_fun_some]
theorem at_get {α : Type} {xs : List α} {i : Int} (h0 : 0 ≤ i) (h1 : i < xs.length) : ∃ y, atI xs i = some y ∧ xs[i.toNat]? = some y := by
  have hi : i.toNat < xs.length := by omega
  exact ⟨xs[i.toNat], by rw [atI_nat _ _ h0, List.getElem?_eq_getElem hi], List.getElem?_eq_getElem hi⟩
theorem last_ah (m : Nat) : ∀ k, (((List.range k).map fun i => nm i m).getLast?).getD (PySem.Str.ofString "") = ah k m
  | 0 => rfl
  | k + 1 => by
    rw [List.range_succ, List.map_append, List.map_singleton, List.getLast?_append]
    rfl
theorem spoilt_is {n m c : Nat} (hn : n < 5) (hm : m < 3) (hc : c < 9) (x : Int) : ∃ z, p__law_spoilt (rowsOf n m c) x = some z ∧ (¬ z = PySem.Str.ofString "" → p__law_refused (.str z) = some true) := by
  have hl := rows_len hn hm hc
  have hmem := fun p (h : p ∈ rowsOf n m c) => row_mem hn hm hc h
  rw [spoilt_eq, hl]
  unfold moI
  rw [if_pos (by omega), Option.bind_some]
  have a0 : 0 ≤ x / 24 % ((n + 1 : Nat) : Int) := Int.emod_nonneg _ (by omega)
  have a1 : x / 24 % ((n + 1 : Nat) : Int) < ((n + 1 : Nat) : Int) := Int.emod_lt_of_pos _ (by omega)
  generalize x / 24 % ((n + 1 : Nat) : Int) = at' at *
  obtain ⟨at2, rfl⟩ : ∃ k : Nat, at' = (k : Int) := ⟨at'.toNat, by omega⟩
  have hat : at2 < n + 1 := by omega
  have g : (rowsOf n m c)[at2]? = some (row at2 m c) := by
    unfold rowsOf
    rw [List.getElem?_map, List.getElem?_range hat]
    rfl
  rw [atI_nat _ _ (by omega), show ((at2 : Nat) : Int).toNat = at2 by omega, g, Option.bind_some]
  obtain ⟨l, el, l24, hp⟩ := mid_of (k := at2) (by omega) hm hc
  rw [el, Option.bind_some]
  have v0 : 0 ≤ x % 24 := Int.emod_nonneg _ (by omega)
  have v1 : x % 24 < 24 := Int.emod_lt_of_pos _ (by omega)
  obtain ⟨v, hv⟩ : ∃ k : Nat, x % 24 = (k : Int) := ⟨(x % 24).toNat, by omega⟩
  obtain ⟨p, ep, hc'⟩ := hp v (by omega)
  rw [hv, atI_nat _ _ (by omega), show ((v : Nat) : Int).toNat = v by omega, ep, Option.bind_some]
  rw [cutD_take _ _ (by omega), cutD_drop _ _ (by omega), show ((at2 : Nat) : Int).toNat = at2 by omega, show (((at2 : Nat) : Int) + 1).toNat = at2 + 1 by omega]
  have tl1 : ((rowsOf n m c).take at2).length ≤ 5 := by rw [List.length_take]; omega
  have dl1 : ((rowsOf n m c).drop (at2 + 1)).length ≤ 5 := by rw [List.length_drop]; omega
  have tdl : ((rowsOf n m c).take at2).length + ((rowsOf n m c).drop (at2 + 1)).length ≤ 5 := by rw [List.length_take, List.length_drop]; omega
  rw [is_exL (by simp; omega), Option.bind_some, is_exL (by simp; omega), Option.bind_some]
  have hA : scanX (PySem.Str.ofString "") ((rowsOf n m c).take at2) = some ((List.range at2).map fun i => nm i m) := by
    have := scanX_from (c := c) hm hc at2 0 (by omega)
    rw [show ah 0 m = PySem.Str.ofString "" from rfl, ← List.range_eq_range'] at this
    have e : (rowsOf n m c).take at2 = (List.range at2).map fun i => row i m c := by
      unfold rowsOf
      rw [← List.map_take, List.take_range, Nat.min_eq_left (by omega)]
    rw [e]
    exact this
  have mA := fun q (h : q ∈ (rowsOf n m c).take at2) => hmem q (List.mem_of_mem_take h)
  have mB := fun q (h : q ∈ (rowsOf n m c).drop (at2 + 1)) => hmem q (List.mem_of_mem_drop h)
  generalize (rowsOf n m c).take at2 = A at *
  generalize (rowsOf n m c).drop (at2 + 1) = B at *
  obtain ⟨g1, _, _, g4, g5⟩ := rows_rl (k := at2) (by omega) hm hc
  unfold chkP at hc'
  have sA : ∀ C, scan (PySem.Str.ofString "") (A ++ C) = scan (ah at2 m) C := fun C => by rw [scan_app hA, last_ah]
  split at hc'
  · simp only [Bool.and_eq_true, decide_eq_true_eq] at hc'
    obtain ⟨e1, e2⟩ := hc'
    have pl : p.length ≤ 62 := by
      rw [len_tl, e1]
      have : (rowL at2 m c).length ≤ 30 := by have := g5; rw [show (row at2 m c).length = (rowL at2 m c).length from of_len _] at this; exact this
      simp only [List.length_append, List.length_cons, List.length_nil]
      omega
    refine ⟨_, jn_is (b := 100) (fun q hq => ?_) (by simp; omega), fun hz => refused_of (ps := A ++ row at2 m c :: row at2 m c :: B) ?_ (by simp) (fun q hq => ?_) (fun q hq => ?_) (by simp; omega) hz ?_⟩
    · rw [List.append_assoc, List.mem_append, List.mem_append, List.mem_singleton] at hq
      rcases hq with hq | rfl | hq
      · have := (mA q hq).2; omega
      · omega
      · have := (mB q hq).2; omega
    · rw [tl_jn, List.append_assoc, List.map_append, List.map_append, List.map_append, List.map_singleton, e1, List.singleton_append, joinL_two, show rowL at2 m c = tl (row at2 m c) from (tl_of _).symm]
      rfl
    · rw [List.mem_append, List.mem_cons, List.mem_cons] at hq
      rcases hq with hq | rfl | rfl | hq
      · exact (mA q hq).1
      · exact g4
      · exact g4
      · exact (mB q hq).1
    · rw [List.mem_append, List.mem_cons, List.mem_cons] at hq
      rcases hq with hq | rfl | rfl | hq
      · have := (mA q hq).2; omega
      · omega
      · omega
      · have := (mB q hq).2; omega
    · rw [sA]
      show (match rowK (ah at2 m) (row at2 m c) with | some (some x) => scan x _ | some none => some false | none => none) = _
      rw [g1]
      show (match rowK (nm at2 m) (row at2 m c) with | some (some x) => scan x _ | some none => some false | none => none) = _
      rw [e2]
  · simp only [Bool.and_eq_true, decide_eq_true_eq] at hc'
    obtain ⟨⟨e1, e2⟩, e3⟩ := hc'
    rw [← len_tl] at e1
    refine ⟨_, jn_is (b := 100) (fun q hq => ?_) (by simp; omega), fun hz => refused_of (ps := A ++ [p] ++ B) (tl_jn _) (by simp) (fun q hq => ?_) (fun q hq => ?_) (by simp; omega) hz ?_⟩
    · rw [List.append_assoc, List.mem_append, List.mem_append, List.mem_singleton] at hq
      rcases hq with hq | rfl | hq
      · have := (mA q hq).2; omega
      · omega
      · have := (mB q hq).2; omega
    · rw [List.append_assoc, List.mem_append, List.mem_append, List.mem_singleton] at hq
      rcases hq with hq | rfl | hq
      · exact (mA q hq).1
      · exact e2
      · exact (mB q hq).1
    · rw [List.append_assoc, List.mem_append, List.mem_append, List.mem_singleton] at hq
      rcases hq with hq | rfl | hq
      · have := (mA q hq).2; omega
      · omega
      · have := (mB q hq).2; omega
    · rw [List.append_assoc, sA]
      show (match rowK (ah at2 m) p with | some (some x) => scan x _ | some none => some false | none => none) = _
      rw [e3]
def odd7 : List D := [D.non, (D.int (5 : Int)), (D.bl true), (D.lst [(D.str ("a b 1" : Str))]), (D.tup [(D.str ("a" : Str))]), (D.dic [] []), (D.int (9 : Int))]
theorem odd_told : ∀ i < 7, ((atI odd7 ((i : Nat) : Int)).bind p__law_refused) = some true := by decide +kernel
theorem empty_read : p_read_plan (PySem.Str.ofString "") = some [] := by decide +kernel
theorem ends0 {α ρ : Type} {f : α → Unit → Option (Bo Unit ρ)} : ∀ (xs : List α), (∀ x ∈ xs, f x () = some (.nx ())) → forB f xs () = some (.nx ())
  | [], _ => rfl
  | x :: xs, h => by
    show (f x ()).bind _ = _
    rw [h x List.mem_cons_self, Option.bind_some]
    exact ends0 xs fun y hy => h y (List.mem_cons_of_mem _ hy)
theorem rows_mod (a b : Int) (h1 : a % 5 = b % 5) (h2 : a / 5 % 3 = b / 5 % 3) : p__law_rows a = p__law_rows b := by
  unfold p__law_rows
  rw [h1, h2]
theorem law_true : ∀ ns : List Int, ns.length ≤ 63 → r_law [.scr ns] = .ok (.sh (.bl true)) := fun ns hl => by
  refine e_law ns (r := true) ?_
  unfold p_law
  rw [cutD_take _ _ (by decide), is_exL (by simp; omega), Option.bind_some]
  rw [ends0 _ fun x hx => ?_]
  · rfl
  obtain ⟨n, hn⟩ : ∃ k : Nat, x / 100 % 5 = (k : Int) := ⟨(x / 100 % 5).toNat, by omega⟩
  obtain ⟨m, hm⟩ : ∃ k : Nat, x / 100 / 5 % 3 = (k : Int) := ⟨(x / 100 / 5 % 3).toNat, by omega⟩
  obtain ⟨c, hc⟩ : ∃ k : Nat, x / 7 % 9 = (k : Int) := ⟨(x / 7 % 9).toNat, by omega⟩
  have n5 : n < 5 := by omega
  have m3 : m < 3 := by omega
  have c9 : c < 9 := by omega
  have hR := rows_are m m3 n n5 c c9
  unfold RW at hR
  obtain ⟨cs, r1, r2⟩ := Option.bind_eq_some_iff.mp hR
  rw [rows_mod (x / 100) ((n : Nat) + 5 * (m : Nat)) (by omega) (by omega), r1, Option.bind_some, hc, r2, Option.bind_some]
  have hlen := rows_len n5 m3 c9
  obtain ⟨z, d, e1, e2, e3⟩ := read_is n5 m3 c9
  rw [e1, Option.bind_some, e2, Option.bind_some, e3, hlen, if_neg (by simp), show p_read_plan ("" : Str) = some [] from empty_read, Option.bind_some]
  rw [show asB (neE (D.dic (List.map kS ([] : List (Str × (Str × Int)))) (List.map (fun (p : Str × (Str × Int)) => (D.tup [(D.str p.2.1), (D.int p.2.2)])) [])) (D.dic [] [])) = some false from rfl, Option.bind_some, Option.bind_some, if_neg (by decide)]
  obtain ⟨y, ey, ry⟩ := spoilt_is n5 m3 c9 x
  have e7 : ∃ o, atI odd7 (x % 7) = some o ∧ p__law_refused o = some true := by
    obtain ⟨i, hi⟩ : ∃ k : Nat, x % 7 = (k : Int) := ⟨(x % 7).toNat, by omega⟩
    have := odd_told i (by omega)
    rw [hi]
    exact Option.bind_eq_some_iff.mp this
  obtain ⟨o, o1, o2⟩ := e7
  have rev : (if (decide ((1 : Int) < (((n + 1 : Nat)) : Int))) = true then ((jnO ("; " : Str) (rowsOf n m c).reverse).bind fun (z_5 : Str) => (p__law_refused ((D.str z_5))).bind fun (c_4 : Bool) => some (!c_4)) else some false) = some false := by
    by_cases h1 : 1 ≤ n
    · obtain ⟨w, w1, w2⟩ := rev_is n5 m3 c9 h1
      rw [if_pos (decide_eq_true (by omega)), w1, Option.bind_some, w2]
      rfl
    · rw [if_neg (by simp; omega)]
  have sp' : (if (!decide (y = ("" : Str))) = true then ((p__law_refused ((D.str y))).bind fun (c_6 : Bool) => some (!c_6)) else some false) = some false := by
    by_cases h1 : y = PySem.Str.ofString ""
    · rw [if_neg (by simp [h1])]
    · rw [if_pos (by simp [h1]), ry h1]
      rfl
  rw [rev, Option.bind_some, if_neg (by decide), ey, Option.bind_some, sp', Option.bind_some, if_neg (by decide)]
  rw [show atI ([D.non, (D.int (5 : Int)), (D.bl true), (D.lst [(D.str ("a b 1" : Str))]), (D.tup [(D.str ("a" : Str))]), (D.dic [] []), (D.int (9 : Int))] : List D) (x % (7 : Int)) = some o from o1, Option.bind_some, o2, Option.bind_some]
  rfl
end My

set_option Elab.async false
set_option linter.all false
set_option maxRecDepth 100000
set_option maxHeartbeats 4000000
namespace My
open PySem L2 Ly PyProof.Rows
theorem len_1 {C : List Value → Prop} (h : ∀ a0 : Value, C [a0]) : ∀ us : List Value, us.length = 1 → C us
  | [_], _ => h _
theorem len_2 {C : List Value → Prop} (h : ∀ a0 a1 : Value, C [a0, a1]) : ∀ us : List Value, us.length = 2 → C us
  | [_, _], _ => h _ _
theorem all_mk {P : Program} {w : World} {K : PySem.W.Frag} {h : Heap} {mg : Str → Option Value} {fa : Addr} (X : K.In h) (G : h.Ns mainGlobals mg) (hfa : mg "law" = some (.ref fa))
    {C_NoPlan : Addr}
    (aX_NoPlan : PySem.W.nsIn K mainGlobals "NoPlan" = some (some (.ref C_NoPlan)))
    {C_NoRow : Addr}
    (aX_NoRow : PySem.W.nsIn K mainGlobals "NoRow" = some (some (.ref C_NoRow)))
    {C_NoSay : Addr}
    (aX_NoSay : PySem.W.nsIn K mainGlobals "NoSay" = some (some (.ref C_NoSay)))
    {C_NoShop : Addr}
    (aX_NoShop : PySem.W.nsIn K mainGlobals "NoShop" = some (some (.ref C_NoShop)))
    {C_NoTree : Addr}
    (aX_NoTree : PySem.W.nsIn K mainGlobals "NoTree" = some (some (.ref C_NoTree)))
    {C_ShopError : Addr}
    (aX_ShopError : PySem.W.nsIn K mainGlobals "ShopError" = some (some (.ref C_ShopError)))
    (hdX_NoPlan : PySem.W.hasDictIn K C_NoPlan = true)
    (tyX_NoPlan : PySem.W.typeIn K (.ref C_NoPlan) = some (.type "type"))
    (hdX_NoRow : PySem.W.hasDictIn K C_NoRow = true)
    (tyX_NoRow : PySem.W.typeIn K (.ref C_NoRow) = some (.type "type"))
    (hdX_NoSay : PySem.W.hasDictIn K C_NoSay = true)
    (tyX_NoSay : PySem.W.typeIn K (.ref C_NoSay) = some (.type "type"))
    (hdX_NoShop : PySem.W.hasDictIn K C_NoShop = true)
    (tyX_NoShop : PySem.W.typeIn K (.ref C_NoShop) = some (.type "type"))
    (hdX_NoTree : PySem.W.hasDictIn K C_NoTree = true)
    (tyX_NoTree : PySem.W.typeIn K (.ref C_NoTree) = some (.type "type"))
    (hdX_ShopError : PySem.W.hasDictIn K C_ShopError = true)
    (tyX_ShopError : PySem.W.typeIn K (.ref C_ShopError) = some (.type "type"))
    (s0_NoPlan : PySem.W.subIn K (.type "NoneType") (.ref C_NoPlan) = some false)
    (s0_NoRow : PySem.W.subIn K (.type "NoneType") (.ref C_NoRow) = some false)
    (s1_NoRow : PySem.W.subIn K (.ref C_NoPlan) (.ref C_NoRow) = some false)
    (ne_NoRow : (Value.ref C_NoPlan == Value.ref C_NoRow) = false)
    (s0_NoSay : PySem.W.subIn K (.type "NoneType") (.ref C_NoSay) = some false)
    (s1_NoSay : PySem.W.subIn K (.ref C_NoPlan) (.ref C_NoSay) = some false)
    (ne_NoSay : (Value.ref C_NoPlan == Value.ref C_NoSay) = false)
    (s0_NoShop : PySem.W.subIn K (.type "NoneType") (.ref C_NoShop) = some false)
    (s1_NoShop : PySem.W.subIn K (.ref C_NoPlan) (.ref C_NoShop) = some false)
    (ne_NoShop : (Value.ref C_NoPlan == Value.ref C_NoShop) = false)
    (s0_NoTree : PySem.W.subIn K (.type "NoneType") (.ref C_NoTree) = some false)
    (s1_NoTree : PySem.W.subIn K (.ref C_NoPlan) (.ref C_NoTree) = some false)
    (ne_NoTree : (Value.ref C_NoPlan == Value.ref C_NoTree) = false)
    (s0_VE : PySem.W.subIn K (.type "NoneType") (.type "ValueError") = some false)
    (s1_VE : PySem.W.subIn K (.ref C_NoPlan) (.type "ValueError") = some true)
    (bsX_NoPlan : PySem.W.subIn K (.ref C_NoPlan) (.type "BaseException") = some true)
    (bsX_ShopError : PySem.W.subIn K (.ref C_ShopError) (.type "BaseException") = some true)
    (scX : PySem.W.subIn K (.ref C_NoPlan) (.ref C_ShopError) = some true)
    (xg : PySem.W.findIn K (.ref C_NoPlan) "__getattribute__" = some (some (.builtin "BaseException.__getattribute__")))
    (xk : PySem.W.findIn K (.ref C_NoPlan) "__getattr__" = some none)
    (xa : PySem.W.findIn K (.ref C_NoPlan) "__class__" = some (some (.builtin "object.__class__")))
    (xn : PySem.W.specialIn K (.builtin "object.__class__") "__get__" = some (some (.builtin "getset_descriptor.__get__")))
    (xt : PySem.W.takesIn K (.builtin "object.__class__") = some true)
    (xm : PySem.W.mroIn K C_NoPlan (.type "object") = some true)
    (xkc : PySem.W.keepIn K (.ref C_NoPlan) = true)
    (exX : PySem.W.excIn K C_NoPlan [.type "ValueError", .type "Exception", .type "BaseException", .type "object"] "ValueError.__new__" = true)
    {f0 : Addr} {od0 an0 : Option Addr} {sl0 : Array (Option Value)} {oc0 kV0 dc0 pm0 cd0 ct0 : Value}
    (a0 : PySem.W.nsIn K mainGlobals "is_name" = some (some (.ref f0))) (l0 : K.lookup f0 = some ⟨oc0, od0, .func (PySem.W.fnOf "is_name" "is_name" (defArgs s_is_name) (defBody s_is_name) (defScope s_is_name) .none kV0 dc0 pm0 an0 cd0 ct0), sl0⟩) (c0 : PySem.W.codeIn K cd0 "is_name" = true) (k0 : PySem.W.keepIn K (.ref f0) = true)
    {f1 : Addr} {od1 an1 : Option Addr} {sl1 : Array (Option Value)} {oc1 kV1 dc1 pm1 cd1 ct1 : Value}
    (a1 : PySem.W.nsIn K mainGlobals "number_of" = some (some (.ref f1))) (l1 : K.lookup f1 = some ⟨oc1, od1, .func (PySem.W.fnOf "number_of" "number_of" (defArgs s_number_of) (defBody s_number_of) (defScope s_number_of) .none kV1 dc1 pm1 an1 cd1 ct1), sl1⟩) (c1 : PySem.W.codeIn K cd1 "number_of" = true) (k1 : PySem.W.keepIn K (.ref f1) = true)
    {f2 : Addr} {od2 an2 : Option Addr} {sl2 : Array (Option Value)} {oc2 kV2 dc2 pm2 cd2 ct2 : Value}
    (a2 : PySem.W.nsIn K mainGlobals "read_plan" = some (some (.ref f2))) (l2 : K.lookup f2 = some ⟨oc2, od2, .func (PySem.W.fnOf "read_plan" "read_plan" (defArgs s_read_plan) (defBody s_read_plan) (defScope s_read_plan) .none kV2 dc2 pm2 an2 cd2 ct2), sl2⟩) (c2 : PySem.W.codeIn K cd2 "read_plan" = true) (k2 : PySem.W.keepIn K (.ref f2) = true)
    {f3 : Addr} {od3 an3 : Option Addr} {sl3 : Array (Option Value)} {oc3 kV3 dc3 pm3 cd3 ct3 : Value}
    (a3 : PySem.W.nsIn K mainGlobals "_law_rows" = some (some (.ref f3))) (l3 : K.lookup f3 = some ⟨oc3, od3, .func (PySem.W.fnOf "_law_rows" "_law_rows" (defArgs s__law_rows) (defBody s__law_rows) (defScope s__law_rows) .none kV3 dc3 pm3 an3 cd3 ct3), sl3⟩) (c3 : PySem.W.codeIn K cd3 "_law_rows" = true) (k3 : PySem.W.keepIn K (.ref f3) = true)
    {f4 : Addr} {od4 an4 : Option Addr} {sl4 : Array (Option Value)} {oc4 kV4 dc4 pm4 cd4 ct4 : Value}
    (a4 : PySem.W.nsIn K mainGlobals "_law_spoilt" = some (some (.ref f4))) (l4 : K.lookup f4 = some ⟨oc4, od4, .func (PySem.W.fnOf "_law_spoilt" "_law_spoilt" (defArgs s__law_spoilt) (defBody s__law_spoilt) (defScope s__law_spoilt) .none kV4 dc4 pm4 an4 cd4 ct4), sl4⟩) (c4 : PySem.W.codeIn K cd4 "_law_spoilt" = true) (k4 : PySem.W.keepIn K (.ref f4) = true)
    {f5 : Addr} {od5 an5 : Option Addr} {sl5 : Array (Option Value)} {oc5 kV5 dc5 pm5 cd5 ct5 : Value}
    (a5 : PySem.W.nsIn K mainGlobals "_law_refused" = some (some (.ref f5))) (l5 : K.lookup f5 = some ⟨oc5, od5, .func (PySem.W.fnOf "_law_refused" "_law_refused" (defArgs s__law_refused) (defBody s__law_refused) (defScope s__law_refused) .none kV5 dc5 pm5 an5 cd5 ct5), sl5⟩) (c5 : PySem.W.codeIn K cd5 "_law_refused" = true) (k5 : PySem.W.keepIn K (.ref f5) = true)
    {f6 : Addr} {od6 an6 : Option Addr} {sl6 : Array (Option Value)} {oc6 kV6 dc6 pm6 cd6 ct6 : Value}
    (a6 : PySem.W.nsIn K mainGlobals "law" = some (some (.ref f6))) (l6 : K.lookup f6 = some ⟨oc6, od6, .func (PySem.W.fnOf "law" "law" (defArgs s_law) (defBody s_law) (defScope s_law) .none kV6 dc6 pm6 an6 cd6 ct6), sl6⟩) (c6 : PySem.W.codeIn K cd6 "law" = true) (k6 : PySem.W.keepIn K (.ref f6) = true)
    (z_ValueError : PySem.W.nsIn K mainGlobals "ValueError" = some none)
    (z_enumerate : PySem.W.nsIn K mainGlobals "enumerate" = some none)
    (z_int : PySem.W.nsIn K mainGlobals "int" = some none)
    (z_isinstance : PySem.W.nsIn K mainGlobals "isinstance" = some none)
    (z_len : PySem.W.nsIn K mainGlobals "len" = some none)
    (z_range : PySem.W.nsIn K mainGlobals "range" = some none)
    (z_str : PySem.W.nsIn K mainGlobals "str" = some none)
    {t_FIGURES : Tok} (g_FIGURES : PySem.W.nsIn K mainGlobals "FIGURES" = some (some (Value.str (PySem.Str.ofString "0123456789") t_FIGURES)))
    {t_LETTERS : Tok} (g_LETTERS : PySem.W.nsIn K mainGlobals "LETTERS" = some (some (Value.str (PySem.Str.ofString "abcdefghijklmnopqrstuvwxyz") t_LETTERS)))
    : ∃ fd : FuncData, (∀ (s : Shared) (v : Value), BindsTo s fd ⟨[v], []⟩ [("_law_script", v)]) ∧ ∀ base : Heap, K.In base → base.Ns mainGlobals mg → FnOk P w K mg base (L2.CX P w) 4 fa fd ["_law_script"] (spM K 1 r_law) := by
  have e := hfa.symm.trans (PySem.W.mg_of X G a6)
  cases e
  have T : Txt mg := ⟨PySem.W.mg_none_of X G z_ValueError, PySem.W.mg_none_of X G z_enumerate, PySem.W.mg_none_of X G z_int, PySem.W.mg_none_of X G z_isinstance, PySem.W.mg_none_of X G z_len, PySem.W.mg_none_of X G z_range, PySem.W.mg_none_of X G z_str, ⟨_, PySem.W.mg_of X G g_FIGURES⟩, ⟨_, PySem.W.mg_of X G g_LETTERS⟩⟩
  have EC : ExcC K C_NoPlan := ⟨xg, xk, bsX_NoPlan, hdX_NoPlan, xa, xn, xt, xm⟩
  have XC : ∀ D, IsC K "NoPlan" D → PySem.W.exmOne K (.ref D) (.ref C_ShopError) = some true := fun D hD => by
    cases hD.one aX_NoPlan
    exact PySem.W.exm_ref bsX_ShopError hdX_ShopError tyX_ShopError scX
  haveI KN0 : KitN K [.ref C_NoRow, .ref C_NoSay, .ref C_NoShop, .ref C_NoTree] (kitM "NoPlan" false) := kitN_of (us := [.ref C_NoRow, .ref C_NoSay, .ref C_NoShop, .ref C_NoTree]) (by show 4 ≤ 1000; decide) (.cons (.own _) (.cons (.own _) (.cons (.own _) (.cons (.own _) (.nil))))) aX_NoPlan EC (kitAny_no (fun u hu => by simp only [List.mem_cons, List.not_mem_nil, or_false] at hu; rcases hu with rfl | rfl | rfl | rfl <;> first | exact kit_own (by rfl) hdX_NoRow tyX_NoRow s0_NoRow | exact kit_own (by rfl) hdX_NoSay tyX_NoSay s0_NoSay | exact kit_own (by rfl) hdX_NoShop tyX_NoShop s0_NoShop | exact kit_own (by rfl) hdX_NoTree tyX_NoTree s0_NoTree)) (kitAny_no (fun u hu => by simp only [List.mem_cons, List.not_mem_nil, or_false] at hu; rcases hu with rfl | rfl | rfl | rfl <;> first | exact kit_own ne_NoRow hdX_NoRow tyX_NoRow s1_NoRow | exact kit_own ne_NoSay hdX_NoSay tyX_NoSay s1_NoSay | exact kit_own ne_NoShop hdX_NoShop tyX_NoShop s1_NoShop | exact kit_own ne_NoTree hdX_NoTree tyX_NoTree s1_NoTree))
  haveI KC1 : KitC K (.ref C_NoPlan) (kitM "NoPlan" true) := kitC_of (.own _) aX_NoPlan EC (kit_own (by rfl) hdX_NoPlan tyX_NoPlan s0_NoPlan) (kit_same)
  haveI KC2 : KitC K (.ty "ValueError") (kitM "NoPlan" true) := kitC_of (.ty _) aX_NoPlan EC (kit_bty (by rfl) (by decide +kernel) s0_VE) (kit_bty (by rfl) (by decide +kernel) s1_VE)
  have XFc : ExF K C_NoPlan := ⟨exX, xkc, tyX_NoPlan, EC⟩
  haveI XIc : IsCls K "NoPlan" C_NoPlan := ⟨aX_NoPlan⟩
  have F0 := fun_mk (st := s_is_name) l0 c0 k0
  have b0 := F0.binds (ps := ["thing"]) fun _ _ _ _ _ _ => len_1 fun _ => rfl
  have M0 : Known K mg "is_name" f0 _ ["thing"] := ⟨PySem.W.mg_of X G a0, k0, b0⟩
  have F1 := fun_mk (st := s_number_of) l1 c1 k1
  have b1 := F1.binds (ps := ["word"]) fun _ _ _ _ _ _ => len_1 fun _ => rfl
  have M1 : Known K mg "number_of" f1 _ ["word"] := ⟨PySem.W.mg_of X G a1, k1, b1⟩
  have F2 := fun_mk (st := s_read_plan) l2 c2 k2
  have b2 := F2.binds (ps := ["text"]) fun _ _ _ _ _ _ => len_1 fun _ => rfl
  have M2 : Known K mg "read_plan" f2 _ ["text"] := ⟨PySem.W.mg_of X G a2, k2, b2⟩
  have F3 := fun_mk (st := s__law_rows) l3 c3 k3
  have b3 := F3.binds (ps := ["_law_cell"]) fun _ _ _ _ _ _ => len_1 fun _ => rfl
  have M3 : Known K mg "_law_rows" f3 _ ["_law_cell"] := ⟨PySem.W.mg_of X G a3, k3, b3⟩
  have F4 := fun_mk (st := s__law_spoilt) l4 c4 k4
  have b4 := F4.binds (ps := ["_law_rows_here", "_law_cell"]) fun _ _ _ _ _ _ => len_2 fun _ _ => rfl
  have M4 : Known K mg "_law_spoilt" f4 _ ["_law_rows_here", "_law_cell"] := ⟨PySem.W.mg_of X G a4, k4, b4⟩
  have F5 := fun_mk (st := s__law_refused) l5 c5 k5
  have b5 := F5.binds (ps := ["_law_text"]) fun _ _ _ _ _ _ => len_1 fun _ => rfl
  have M5 : Known K mg "_law_refused" f5 _ ["_law_text"] := ⟨PySem.W.mg_of X G a5, k5, b5⟩
  have F6 := fun_mk (st := s_law) l6 c6 k6
  refine ⟨PySem.W.fnOf "law" "law" (defArgs s_law) (defBody s_law) (defScope s_law) .none kV6 dc6 pm6 an6 cd6 ct6, fun s v => .of_eq rfl, fun base hb hn => ?_⟩
  have G0 := ok_is_name (P := P) (w := w) (base := base) F0 T
  have G1 := ok_number_of (P := P) (w := w) (base := base) F1 T (PySem.W.mg_of X G aX_NoPlan) XFc
  have G2 := ok_read_plan (P := P) (w := w) (base := base) F2 T G1 M1 G0 M0 (PySem.W.mg_of X G aX_NoPlan) XFc
  have G3 := ok__law_rows (P := P) (w := w) (base := base) F3 T
  have G4 := ok__law_spoilt (P := P) (w := w) (base := base) F4 T
  have G5 := ok__law_refused (P := P) (w := w) (base := base) F5 T G2 M2 (PySem.W.mg_of X G aX_NoPlan) (PySem.W.mg_of X G aX_NoRow) (PySem.W.mg_of X G aX_NoSay) (PySem.W.mg_of X G aX_NoShop) (PySem.W.mg_of X G aX_NoTree) (PySem.W.mg_of X G aX_ShopError) XC
  have G6 := ok_law (P := P) (w := w) (base := base) F6 T G4 M4 G5 M5 G2 M2 G3 M3
  exact G6
theorem walk {l : PySem.W.OpenLaw} {q : Program} {loose : List Str} {XP : (Str → Option Value) → Heap → Prop} {YP : World → Heap → Prop} {d : DefRec} {K : Params → PySem.W.Frag} (hn : l.most = some 63) (hdf : d.params.defaults = [])
    (hY : ∀ (w : World) (h : Heap), YP w h → (K w.params).In h)
    (law_true : ∀ ns : List Int, ns.length ≤ 63 → r_law [.scr ns] = .ok (.sh (.bl true)))
    (F : ∀ (w : World) (mg : Str → Option Value) (fa : Addr) (h : Heap), (K w.params).In h → h.Ns mainGlobals mg → mg d.name = some (.ref fa) →
      ∃ fd : FuncData, (∀ (s : Shared) (u : Value), BindsTo s fd ⟨[u], []⟩ [("_law_script", u)]) ∧ ∀ base : Heap, (K w.params).In base → base.Ns mainGlobals mg → FnOk l.prog w (K w.params) mg base (L2.CX l.prog w) 4 fa fd ["_law_script"] (spM (K w.params) 1 r_law)) :
    PySem.W.WalkO q loose XP YP l.row.toRowW d [] (fun f vs => PySem.call f vs) :=
  L2.walk_of (n := 63) (k := 4) (x := "_law_script") (CX := fun w => L2.CX l.prog w) (sp := fun w => spM (K w.params) 1 r_law) hn (by decide) hdf ⟨rfl, by decide, by decide⟩ hY F
    (fun w H a ns hl _ hS => ⟨rfl, H, [.scr ns], Same.refl H, .cons (.scr hS) .nil, by rw [law_true ns hl]; exact fun v S' H' fp n => by cases n.own with | sh r => cases r; rfl⟩)
    fun w H s e s' z => by obtain ⟨_, _, _, _, _, _, _, _, _, _, _, _, z⟩ := z; exact z
end My
open PySem PySem.W PyProof.Rows
set_option maxRecDepth 100000 in
set_option maxHeartbeats 0 in
theorem PySem.Challenge.cw_shopbound_k24_no_plan_holds : PySem.Challenge.rw_shopbound_k24_no_plan.Holds := by
  w_on; o_law; k_head; (case hw => w_witness2)
  k_fill
  refine My.walk (l := PySem.Challenge.rw_shopbound_k24_no_plan) rfl rfl (fun w h Y => PySem.W.kIn_of Y) My.law_true ?F
  case F =>
    intro w mg fa h KX G hmg
    refine' My.all_mk KX G hmg ?aX_NoPlan ?aX_NoRow ?aX_NoSay ?aX_NoShop ?aX_NoTree ?aX_ShopError ?hdX_NoPlan ?tyX_NoPlan ?hdX_NoRow ?tyX_NoRow ?hdX_NoSay ?tyX_NoSay ?hdX_NoShop ?tyX_NoShop ?hdX_NoTree ?tyX_NoTree ?hdX_ShopError ?tyX_ShopError ?s0_NoPlan ?s0_NoRow ?s1_NoRow ?ne_NoRow ?s0_NoSay ?s1_NoSay ?ne_NoSay ?s0_NoShop ?s1_NoShop ?ne_NoShop ?s0_NoTree ?s1_NoTree ?ne_NoTree ?s0_VE ?s1_VE ?bsX_NoPlan ?bsX_ShopError ?scX ?xg ?xk ?xa ?xn ?xt ?xm ?xkc ?exX ?a0 ?l0 ?c0 ?k0 ?a1 ?l1 ?c1 ?k1 ?a2 ?l2 ?c2 ?k2 ?a3 ?l3 ?c3 ?k3 ?a4 ?l4 ?c4 ?k4 ?a5 ?l5 ?c5 ?k5 ?a6 ?l6 ?c6 ?k6 ?z_ValueError ?z_enumerate ?z_int ?z_isinstance ?z_len ?z_range ?z_str ?g_FIGURES ?g_LETTERS
    (case aX_NoPlan => k_is)
    (case aX_NoRow => k_is)
    (case aX_NoSay => k_is)
    (case aX_NoShop => k_is)
    (case aX_NoTree => k_is)
    (case aX_ShopError => k_is)
    (case hdX_NoPlan => k_is)
    (case tyX_NoPlan => k_is)
    (case hdX_NoRow => k_is)
    (case tyX_NoRow => k_is)
    (case hdX_NoSay => k_is)
    (case tyX_NoSay => k_is)
    (case hdX_NoShop => k_is)
    (case tyX_NoShop => k_is)
    (case hdX_NoTree => k_is)
    (case tyX_NoTree => k_is)
    (case hdX_ShopError => k_is)
    (case tyX_ShopError => k_is)
    (case s0_NoPlan => k_is)
    (case s0_NoRow => k_is)
    (case s1_NoRow => k_is)
    (case ne_NoRow => decide +kernel)
    (case s0_NoSay => k_is)
    (case s1_NoSay => k_is)
    (case ne_NoSay => decide +kernel)
    (case s0_NoShop => k_is)
    (case s1_NoShop => k_is)
    (case ne_NoShop => decide +kernel)
    (case s0_NoTree => k_is)
    (case s1_NoTree => k_is)
    (case ne_NoTree => decide +kernel)
    (case s0_VE => k_is)
    (case s1_VE => k_is)
    (case bsX_NoPlan => k_is)
    (case bsX_ShopError => k_is)
    (case scX => k_is)
    (case xg => k_is)
    (case xk => k_is)
    (case xa => k_is)
    (case xn => k_is)
    (case xt => k_is)
    (case xm => k_is)
    (case xkc => k_is)
    (case exX => k_exc)
    (case a0 => k_is)
    (case l0 => k_is)
    (case c0 => k_is)
    (case k0 => k_is)
    (case a1 => k_is)
    (case l1 => k_is)
    (case c1 => k_is)
    (case k1 => k_is)
    (case a2 => k_is)
    (case l2 => k_is)
    (case c2 => k_is)
    (case k2 => k_is)
    (case a3 => k_is)
    (case l3 => k_is)
    (case c3 => k_is)
    (case k3 => k_is)
    (case a4 => k_is)
    (case l4 => k_is)
    (case c4 => k_is)
    (case k4 => k_is)
    (case a5 => k_is)
    (case l5 => k_is)
    (case c5 => k_is)
    (case k5 => k_is)
    (case a6 => k_is)
    (case l6 => k_is)
    (case c6 => k_is)
    (case k6 => k_is)
    (case z_ValueError => k_is)
    (case z_enumerate => k_is)
    (case z_int => k_is)
    (case z_isinstance => k_is)
    (case z_len => k_is)
    (case z_range => k_is)
    (case z_str => k_is)
    (case g_FIGURES => k_is)
    (case g_LETTERS => k_is)

