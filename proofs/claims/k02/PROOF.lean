import PyProof.Rows.All
import Wide.All
import OpenK.AllK
import Wide.FinOn
import HandS.ForMost
import HandS.TupAny
import HandS.Style
import HandS.IsInst
import HandS.Conv
import HandS.Zip
import HandS.Small
import HandS.Text
import KE.SortData
import KE.KDictSum
import HandS.DictTup
import HandS.WordsDict
import KE.KIndexOf
import HandS.Defaults
import HandS.Strs
import HandS.DictComp
import HandS.ExcInit
import HandS.ExcOwn
import HandS.ExcField
import HandS.WordsExc
import KE.KExcSuper
import HandS.FStr
import HandS.ExcIs
import PySem.Challenge.RW_surelyelder_k02_bands_bounds_and_basic_p
set_option Elab.async false
set_option linter.all false
set_option maxRecDepth 100000
/-! DL0: data with tuples as values, abstract objects, judgements lifted over them. -/
namespace L2.DL
open PySem PySem.Spec PyProof.Rows

/-- a value told with its tuples: what may change stands at an address -/
inductive D where
  | non | bl (b : Bool) | int (i : Int) | str (s : Str) | tup (xs : List D) | obj (a : Addr) | scr (ns : List Int) | fin (xs : List D)
  deriving Inhabited

/-- a list that nobody writes: the script, or an object of the module -/
def ScrAt (K : PySem.W.Frag) (H : Hp) (a : Addr) (xs : List V) : Prop := (∃ o, H a = some (.frz o (.lst xs))) ∨
    ∃ (o : Obj) (its : Array Value) (n : Nat), K.lookup a = some o ∧ o.cls = .type "list" ∧ o.dict = none ∧ o.data = .seq its n ∧ its.size ≤ sizeLine ∧ Vals xs its.toList
theorem ScrAt.seq {K : PySem.W.Frag} {H : Hp} {a : Addr} {xs : List V} (h : ScrAt K H a xs) : SqL K H a xs := by
  rcases h with h | h
  · exact .inl (.inr h)
  · exact .inr h
/-- H' keeps the tuples and the script of H -/
structure Kept (K : PySem.W.Frag) (H H' : Hp) : Prop where
  tup : ∀ a xs, H a = some (.tup xs) → H' a = some (.tup xs)
  frz : ∀ a o u, H a = some (.frz o u) → H' a = some (.frz o u)
mutual
def Rel (K : PySem.W.Frag) (H : Hp) : D → V → Prop
  | .non, v => v = .non
  | .bl b, v => v = .bl b
  | .int i, v => v = .int i
  | .str s, v => v = .str s
  | .tup ds, v => ∃ a xs, v = .ref a ∧ H a = some (.tup xs) ∧ Rels K H ds xs
  | .obj a, v => v = .ref a
  | .scr ns, v => ∃ a, v = .ref a ∧ ScrAt K H a (ns.map V.int)
  | .fin ds, v => ∃ a xs o, v = .ref a ∧ H a = some (.frz o (.tup xs)) ∧ o.dict = none ∧ Rels K H ds xs
def Rels (K : PySem.W.Frag) (H : Hp) : List D → List V → Prop
  | [], xs => xs = []
  | d :: ds, xs => ∃ x r, xs = x :: r ∧ Rel K H d x ∧ Rels K H ds r
end

/-- an object told -/
inductive GO where
  | lst (ds : List D)
  | dK (kvs : List (Key × D))
  | dT (kvs : List (List Key × D))
  | ins (C dx : Addr) (fs : List (Str × D))
  | xd (fs : List (Str × D))
abbrev G := Addr → Option GO
def gup (g : G) (a : Addr) (o : GO) : G := fun b => if b = a then some o else g b
theorem gup_same {g : G} {a : Addr} {o : GO} : gup g a o a = some o := by unfold gup; rw [if_pos rfl]
theorem gup_ne {g : G} {a b : Addr} {o : GO} (h : b ≠ a) : gup g a o b = g b := by unfold gup; rw [if_neg h]

def RelKV {κ : Type} (K : PySem.W.Frag) (H : Hp) : List (κ × D) → List (κ × V) → Prop
  | [], xs => xs = []
  | p :: ds, xs => ∃ x r, xs = (p.1, x) :: r ∧ Rel K H p.2 x ∧ RelKV K H ds r
def RelO (K : PySem.W.Frag) (H : Hp) : GO → HO → Prop
  | .lst ds, u => ∃ xs, u = .lst xs ∧ Rels K H ds xs
  | .dK ds, u => ∃ xs, u = .dK xs ∧ RelKV K H ds xs
  | .dT ds, u => ∃ xs, u = .dT xs ∧ RelKV K H ds xs
  | .ins C dx fs, u => ∃ xs, u = .ins C dx xs ∧ RelKV K H fs xs
  | .xd fs, u => ∃ xs, u = .xd xs ∧ RelKV K H fs xs
def Sim (K : PySem.W.Frag) (H : Hp) (g : G) : Prop := ∀ a o, g a = some o → ∃ u, H a = some u ∧ RelO K H o u
/-- what is tracked in H and not told in g stands -/
def Ext (H : Hp) (g : G) (H' : Hp) (g' : G) : Prop := ∀ a u, H a = some u → g a = none → H' a = some u ∧ g' a = none
theorem Ext.refl {H : Hp} {g : G} : Ext H g H g := fun _ _ h n => ⟨h, n⟩
theorem Ext.trans {H H1 H2 : Hp} {g g1 g2 : G} (e : Ext H g H1 g1) (f : Ext H1 g1 H2 g2) : Ext H g H2 g2 := fun a u h n => let ⟨h1, n1⟩ := e a u h n; f a u h1 n1

section
variable {K : PySem.W.Frag} {H H' : Hp} {g g' : G}
def isOwnO : HO → Bool
  | .lst _ => true | .dK _ => true | .dT _ => true | .ins _ _ _ => true | .xd _ => true
  | _ => false
theorem RelO.own {o : GO} {u : HO} (r : RelO K H o u) : isOwnO u = true := by
  cases o <;> (obtain ⟨xs, rfl, _⟩ := r; rfl)
/-- what is no list, dict, instance is not told -/
theorem Sim.untold {a : Addr} {u : HO} (S : Sim K H g) (h : H a = some u) (n : isOwnO u = false) : g a = none := by
  cases e : g a with
  | none => rfl
  | some o =>
    obtain ⟨u', h', r⟩ := S a o e
    rw [h] at h'; cases h'
    rw [r.own] at n; cases n
theorem Sim.fresh {a : Addr} (S : Sim K H g) (h : H a = none) : g a = none := by
  cases e : g a with
  | none => rfl
  | some o =>
    obtain ⟨u', h', r⟩ := S a o e
    rw [h] at h'; cases h'
theorem Sim.kept (S : Sim K H g) (e : Ext H g H' g') : Kept K H H' := ⟨fun a xs h => (e a _ h (S.untold h rfl)).1, fun a o u h => (e a _ h (S.untold h rfl)).1⟩
theorem ScrAt.kept {a : Addr} {xs : List V} (m : Kept K H H') (h : ScrAt K H a xs) : ScrAt K H' a xs := by
  rcases h with ⟨o, h⟩ | h
  · exact .inl ⟨o, m.frz _ _ _ h⟩
  · exact .inr h
end

mutual
theorem Rel.mono {K : PySem.W.Frag} {H H' : Hp} (m : Kept K H H') : ∀ (d : D) (v : V), Rel K H d v → Rel K H' d v
  | .non, _, h => h
  | .bl _, _, h => h
  | .int _, _, h => h
  | .str _, _, h => h
  | .obj _, _, h => h
  | .tup ds, v, h => by
    unfold Rel at h ⊢
    obtain ⟨a, xs, e, s, r⟩ := h
    exact ⟨a, xs, e, m.tup a xs s, Rels.mono m ds xs r⟩
  | .scr ns, v, h => by
    unfold Rel at h ⊢
    obtain ⟨a, e, s⟩ := h
    exact ⟨a, e, s.kept m⟩
  | .fin ds, v, h => by
    unfold Rel at h ⊢
    obtain ⟨a, xs, o, e, s, hd, r⟩ := h
    exact ⟨a, xs, o, e, m.frz a o _ s, hd, Rels.mono m ds xs r⟩
theorem Rels.mono {K : PySem.W.Frag} {H H' : Hp} (m : Kept K H H') : ∀ (ds : List D) (xs : List V), Rels K H ds xs → Rels K H' ds xs
  | [], _, h => h
  | d :: ds, xs, h => by
    unfold Rels at h ⊢
    obtain ⟨x, r, e, h1, h2⟩ := h
    exact ⟨x, r, e, Rel.mono m d x h1, Rels.mono m ds r h2⟩
end
theorem RelKV.mono {κ : Type} {K : PySem.W.Frag} {H H' : Hp} (m : Kept K H H') : ∀ (ds : List (κ × D)) (xs : List (κ × V)), RelKV K H ds xs → RelKV K H' ds xs
  | [], _, h => h
  | d :: ds, xs, h => by
    unfold RelKV at h ⊢
    obtain ⟨x, r, e, h1, h2⟩ := h
    exact ⟨x, r, e, Rel.mono m _ x h1, RelKV.mono m ds r h2⟩
theorem RelO.mono {K : PySem.W.Frag} {H H' : Hp} (m : Kept K H H') (o : GO) (u : HO) (h : RelO K H o u) : RelO K H' o u := by
  cases o with
  | lst ds => obtain ⟨xs, e, r⟩ := h; exact ⟨xs, e, Rels.mono m _ _ r⟩
  | dK ds => obtain ⟨xs, e, r⟩ := h; exact ⟨xs, e, RelKV.mono m _ _ r⟩
  | dT ds => obtain ⟨xs, e, r⟩ := h; exact ⟨xs, e, RelKV.mono m _ _ r⟩
  | ins C dx fs => obtain ⟨xs, e, r⟩ := h; exact ⟨xs, e, RelKV.mono m _ _ r⟩
  | xd fs => obtain ⟨xs, e, r⟩ := h; exact ⟨xs, e, RelKV.mono m _ _ r⟩

section
variable {K : PySem.W.Frag} {H H' : Hp} {g g' : G} {d : D} {v : V} {ds : List D} {xs : List V}
theorem Rel.ext (S : Sim K H g) (e : Ext H g H' g') (h : Rel K H d v) : Rel K H' d v := Rel.mono (S.kept e) d v h
theorem Rels.ext (S : Sim K H g) (e : Ext H g H' g') (h : Rels K H ds xs) : Rels K H' ds xs := Rels.mono (S.kept e) ds xs h
theorem Rels.length : ∀ {ds : List D} {xs : List V}, Rels K H ds xs → ds.length = xs.length
  | [], xs, h => by unfold Rels at h; subst h; rfl
  | d :: ds, xs, h => by
    unfold Rels at h
    obtain ⟨x, r, rfl, _, h2⟩ := h
    rw [List.length_cons, List.length_cons, Rels.length h2]
theorem Rels.get : ∀ {ds : List D} {xs : List V} {i : Nat} {d : D}, Rels K H ds xs → ds[i]? = some d → ∃ v, xs[i]? = some v ∧ Rel K H d v
  | [], _, _, _, _, e => by simp at e
  | d :: ds, xs, 0, _, h, e => by
    unfold Rels at h
    obtain ⟨x, r, rfl, h1, _⟩ := h
    simp at e; subst e
    exact ⟨x, rfl, h1⟩
  | d :: ds, xs, i + 1, _, h, e => by
    unfold Rels at h
    obtain ⟨x, r, rfl, _, h2⟩ := h
    obtain ⟨v, a, b⟩ := Rels.get (i := i) h2 (by simpa using e)
    exact ⟨v, by simpa using a, b⟩
theorem Rels.nil : Rels K H [] [] := by unfold Rels; rfl
theorem Rels.cons (h : Rel K H d v) (t : Rels K H ds xs) : Rels K H (d :: ds) (v :: xs) := by unfold Rels; exact ⟨v, xs, rfl, h, t⟩
theorem Rels.append : ∀ {ds es : List D} {xs ys : List V}, Rels K H ds xs → Rels K H es ys → Rels K H (ds ++ es) (xs ++ ys)
  | [], _, _, _, h, t => by unfold Rels at h; subst h; exact t
  | d :: ds, _, _, _, h, t => by
    unfold Rels at h
    obtain ⟨x, r, rfl, h1, h2⟩ := h
    exact Rels.cons h1 (Rels.append h2 t)
theorem Rels.take : ∀ {ds : List D} {xs : List V} (n : Nat), Rels K H ds xs → Rels K H (ds.take n) (xs.take n)
  | _, _, 0, _ => by rw [List.take_zero, List.take_zero]; exact Rels.nil
  | [], xs, n + 1, h => by unfold Rels at h; subst h; exact Rels.nil
  | d :: ds, xs, n + 1, h => by
    unfold Rels at h
    obtain ⟨x, r, rfl, h1, h2⟩ := h
    exact Rels.cons h1 (Rels.take n h2)
theorem Rels.drop : ∀ {ds : List D} {xs : List V} (n : Nat), Rels K H ds xs → Rels K H (ds.drop n) (xs.drop n)
  | _, _, 0, h => by rw [List.drop_zero, List.drop_zero]; exact h
  | [], xs, n + 1, h => by unfold Rels at h; subst h; exact Rels.nil
  | d :: ds, xs, n + 1, h => by
    unfold Rels at h
    obtain ⟨x, r, rfl, h1, h2⟩ := h
    exact Rels.drop n h2
theorem Rels.set : ∀ {ds : List D} {xs : List V} (n : Nat), Rels K H ds xs → Rel K H d v → Rels K H (ds.set n d) (xs.set n v)
  | [], xs, n, h, _ => by unfold Rels at h; subst h; exact Rels.nil
  | e :: ds, xs, 0, h, q => by
    unfold Rels at h
    obtain ⟨x, r, rfl, h1, h2⟩ := h
    exact Rels.cons q h2
  | e :: ds, xs, n + 1, h, q => by
    unfold Rels at h
    obtain ⟨x, r, rfl, h1, h2⟩ := h
    exact Rels.cons h1 (Rels.set n h2 q)
theorem Rels.reverse : ∀ {ds : List D} {xs : List V}, Rels K H ds xs → Rels K H ds.reverse xs.reverse
  | [], xs, h => by unfold Rels at h; subst h; exact Rels.nil
  | d :: ds, xs, h => by
    unfold Rels at h
    obtain ⟨x, r, rfl, h1, h2⟩ := h
    rw [List.reverse_cons, List.reverse_cons]
    exact Rels.append (Rels.reverse h2) (Rels.cons h1 Rels.nil)
theorem Rels.eraseIdx : ∀ {ds : List D} {xs : List V} (n : Nat), Rels K H ds xs → Rels K H (ds.eraseIdx n) (xs.eraseIdx n)
  | [], xs, n, h => by unfold Rels at h; subst h; exact Rels.nil
  | e :: ds, xs, 0, h => by
    unfold Rels at h
    obtain ⟨x, r, rfl, h1, h2⟩ := h
    exact h2
  | e :: ds, xs, n + 1, h => by
    unfold Rels at h
    obtain ⟨x, r, rfl, h1, h2⟩ := h
    exact Rels.cons h1 (Rels.eraseIdx n h2)
/-- an object is laid where nothing was -/
theorem Ext.laid {p : Addr} {o : HO} {q : GO} (h : H p = none) : Ext H g (upd H p o) (gup g p q) := fun a u e n => by
  have ne : a ≠ p := ne_of_none e h
  rw [upd_ne ne, gup_ne ne]; exact ⟨e, n⟩
/-- .. a tuple (not told) -/
theorem Ext.laidT {p : Addr} {o : HO} (h : H p = none) : Ext H g (upd H p o) g := fun a u e n => by
  have ne : a ≠ p := ne_of_none e h
  rw [upd_ne ne]; exact ⟨e, n⟩
theorem Sim.laid {p : Addr} {o : HO} {q : GO} (S : Sim K H g) (h : H p = none) (r : RelO K H q o) : Sim K (upd H p o) (gup g p q) := fun a u e => by
  have m : Kept K H (upd H p o) := S.kept (Ext.laid (g := g) (q := q) h)
  by_cases ha : a = p
  · subst ha; rw [gup_same] at e; cases e
    exact ⟨o, upd_same, RelO.mono m _ _ r⟩
  · rw [gup_ne ha] at e
    obtain ⟨w, h1, h2⟩ := S a u e
    exact ⟨w, by rw [upd_ne ha]; exact h1, RelO.mono m _ _ h2⟩
theorem Sim.laidT {p : Addr} {o : HO} (S : Sim K H g) (h : H p = none) : Sim K (upd H p o) g := fun a u e => by
  have m : Kept K H (upd H p o) := S.kept (Ext.laidT (g := g) h)
  obtain ⟨w, h1, h2⟩ := S a u e
  have ha : a ≠ p := ne_of_none h1 h
  exact ⟨w, by rw [upd_ne ha]; exact h1, RelO.mono m _ _ h2⟩
/-- a told object is written -/
theorem Ext.wrote {p : Addr} {o : HO} {q q' : GO} (h : g p = some q') : Ext H g (upd H p o) (gup g p q) := fun a u e n => by
  have ne : a ≠ p := fun z => by subst z; rw [h] at n; cases n
  rw [upd_ne ne, gup_ne ne]; exact ⟨e, n⟩
theorem Sim.wrote {p : Addr} {o : HO} {q q' : GO} (S : Sim K H g) (h : g p = some q') (r : RelO K H q o) : Sim K (upd H p o) (gup g p q) := fun a u e => by
  have m : Kept K H (upd H p o) := S.kept (Ext.wrote (g := g) (q := q) h)
  by_cases ha : a = p
  · subst ha; rw [gup_same] at e; cases e
    exact ⟨o, upd_same, RelO.mono m _ _ r⟩
  · rw [gup_ne ha] at e
    obtain ⟨w, h1, h2⟩ := S a u e
    exact ⟨w, by rw [upd_ne ha]; exact h1, RelO.mono m _ _ h2⟩
end

/-! ### slots -/
abbrev Rho := List (Option D)
def EnvR (K : PySem.W.Frag) (H : Hp) (ρ : Rho) (σ : St) : Prop := ρ.length = σ.length ∧ ∀ (i : Nat) (d : D), ρ[i]? = some (some d) → ∃ v, σ[i]? = some (some v) ∧ Rel K H d v
section
variable {K : PySem.W.Frag} {H H' : Hp} {g g' : G} {d : D} {v : V} {ρ : Rho} {σ : St}
theorem EnvR.ext (S : Sim K H g) (e : Ext H g H' g') (h : EnvR K H ρ σ) : EnvR K H' ρ σ := ⟨h.1, fun i d q => let ⟨v, a, b⟩ := h.2 i d q; ⟨v, a, b.ext S e⟩⟩
theorem EnvR.set (h : EnvR K H ρ σ) (r : Rel K H d v) (i : Nat) : EnvR K H (ρ.set i (some d)) (σ.set i (some v)) := by
  refine ⟨by rw [List.length_set, List.length_set]; exact h.1, fun j e q => ?_⟩
  by_cases hj : i = j
  · subst hj
    by_cases hl : i < ρ.length
    · rw [List.getElem?_set_self hl] at q
      cases q
      exact ⟨v, List.getElem?_set_self (by rw [← h.1]; exact hl), r⟩
    · rw [List.getElem?_eq_none (by rw [List.length_set]; omega)] at q
      cases q
  · rw [List.getElem?_set_ne hj] at q ⊢
    exact h.2 j e q
theorem EnvR.unset (h : EnvR K H ρ σ) (i : Nat) : EnvR K H (ρ.set i none) (σ.set i none) := by
  refine ⟨by rw [List.length_set, List.length_set]; exact h.1, fun j e q => ?_⟩
  by_cases hj : i = j
  · subst hj
    by_cases hl : i < ρ.length
    · rw [List.getElem?_set_self hl] at q; cases q
    · rw [List.getElem?_eq_none (by rw [List.length_set]; omega)] at q
      cases q
  · rw [List.getElem?_set_ne hj] at q ⊢
    exact h.2 j e q
def dwipe (ρ : Rho) : List Nat → Rho
  | [] => ρ
  | v :: vs => (dwipe ρ vs).set v none
theorem EnvR.wiped (h : EnvR K H ρ σ) : ∀ vs : List Nat, EnvR K H (dwipe ρ vs) (wipe σ vs)
  | [] => h
  | v :: vs => by
    unfold dwipe wipe
    exact (EnvR.wiped h vs).unset v
/-- the slots at a def's entry -/
def dstart (n : Nat) (ds : List D) : Rho := ds.map some ++ List.replicate (n - ds.length) none
theorem Rels.envR {N : List Str} {ds : List D} {vs : List V} (r : Rels K H ds vs) : EnvR K H (dstart N.length ds) (start N vs) := by
  unfold start dstart
  have hl := r.length
  refine ⟨by simp [hl], fun i d q => ?_⟩
  by_cases hi : i < ds.length
  · rw [List.getElem?_append_left (by simpa using hi), List.getElem?_map] at q
    cases e : ds[i]? with
    | none => rw [e] at q; cases q
    | some d' =>
      rw [e] at q
      have : d' = d := by simpa using q
      subst this
      obtain ⟨v, h1, h2⟩ := r.get e
      refine ⟨v, ?_, h2⟩
      rw [List.getElem?_append_left (by rw [List.length_map, ← hl]; exact hi), List.getElem?_map, h1]
      rfl
  · rw [List.getElem?_append_right (by simpa using Nat.le_of_not_lt hi)] at q
    have := List.mem_of_getElem? q
    rw [List.mem_replicate] at this
    cases this.2
end
end L2.DL

/-! DL1: the judgements over data, the core rules. -/
namespace L2.DL
open PySem PySem.Spec PyProof.Rows

structure Bs where
  H : Hp
  g : G
def PostE (K : PySem.W.Frag) (H : Hp) (g : G) (Q0 : D → G → Prop) (Q : VK) : Prop := ∀ d g' v H', Q0 d g' → Ext H g H' g' → Sim K H' g' → Rel K H' d v → Q v H'
abbrev DE := Rho → G → (D → G → Prop) → Prop
abbrev DT := Rho → G → (Bool → G → Prop) → Prop
abbrev DA := Rho → G → (List D → G → Prop) → Prop
structure DEnds where
  nx : Rho → G → Prop
  rt : D → G → Prop
  bk : Rho → G → Prop := fun _ _ => False
  ct : Rho → G → Prop := fun _ _ => False
abbrev DS := DEnds → Rho → G → Prop
structure At (K : PySem.W.Frag) (B : Bs) (H : Hp) (σ : St) (ρ : Rho) (g : G) : Prop where
  env : EnvR K H ρ σ
  sim : Sim K H g
  ext : Ext B.H B.g H g
def LE (K : PySem.W.Frag) (B : Bs) (t : DE) : TE := fun σ H Q => ∃ ρ g Q0, At K B H σ ρ g ∧ t ρ g Q0 ∧ PostE K H g Q0 Q
def LT (K : PySem.W.Frag) (B : Bs) (t : DT) : TT := fun σ H Q => ∃ ρ g Q0, At K B H σ ρ g ∧ t ρ g Q0 ∧ ∀ b g' H', Q0 b g' → Ext H g H' g' → Sim K H' g' → Q b H'
def LA (K : PySem.W.Frag) (B : Bs) (t : DA) : TA := fun σ H Q => ∃ ρ g Q0, At K B H σ ρ g ∧ t ρ g Q0 ∧ ∀ ds g' vs H', Q0 ds g' → Ext H g H' g' → Sim K H' g' → Rels K H' ds vs → Q vs H'
def PostR (K : PySem.W.Frag) (H : Hp) (g : G) (Q0 : Rho → G → Prop) (Q : St → Hp → Prop) : Prop := ∀ ρ' g' σ' H', Q0 ρ' g' → Ext H g H' g' → Sim K H' g' → EnvR K H' ρ' σ' → Q σ' H'
structure PostS (K : PySem.W.Frag) (H : Hp) (g : G) (d : DEnds) (e : Ends) : Prop where
  nx : PostR K H g d.nx e.nx
  rt : PostE K H g d.rt e.rt
  bk : PostR K H g d.bk e.bk
  ct : PostR K H g d.ct e.ct
def LS (K : PySem.W.Frag) (B : Bs) (t : DS) : TS := fun e σ H => ∃ ρ g d, At K B H σ ρ g ∧ t d ρ g ∧ PostS K H g d e

section
variable {K : PySem.W.Frag} {B : Bs} {H H1 : Hp} {g g1 : G} {σ : St} {ρ : Rho}
theorem PostE.ext {Q0 : D → G → Prop} {Q : VK} (p : PostE K H g Q0 Q) (e : Ext H g H1 g1) : PostE K H1 g1 Q0 Q := fun d g' v H' q e' => p d g' v H' q (e.trans e')
theorem PostR.ext {Q0 : Rho → G → Prop} {Q : St → Hp → Prop} (p : PostR K H g Q0 Q) (e : Ext H g H1 g1) : PostR K H1 g1 Q0 Q := fun d g' v H' q e' => p d g' v H' q (e.trans e')
theorem PostS.ext {d : DEnds} {e : Ends} (p : PostS K H g d e) (x : Ext H g H1 g1) : PostS K H1 g1 d e := ⟨p.nx.ext x, p.rt.ext x, p.bk.ext x, p.ct.ext x⟩
theorem At.go (a : At K B H σ ρ g) (e : Ext H g H1 g1) (s : Sim K H1 g1) : At K B H1 σ ρ g1 := ⟨a.env.ext a.sim e, s, a.ext.trans e⟩
theorem At.to {ρ' : Rho} {σ' : St} (a : At K B H σ ρ g) (e : Ext H g H1 g1) (s : Sim K H1 g1) (r : EnvR K H1 ρ' σ') : At K B H1 σ' ρ' g1 := ⟨r, s, a.ext.trans e⟩
end

abbrev JE (X : Cx) (B : Bs) (e : Expr) (t : DE) : Prop := PE X e (LE X.K B t)
abbrev JT (X : Cx) (B : Bs) (e : Expr) (t : DT) : Prop := PT X e (LT X.K B t)
abbrev JW (X : Cx) (B : Bs) (e : Expr) (t : DT) : Prop := PW X e (LT X.K B t)
abbrev JA (X : Cx) (B : Bs) (es : List Expr) (t : DA) : Prop := PA X es (LA X.K B t)
abbrev JS (X : Cx) (B : Bs) (s : Stmt) (t : DS) : Prop := PS X s (LS X.K B t)
abbrev JSs (X : Cx) (B : Bs) (s : List Stmt) (t : DS) : Prop := PSs X s (LS X.K B t)

section
variable {X : Cx} {B : Bs}
theorem pe_imp {e : Expr} {T T' : TE} (h : PE X e T) (i : ∀ σ H Q, T' σ H Q → T σ H Q) : PE X e T' := ⟨fun pins s σ H Q I q => h.run pins s σ H Q I (i σ H Q q)⟩
theorem pt_imp {e : Expr} {T T' : TT} (h : PT X e T) (i : ∀ σ H Q, T' σ H Q → T σ H Q) : PT X e T' := ⟨fun pins s σ H Q I q => h.run pins s σ H Q I (i σ H Q q)⟩
theorem pw_imp {e : Expr} {T T' : TT} (h : PW X e T) (i : ∀ σ H Q, T' σ H Q → T σ H Q) : PW X e T' := ⟨fun whole pins s σ H Q I q => h.run whole pins s σ H Q I (i σ H Q q)⟩
theorem pa_imp {es : List Expr} {T T' : TA} (h : PA X es T) (i : ∀ σ H Q, T' σ H Q → T σ H Q) : PA X es T' := ⟨fun pos pins s σ H Q I q => h.run pos pins s σ H Q I (i σ H Q q)⟩
theorem ps_imp {st : Stmt} {T T' : TS} (h : PS X st T) (i : ∀ D σ H, T' D σ H → T D σ H) : PS X st T' := ⟨fun pins s σ H D I q => h.run pins s σ H D I (i D σ H q)⟩
theorem pss_imp {st : List Stmt} {T T' : TS} (h : PSs X st T) (i : ∀ D σ H, T' D σ H → T D σ H) : PSs X st T' := ⟨fun pins s σ H D I q => h.run pins s σ H D I (i D σ H q)⟩

/-! ### names, constants -/
def dVar (i : Nat) : DE := fun ρ g Q => match ρ[i]? with
  | some (some d) => Q d g
  | _ => False
theorem je_var (i : Nat) {x : Str} {pos : Pos} (hN : X.N[i]? = some x := by rfl) (hv : Vis X.env.scope x := by first | exact Or.inl rfl | exact Or.inr (Or.inl rfl) | exact Or.inr (Or.inr rfl)) (hd : (x == ("__debug__" : Str)) = false := by decide)
    (hcd : (x == ("__classdict__" : Str)) = false := by decide) : JE X B (.Name x pos) (dVar i) := by
  refine pe_imp (pe_var hN hv hd hcd) fun σ H Q ⟨ρ, g, Q0, a, h, p⟩ => ?_
  unfold dVar at h
  split at h
  · rename_i d e
    obtain ⟨v, e1, r⟩ := a.env.2 i d e
    exact ⟨v, e1, p d g v H h Ext.refl a.sim r⟩
  · exact h.elim
/-- a value that needs no heap -/
def scalV : D → Option V
  | .non => some .non
  | .bl b => some (.bl b)
  | .int i => some (.int i)
  | .str s => some (.str s)
  | _ => none
theorem scalV_rel {K : PySem.W.Frag} {H : Hp} {d : D} {v : V} (h : scalV d = some v) : Rel K H d v := by
  cases d <;> simp [scalV] at h <;> subst h <;> (unfold Rel; rfl)
def dC (d : D) : DE := fun _ g Q => Q d g
theorem je_c {e : Expr} {d : D} {v : V} (h : PE X e (tC v)) (hv : scalV d = some v) : JE X B e (dC d) :=
  pe_imp h fun σ H Q ⟨ρ, g, Q0, a, h, p⟩ => p d g v H h Ext.refl a.sim (scalV_rel hv)
theorem je_int {i j pos} : JE X B (.Constant (.int i) j pos) (dC (.int i)) := je_c pe_int rfl
theorem je_bl {b j pos} : JE X B (.Constant (.bool b) j pos) (dC (.bl b)) := je_c pe_bl rfl
theorem je_non {j pos} : JE X B (.Constant .none j pos) (dC .non) := je_c pe_non rfl
theorem je_str {x j pos} : JE X B (.Constant (.str x) j pos) (dC (.str x)) := je_c pe_str rfl

/-! ### operations by values -/
abbrev D2 := D → D → G → (D → G → Prop) → Prop
def LR2 (K : PySem.W.Frag) (r : D2) : R2 := fun x y H Q => ∃ dx dy g Q0, Rel K H dx x ∧ Rel K H dy y ∧ Sim K H g ∧ r dx dy g Q0 ∧ PostE K H g Q0 Q
def LR1 (K : PySem.W.Frag) (r : D → G → (D → G → Prop) → Prop) : V → Hp → VK → Prop := fun x H Q => ∃ dx g Q0, Rel K H dx x ∧ Sim K H g ∧ r dx g Q0 ∧ PostE K H g Q0 Q
abbrev DN := List D → G → (D → G → Prop) → Prop
def LRn (K : PySem.W.Frag) (r : DN) : List V → Hp → VK → Prop := fun xs H Q => ∃ ds g Q0, Rels K H ds xs ∧ Sim K H g ∧ r ds g Q0 ∧ PostE K H g Q0 Q
abbrev OpJ (X : Cx) (f : Value → Value → Sem Value) (r : D2) : Prop := OpR X f (LR2 X.K r)
theorem opr_imp {f : Value → Value → Sem Value} {r r' : R2} (h : OpR X f r) (i : ∀ x y H Q, r' x y H Q → r x y H Q) : OpR X f r' := fun pins s σ H x y v u Q I rx ry q => h pins s σ H x y v u Q I rx ry (i x y H Q q)
theorem callr_imp {f : Value} {r r' : List V → Hp → VK → Prop} (h : CallR X f r) (i : ∀ xs H Q, r' xs H Q → r xs H Q) : CallR X f r' := fun pins s σ H xs us Q I rx q => h pins s σ H xs us Q I rx (i xs H Q q)
def dOp (r : D2) (ta tb : DE) : DE := fun ρ g Q => ta ρ g fun x g1 => tb ρ g1 fun y g2 => r x y g2 Q
def dUn (r : D → G → (D → G → Prop) → Prop) (ta : DE) : DE := fun ρ g Q => ta ρ g fun x g1 => r x g1 Q
variable {a b c : Expr} {ta tb tc : DE} {pos : Pos}
theorem lop {r : D2} {σ : St} {H : Hp} {Q : VK} (h : LE X.K B (dOp r ta tb) σ H Q) : tOp (LR2 X.K r) (LE X.K B ta) (LE X.K B tb) σ H Q := by
  obtain ⟨ρ, g, Q0, a, h, p⟩ := h
  exact ⟨ρ, g, _, a, h, fun dx g1 x H1 h1 e1 s1 r1 => ⟨ρ, g1, _, a.go e1 s1, h1, fun dy g2 y H2 h2 e2 s2 r2 => ⟨dx, dy, g2, Q0, r1.ext s1 e2, r2, s2, h2, (p.ext e1).ext e2⟩⟩⟩
theorem je_op {op : Operator} {r : D2} (ho : OpJ X (binaryOp op) r) (ha : JE X B a ta) (hb : JE X B b tb) : JE X B (.BinOp a op b pos) (dOp r ta tb) := pe_imp (pe_op ho ha hb) fun _ _ _ h => lop h
theorem je_cmp {op : CmpOp} {r : D2} (ho : OpJ X (compareOp op) r) (ha : JE X B a ta) (hb : JE X B b tb) (hm : behindInMarks op b = false := by first | exact nomark _ | with_unfolding_all rfl) : JE X B (.Compare a [op] [b] pos) (dOp r ta tb) := pe_imp (pe_cmpR ho ha hb hm) fun _ _ _ h => lop h
theorem je_un {op : UnaryOp} {r : D → G → (D → G → Prop) → Prop} (ho : UnR X (unaryOp op) (LR1 X.K r)) (ha : JE X B a ta) : JE X B (.UnaryOp op a pos) (dUn r ta) := by
  refine pe_imp (pe_un ho ha) fun σ H Q ⟨ρ, g, Q0, at_, h, p⟩ => ?_
  exact ⟨ρ, g, _, at_, h, fun dx g1 x H1 h1 e1 s1 r1 => ⟨dx, g1, Q0, r1, s1, h1, p.ext e1⟩⟩
/-- a value as a test: a bool -/
def dB (t : DE) : DT := fun ρ g Q => t ρ g fun d g' => match d with
  | .bl b => Q b g'
  | _ => False
theorem lb {t : DE} {σ : St} {H : Hp} {Q : Bool → Hp → Prop} (h : LT X.K B (dB t) σ H Q) : LE X.K B t σ H fun x H1 => ∃ c, x = .bl c ∧ Q c H1 := by
  obtain ⟨ρ, g, Q0, at_, h, p⟩ := h
  refine ⟨ρ, g, _, at_, h, fun d g1 x H1 h1 e1 s1 r1 => ?_⟩
  cases d <;> try exact h1.elim
  unfold Rel at r1
  exact ⟨_, r1, p _ _ _ h1 e1 s1⟩
theorem jt_cmp {op : CmpOp} {r : D2} (ho : OpJ X (compareOp op) r) (ha : JE X B a ta) (hb : JE X B b tb) (hm : behindInMarks op b = false := by first | exact nomark _ | with_unfolding_all rfl) : JT X B (.Compare a [op] [b] pos) (dB (dOp r ta tb)) :=
  pt_imp (pt_cmpR ho ha hb hm) fun σ H Q h => by
    obtain ⟨ρ, g, Q0, at_, h, p⟩ := h
    refine lop ⟨ρ, g, _, at_, h, fun d g1 x H1 h1 e1 s1 r1 => ?_⟩
    cases d <;> try exact h1.elim
    unfold Rel at r1
    exact ⟨_, r1, p _ _ _ h1 e1 s1⟩
theorem jt_val {e : Expr} {t : DE} (h : JE X B e t) (he : ∀ whole, isTrue e X.env whole = (do let v ← whole; standAt e.pos; holding [v] (truthy v)) := by intro _; rfl) : JT X B e (dB t) := pt_imp (pt_val h he) fun σ H Q q => lb q
/-- a op1 b op2 c -/
def dChain (r r' : D2) (ta tb tc : DE) : DE := fun ρ g Q => ta ρ g fun x g1 => tb ρ g1 fun y g2 => r x y g2 fun z g3 => match z with
  | .bl true => tc ρ g3 fun w g4 => r' y w g4 Q
  | .bl false => Q (.bl false) g3
  | _ => False
theorem lchain {r r' : D2} {σ : St} {H : Hp} {Q : VK} (h : LE X.K B (dChain r r' ta tb tc) σ H Q) : tChain (LR2 X.K r) (LR2 X.K r') (LE X.K B ta) (LE X.K B tb) (LE X.K B tc) σ H Q := by
  obtain ⟨ρ, g, Q0, a, h, p⟩ := h
  refine ⟨ρ, g, _, a, h, fun dx g1 x H1 h1 e1 s1 r1 => ⟨ρ, g1, _, a.go e1 s1, h1, fun dy g2 y H2 h2 e2 s2 r2 => ⟨dx, dy, g2, _, r1.ext s1 e2, r2, s2, h2, fun dz g3 z H3 h3 e3 s3 r3 => ?_⟩⟩⟩
  cases dz <;> try exact h3.elim
  rename_i k
  unfold Rel at r3
  refine ⟨k, r3, ?_⟩
  cases k with
  | true => exact ⟨ρ, g3, _, a.go ((e1.trans e2).trans e3) s3, h3, fun dw g4 w H4 h4 e4 s4 r4 => ⟨dy, dw, g4, Q0, r2.ext s2 (e3.trans e4), r4, s4, h4, p.ext (((e1.trans e2).trans e3).trans e4)⟩⟩
  | false => exact p _ _ _ _ h3 ((e1.trans e2).trans e3) s3 (by unfold Rel; rfl)
theorem je_chain {op op' : CmpOp} {r r' : D2} (ho : OpJ X (compareOp op) r) (ho' : OpJ X (compareOp op') r') (ha : JE X B a ta) (hb : JE X B b tb) (hc : JE X B c tc) (hm : lastMarks [op, op'] [b, c] = false := by with_unfolding_all rfl) :
    JE X B (.Compare a [op, op'] [b, c] pos) (dChain r r' ta tb tc) := pe_imp (pe_chain ho ho' ha hb hc hm) fun _ _ _ h => lchain h
theorem jt_chain {op op' : CmpOp} {r r' : D2} (ho : OpJ X (compareOp op) r) (ho' : OpJ X (compareOp op') r') (ha : JE X B a ta) (hb : JE X B b tb) (hc : JE X B c tc) (hm : lastMarks [op, op'] [b, c] = false := by with_unfolding_all rfl) :
    JT X B (.Compare a [op, op'] [b, c] pos) (dB (dChain r r' ta tb tc)) := pt_imp (pt_chain ho ho' ha hb hc hm) fun σ H Q h => by
    obtain ⟨ρ, g, Q0, at_, h, p⟩ := h
    refine lchain ⟨ρ, g, _, at_, h, fun d g1 x H1 h1 e1 s1 r1 => ?_⟩
    cases d <;> try exact h1.elim
    unfold Rel at r1
    exact ⟨_, r1, p _ _ _ h1 e1 s1⟩

/-! ### and, or, not, if else -/
def dAnd (t u : DT) : DT := fun ρ g Q => t ρ g fun c g1 => if c = true then u ρ g1 Q else Q false g1
def dOr (t u : DT) : DT := fun ρ g Q => t ρ g fun c g1 => if c = true then Q true g1 else u ρ g1 Q
def dNot (t : DT) : DT := fun ρ g Q => t ρ g fun c g1 => Q (!c) g1
variable {t u : DT} {rest : List Expr}
theorem jw_and1 (ha : JT X B a t) : JW X B (.BoolOp .And [a] pos) t := pw_and1 ha
theorem jw_or1 (ha : JT X B a t) : JW X B (.BoolOp .Or [a] pos) t := pw_or1 ha
theorem jw_and (ha : JT X B a t) (hb : JW X B (.BoolOp .And (b :: rest) pos) u) : JW X B (.BoolOp .And (a :: b :: rest) pos) (dAnd t u) := by
  refine pw_imp (pw_and ha hb) fun σ H Q ⟨ρ, g, Q0, at_, h, p⟩ => ⟨ρ, g, _, at_, h, fun c g1 H1 h1 e1 s1 => ?_⟩
  cases c with
  | true => exact ⟨ρ, g1, Q0, at_.go e1 s1, h1, fun b' g2 H2 h2 e2 s2 => p _ _ _ h2 (e1.trans e2) s2⟩
  | false => exact p _ _ _ h1 e1 s1
theorem jw_or (ha : JT X B a t) (hb : JW X B (.BoolOp .Or (b :: rest) pos) u) : JW X B (.BoolOp .Or (a :: b :: rest) pos) (dOr t u) := by
  refine pw_imp (pw_or ha hb) fun σ H Q ⟨ρ, g, Q0, at_, h, p⟩ => ⟨ρ, g, _, at_, h, fun c g1 H1 h1 e1 s1 => ?_⟩
  cases c with
  | false => exact ⟨ρ, g1, Q0, at_.go e1 s1, h1, fun b' g2 H2 h2 e2 s2 => p _ _ _ h2 (e1.trans e2) s2⟩
  | true => exact p _ _ _ h1 e1 s1
theorem jt_w {e : Expr} (h : JW X B e t) : JT X B e t := h.pt
theorem jt_not (ha : JT X B a t) : JT X B (.UnaryOp .Not a pos) (dNot t) :=
  pt_imp (pt_not ha) fun σ H Q ⟨ρ, g, Q0, at_, h, p⟩ => ⟨ρ, g, _, at_, h, fun c g1 H1 h1 e1 s1 => p _ _ _ h1 e1 s1⟩
def dAndV (ta tb : DE) : DE := fun ρ g Q => ta ρ g fun x g1 => match x with
  | .bl true => tb ρ g1 Q
  | .bl false => Q (.bl false) g1
  | _ => False
def dOrV (ta tb : DE) : DE := fun ρ g Q => ta ρ g fun x g1 => match x with
  | .bl true => Q (.bl true) g1
  | .bl false => tb ρ g1 Q
  | _ => False
def dNotV (ta : DE) : DE := fun ρ g Q => ta ρ g fun x g1 => match x with
  | .bl c => Q (.bl (!c)) g1
  | _ => False
theorem je_one {op} {t : DE} (h : JE X B a t) : JE X B (.BoolOp op [a] pos) t := pe_one h
theorem je_and (ha : JE X B a ta) (hb : JE X B (.BoolOp .And (b :: rest) pos) tb) : JE X B (.BoolOp .And (a :: b :: rest) pos) (dAndV ta tb) := by
  refine pe_imp (pe_and ha hb) fun σ H Q ⟨ρ, g, Q0, at_, h, p⟩ => ⟨ρ, g, _, at_, h, fun c g1 x H1 h1 e1 s1 r1 => ?_⟩
  cases c <;> try exact h1.elim
  rename_i k
  unfold Rel at r1
  refine ⟨k, r1, ?_⟩
  cases k with
  | true => exact ⟨ρ, g1, Q0, at_.go e1 s1, h1, p.ext e1⟩
  | false => exact p _ _ _ _ h1 e1 s1 (by unfold Rel; rfl)
theorem je_or (ha : JE X B a ta) (hb : JE X B (.BoolOp .Or (b :: rest) pos) tb) : JE X B (.BoolOp .Or (a :: b :: rest) pos) (dOrV ta tb) := by
  refine pe_imp (pe_or ha hb) fun σ H Q ⟨ρ, g, Q0, at_, h, p⟩ => ⟨ρ, g, _, at_, h, fun c g1 x H1 h1 e1 s1 r1 => ?_⟩
  cases c <;> try exact h1.elim
  rename_i k
  unfold Rel at r1
  refine ⟨k, r1, ?_⟩
  cases k with
  | false => exact ⟨ρ, g1, Q0, at_.go e1 s1, h1, p.ext e1⟩
  | true => exact p _ _ _ _ h1 e1 s1 (by unfold Rel; rfl)
theorem je_not (ha : JE X B a ta) : JE X B (.UnaryOp .Not a pos) (dNotV ta) := by
  refine pe_imp (pe_not ha) fun σ H Q ⟨ρ, g, Q0, at_, h, p⟩ => ⟨ρ, g, _, at_, h, fun c g1 x H1 h1 e1 s1 r1 => ?_⟩
  cases c <;> try exact h1.elim
  rename_i k
  unfold Rel at r1
  exact ⟨k, r1, p _ _ _ _ h1 e1 s1 (by unfold Rel; rfl)⟩
def dIfE (t : DT) (ta tb : DE) : DE := fun ρ g Q => t ρ g fun c g1 => if c = true then ta ρ g1 Q else tb ρ g1 Q
theorem je_if {c : Expr} (hc : JT X B c t) (ha : JE X B a ta) (hb : JE X B b tb) : JE X B (.IfExp c a b pos) (dIfE t ta tb) := by
  refine pe_imp (pe_ifExp hc ha hb) fun σ H Q ⟨ρ, g, Q0, at_, h, p⟩ => ⟨ρ, g, _, at_, h, fun c g1 H1 h1 e1 s1 => ?_⟩
  cases c with
  | true => exact ⟨ρ, g1, Q0, at_.go e1 s1, h1, p.ext e1⟩
  | false => exact ⟨ρ, g1, Q0, at_.go e1 s1, h1, p.ext e1⟩

/-! ### argument lists, displays -/
def dNil : DA := fun _ g Q => Q [] g
def dCons (ta : DE) (tr : DA) : DA := fun ρ g Q => ta ρ g fun x g1 => tr ρ g1 fun xs g2 => Q (x :: xs) g2
variable {e : Expr} {es : List Expr} {te : DE} {ts : DA}
theorem ja_nil : JA X B [] dNil := pa_imp pa_nil fun σ H Q ⟨ρ, g, Q0, at_, h, p⟩ => p _ _ _ _ h Ext.refl at_.sim Rels.nil
theorem ja_cons (ha : JE X B e te) (hr : JA X B es ts) (hs : starEach (e :: es) X.env = (false, eval e X.env) :: starEach es X.env := by rfl) : JA X B (e :: es) (dCons te ts) := by
  refine pa_imp (pa_cons ha hr hs) fun σ H Q ⟨ρ, g, Q0, at_, h, p⟩ => ⟨ρ, g, _, at_, h, fun x g1 v H1 h1 e1 s1 r1 => ⟨ρ, g1, _, at_.go e1 s1, h1, fun xs g2 vs H2 h2 e2 s2 r2 => ?_⟩⟩
  exact p _ _ _ _ h2 (e1.trans e2) s2 (Rels.cons (r1.ext s1 e2) r2)
/-- (a, b, ..): a value; [a, b, ..]: a new object -/
def dTup (t : DA) : DE := fun ρ g Q => t ρ g fun ds g1 => ds.length ≤ sizeLine ∧ Q (.tup ds) g1
def dLst (t : DA) : DE := fun ρ g Q => t ρ g fun ds g1 => ds.length ≤ sizeLine ∧ ∀ p, g1 p = none → Q (.obj p) (gup g1 p (.lst ds))
theorem tup_rel {K : PySem.W.Frag} {H : Hp} {g : G} {p : Addr} {ds : List D} {vs : List V} (S : Sim K H g) (h : H p = none) (r : Rels K H ds vs) : Rel K (upd H p (.tup vs)) (.tup ds) (.ref p) := by
  unfold Rel
  exact ⟨p, vs, rfl, upd_same, r.ext S (Ext.laidT (g := g) h)⟩
theorem je_tup {x1} (h : JA X B es ts) : JE X B (.Tuple es x1 pos) (dTup ts) := by
  refine pe_imp (pe_tup h) fun σ H Q ⟨ρ, g, Q0, at_, h, p⟩ => ⟨ρ, g, _, at_, h, fun ds g1 vs H1 ⟨hl, h1⟩ e1 s1 r1 => ?_⟩
  refine ⟨by rw [← r1.length]; exact hl, fun q hq => ?_⟩
  exact p _ _ _ _ h1 (e1.trans (Ext.laidT hq)) (s1.laidT hq) (tup_rel s1 hq r1)
theorem je_lst (h : JA X B es ts) : JE X B (.List es pos) (dLst ts) := by
  refine pe_imp (pe_lst h) fun σ H Q ⟨ρ, g, Q0, at_, h, p⟩ => ⟨ρ, g, _, at_, h, fun ds g1 vs H1 ⟨hl, h1⟩ e1 s1 r1 => ?_⟩
  refine ⟨by rw [← r1.length]; exact hl, fun q hq => ?_⟩
  refine p _ _ _ _ (h1 q (s1.fresh hq)) (e1.trans (Ext.laid hq)) (s1.laid hq ⟨vs, rfl, r1⟩) (by unfold Rel; rfl)

/-! ### blocks and small statements -/
variable {st : Stmt} {sts : List Stmt} {s1 s2 : DS}
def dNext : DS := fun d ρ g => d.nx ρ g
def dSeq (t u : DS) : DS := fun d ρ g => t { d with nx := u d } ρ g
theorem jss_nil : JSs X B [] dNext := pss_imp pss_nil fun D σ H ⟨ρ, g, d, at_, h, p⟩ => p.nx _ _ _ _ h Ext.refl at_.sim at_.env
theorem jss_cons (h1 : JS X B st s1) (h2 : JSs X B sts s2) : JSs X B (st :: sts) (dSeq s1 s2) := by
  refine pss_imp (pss_cons h1 h2) fun D σ H ⟨ρ, g, d, at_, h, p⟩ => ⟨ρ, g, _, at_, h, ⟨fun ρ' g' σ' H' h' e' s' r' => ?_, p.rt, p.bk, p.ct⟩⟩
  exact ⟨ρ', g', d, at_.to e' s' r', h', p.ext e'⟩
theorem jss_one (h1 : JS X B st s1) : JSs X B [st] s1 := pss_one h1
def dBreak : DS := fun d ρ g => d.bk ρ g
def dCont : DS := fun d ρ g => d.ct ρ g
theorem js_pass : JS X B (.Pass pos) dNext := ps_imp ps_pass fun D σ H ⟨ρ, g, d, at_, h, p⟩ => p.nx _ _ _ _ h Ext.refl at_.sim at_.env
theorem js_break : JS X B (.Break pos) dBreak := ps_imp ps_break fun D σ H ⟨ρ, g, d, at_, h, p⟩ => p.bk _ _ _ _ h Ext.refl at_.sim at_.env
theorem js_continue : JS X B (.Continue pos) dCont := ps_imp ps_continue fun D σ H ⟨ρ, g, d, at_, h, p⟩ => p.ct _ _ _ _ h Ext.refl at_.sim at_.env
def dDrop (te : DE) : DS := fun d ρ g => te ρ g fun _ g1 => d.nx ρ g1
theorem js_expr (he : JE X B e te) (hs : swapsWith e none pos.line X.env = pure false := by rfl) : JS X B (.Expr e pos) (dDrop te) :=
  ps_imp (ps_expr he hs) fun D σ H ⟨ρ, g, d, at_, h, p⟩ => ⟨ρ, g, _, at_, h, fun x g1 v H1 h1 e1 s1 r1 => p.nx _ _ _ _ h1 e1 s1 (at_.env.ext at_.sim e1)⟩
def dRet (te : DE) : DS := fun d ρ g => te ρ g d.rt
theorem js_ret (he : JE X B e te) : JS X B (.Return (some e) pos) (dRet te) := ps_imp (ps_ret he) fun D σ H ⟨ρ, g, d, at_, h, p⟩ => ⟨ρ, g, _, at_, h, p.rt⟩
def dRetN : DS := fun d _ g => d.rt .non g
theorem js_retN : JS X B (.Return none pos) dRetN := ps_imp ps_retN fun D σ H ⟨ρ, g, d, at_, h, p⟩ => p.rt _ _ _ _ h Ext.refl at_.sim (by unfold Rel; rfl)
def dIf (t : DT) (a b : DS) : DS := fun d ρ g => t ρ g fun c g1 => if c = true then a d ρ g1 else b d ρ g1
theorem js_if {c : Expr} {a b : List Stmt} (hc : JT X B c t) (ha : JSs X B a s1) (hb : JSs X B b s2) : JS X B (.If c a b pos) (dIf t s1 s2) := by
  refine ps_imp (ps_if hc ha hb) fun D σ H ⟨ρ, g, d, at_, h, p⟩ => ⟨ρ, g, _, at_, h, fun c g1 H1 h1 e1 s1 => ?_⟩
  cases c with
  | true => exact ⟨ρ, g1, d, at_.go e1 s1, h1, p.ext e1⟩
  | false => exact ⟨ρ, g1, d, at_.go e1 s1, h1, p.ext e1⟩
/-- name = value -/
def dSet (i : Nat) (te : DE) : DS := fun d ρ g => te ρ g fun x g1 => d.nx (ρ.set i (some x)) g1
theorem js_set {i : Nat} {x : Str} {pos' : Pos} (hN : X.N.Nodup) (hi : X.N[i]? = some x) (hx : Loc X.env.scope x) (he : JE X B e te) (hs : swapsWith e (some (.Name x pos')) pos.line X.env = pure false := by rfl)
    (hf : X.fn x = true ∨ X.env.scope.names.lookup x = some .local := by first | exact .inl rfl | exact .inr rfl | assumption) : JS X B (.Assign [.Name x pos'] e pos) (dSet i te) := by
  refine ps_imp (ps_set hN hi hx he hs hf) fun D σ H ⟨ρ, g, d, at_, h, p⟩ => ⟨ρ, g, _, at_, h, fun x g1 v H1 h1 e1 s1 r1 => ?_⟩
  exact p.nx _ _ _ _ h1 e1 s1 ((at_.env.ext at_.sim e1).set r1 i)
/-- a, b = x, y, names -/
def dPar (i j : Nat) (ta : DA) : DS := fun d ρ g => ta ρ g fun ds g1 => match ds with
  | [x, y] => d.nx ((ρ.set i (some x)).set j (some y)) g1
  | _ => False
theorem js_par {i j : Nat} {x y : Str} {a b : Expr} {ta : DA} {px py pt : Pos} {kt k2 pt2} (hc : X.calm = true) (hN : X.N.Nodup) (hi : X.N[i]? = some x) (hj : X.N[j]? = some y) (hij : i ≠ j)
    (hx : X.env.scope.names.lookup x = some .local) (hy : X.env.scope.names.lookup y = some .local) (ha : JA X B [a, b] ta)
    (hw : swappedStores [.Tuple [.Name x px, .Name y py] kt pt] (.Tuple [a, b] k2 pt2) X.env = pure (some [x, y]))
    (hs : swapsWithSole [.Tuple [.Name x px, .Name y py] kt pt] (.Tuple [a, b] k2 pt2) pos.line X.env = pure false := by rfl) :
    JS X B (.Assign [.Tuple [.Name x px, .Name y py] kt pt] (.Tuple [a, b] k2 pt2) pos) (dPar i j ta) := by
  refine ps_imp (ps_par hc hN hi hj hij hx hy ha hw hs) fun D σ H ⟨ρ, g, d, at_, h, p⟩ => ⟨ρ, g, _, at_, h, fun ds g1 vs H1 h1 e1 s1 r1 => ?_⟩
  match ds, h1 with
  | [x, y], h1 =>
    unfold Rels at r1
    obtain ⟨vx, r, rfl, rx, r2⟩ := r1
    unfold Rels at r2
    obtain ⟨vy, r', rfl, ry, r3⟩ := r2
    unfold Rels at r3
    subst r3
    exact ⟨vx, vy, rfl, p.nx _ _ _ _ h1 e1 s1 (((at_.env.ext at_.sim e1).set rx i).set ry j)⟩
end
end L2.DL

/-! DL2: targets, loops, comprehensions, stores, calls, defs. -/
namespace L2.DL
open PySem PySem.Spec PyProof.Rows

/-! ### targets -/
abbrev DG := D → Rho → G → (Rho → G → Prop) → Prop
abbrev DGs := List D → Rho → G → (Rho → G → Prop) → Prop
def Out (vs : List Nat) (σ σ' : St) : Prop := σ'.length = σ.length ∧ ∀ i, i ∉ vs → σ'[i]? = σ[i]?
theorem Out.refl {vs : List Nat} {σ : St} : Out vs σ σ := ⟨rfl, fun _ _ => rfl⟩
theorem Out.trans {vs : List Nat} {σ σ1 σ2 : St} (a : Out vs σ σ1) (b : Out vs σ1 σ2) : Out vs σ σ2 := ⟨b.1.trans a.1, fun i h => (b.2 i h).trans (a.2 i h)⟩
theorem Out.set {vs : List Nat} {σ : St} {i : Nat} {o : Option V} (h : i ∈ vs) : Out vs σ (σ.set i o) := ⟨List.length_set, fun j hj => List.getElem?_set_ne fun (e : i = j) => hj (by rw [← e]; exact h)⟩
theorem wipe_in {σ : St} {i : Nat} : ∀ {vs : List Nat}, i ∈ vs → i < σ.length → (wipe σ vs)[i]? = some none
  | v :: vs, h, hl => by
    unfold wipe
    by_cases e : v = i
    · subst e; exact List.getElem?_set_self (by rw [wipe_length]; exact hl)
    · rw [List.getElem?_set_ne e]
      exact wipe_in ((List.mem_cons.mp h).resolve_left fun z => e z.symm) hl
theorem wipe_of_out {vs : List Nat} {σ σ2 : St} (h : Out vs (wipe σ vs) σ2) : wipe σ2 vs = wipe σ vs := by
  apply List.ext_getElem?
  intro i
  by_cases hi : i ∈ vs
  · by_cases hl : i < σ.length
    · rw [wipe_in hi hl, wipe_in hi (by rw [h.1, wipe_length]; exact hl)]
    · rw [List.getElem?_eq_none (by rw [wipe_length, h.1, wipe_length]; omega), List.getElem?_eq_none (by rw [wipe_length]; omega)]
  · rw [wipe_out hi, h.2 i hi]
def LG (K : PySem.W.Frag) (B : Bs) (vs : List Nat) (t : DG) : TG := fun v σ H Q => ∃ d ρ g Q0, Rel K H d v ∧ At K B H σ ρ g ∧ t d ρ g Q0 ∧ ∀ ρ' g' σ' H', Q0 ρ' g' → Ext H g H' g' → Sim K H' g' → EnvR K H' ρ' σ' → Out vs σ σ' → Q σ' H'
def LGs (K : PySem.W.Frag) (B : Bs) (vs : List Nat) (t : DGs) : TGs := fun us σ H Q => ∃ ds ρ g Q0, Rels K H ds us ∧ At K B H σ ρ g ∧ t ds ρ g Q0 ∧ ∀ ρ' g' σ' H', Q0 ρ' g' → Ext H g H' g' → Sim K H' g' → EnvR K H' ρ' σ' → Out vs σ σ' → Q σ' H'
abbrev JG (X : Cx) (B : Bs) (vs : List Nat) (tg : Expr) (t : DG) : Prop := PG X tg (LG X.K B vs t)
abbrev JGs (X : Cx) (B : Bs) (vs : List Nat) (tg : List Expr) (t : DGs) : Prop := PGs X tg (LGs X.K B vs t)
section
variable {X : Cx} {B : Bs} {vs : List Nat} {pos : Pos}
theorem pg_imp {tg : Expr} {T T' : TG} (h : PG X tg T) (i : ∀ v σ H Q, T' v σ H Q → T v σ H Q) : PG X tg T' := ⟨fun pins s σ H v u Q I r q => h.run pins s σ H v u Q I r (i v σ H Q q)⟩
theorem pgs_imp {tg : List Expr} {T T' : TGs} (h : PGs X tg T) (i : ∀ v σ H Q, T' v σ H Q → T v σ H Q) : PGs X tg T' := ⟨fun pins s σ H v u Q I r q => h.run pins s σ H v u Q I r (i v σ H Q q)⟩
def dgName (i : Nat) : DG := fun d ρ g Q => Q (ρ.set i (some d)) g
theorem jg_name {i : Nat} {x : Str} (hv : i ∈ vs) (hN : X.N.Nodup) (hi : X.N[i]? = some x) (hx : Loc X.env.scope x) (hf : X.fn x = true ∨ X.env.scope.names.lookup x = some .local := by first | exact .inl rfl | exact .inr rfl | assumption) : JG X B vs (.Name x pos) (dgName i) :=
  pg_imp (pg_name hN hi hx hf) fun v σ H Q ⟨d, ρ, g, Q0, r, a, h, p⟩ => p _ _ _ _ h Ext.refl a.sim (a.env.set r i) (Out.set hv)
def dgNil : DGs := fun ds ρ g Q => match ds with
  | [] => Q ρ g
  | _ => False
def dgCons (t : DG) (u : DGs) : DGs := fun ds ρ g Q => match ds with
  | d :: r => t d ρ g fun ρ' g' => u r ρ' g' Q
  | [] => False
def dgTup (n : Nat) (t : DGs) : DG := fun d ρ g Q => match d with
  | .tup ds => ds.length = n ∧ t ds ρ g Q
  | _ => False
theorem jgs_nil : JGs X B vs [] dgNil := pgs_imp pgs_nil fun v σ H Q ⟨ds, ρ, g, Q0, r, a, h, p⟩ => by
  match ds, h with
  | [], h =>
    unfold Rels at r
    exact ⟨r, p _ _ _ _ h Ext.refl a.sim a.env Out.refl⟩
theorem jgs_cons {e : Expr} {es : List Expr} {t : DG} {u : DGs} (h1 : JG X B vs e t) (h2 : JGs X B vs es u) (hs : (assignEach (e :: es) X.env).map (·.2) = assign e X.env :: (assignEach es X.env).map (·.2) := by rfl) : JGs X B vs (e :: es) (dgCons t u) :=
  pgs_imp (pgs_cons h1 h2 hs) fun v σ H Q ⟨ds, ρ, g, Q0, r, a, h, p⟩ => by
    match ds, h with
    | d :: ds, h =>
      unfold Rels at r
      obtain ⟨x, xs, rfl, r1, r2⟩ := r
      refine ⟨x, xs, rfl, d, ρ, g, _, r1, a, h, fun ρ' g' σ' H' h' e' s' v' o' => ?_⟩
      exact ⟨ds, ρ', g', Q0, r2.ext a.sim e', a.to e' s' v', h', fun ρ2 g2 σ2 H2 q2 e2 s2 v2 o2 => p _ _ _ _ q2 (e'.trans e2) s2 v2 (o'.trans o2)⟩
theorem jg_tup {es : List Expr} {k : Nat} {t : DGs} {n : Nat} (hc : X.calm = true) (h : JGs X B vs es t)
    (hn : (assignEach es X.env).length = n := by rfl) (hst : (assignEach es X.env).findIdx? (·.1) = none := by rfl) : JG X B vs (.Tuple es k pos) (dgTup n t) :=
  pg_imp (pg_tup hc h hn hst) fun v σ H Q ⟨d, ρ, g, Q0, r, a, h, p⟩ => by
    cases d <;> try exact h.elim
    obtain ⟨hl, h⟩ := h
    unfold Rel at r
    obtain ⟨b, xs, rfl, hb, rs⟩ := r
    exact ⟨b, xs, rfl, SqT.of hb, by rw [← rs.length]; exact hl, _, ρ, g, Q0, rs, a, h, p⟩

/-! ### what is walked -/
structure Walks (K : PySem.W.Frag) (J : It) (ds : List D) (stay : G → Prop) (H1 : Hp) : Prop where
  go : ∀ (i : Nat) (H : Hp) (g : G), Sim K H g → Kept K H1 H → stay g → ∀ d, ds[i]? = some d → J.go i H ∧ ∀ x H', J.yld i H x H' → Rel K H' d x ∧ Ext H g H' g ∧ Sim K H' g
  stop : ∀ (i : Nat) (H : Hp) (g : G), Sim K H g → Kept K H1 H → stay g → ds.length ≤ i → J.stop i H
abbrev DI := Rho → G → (List D → (G → Prop) → G → Prop) → Prop
def LI (K : PySem.W.Frag) (B : Bs) (t : DI) : TI := fun σ H R => ∃ ρ g R0, At K B H σ ρ g ∧ t ρ g R0 ∧ ∀ ds stay g1 H1 J, R0 ds stay g1 → Ext H g H1 g1 → Sim K H1 g1 → Walks K J ds stay H1 → R J H1
abbrev JI (X : Cx) (B : Bs) (tg iter : Expr) (t : DI) : Prop := PI X tg iter (LI X.K B t)
theorem pi_imp {tg it : Expr} {T T' : TI} (h : PI X tg it T) (i : ∀ σ H R, T' σ H R → T σ H R) : PI X tg it T' := ⟨fun pins s σ H R I q => h.run pins s σ H R I (i σ H R q)⟩
/-- a list, a tuple, whichever it is -/
def iSq (K : PySem.W.Frag) (tl : TE) : TI := fun σ H R => tl σ H fun x H1 => ∃ a, x = .ref a ∧ ((∃ xs, SqL K H1 a xs) ∧ R (Itl K a) H1 ∨ (∃ xs, SqT K H1 a xs) ∧ R (Itt K a) H1)
theorem pi_sq {tg l : Expr} {tl : TE} (hl : PE X l tl) : PI X tg l (iSq X.K tl) := by
  refine ⟨fun pins s σ H R I h => ?_⟩
  refine thn (hl.run pins s σ H _ I h) fun v s1 ⟨x, H1, I1, r1, q1⟩ => ?_
  obtain ⟨a, e, q⟩ := q1
  subst e
  cases r1
  have fp : ∀ b ∈ [s1.heap.objs.size], FpOk X pins H1 b := fun b hb => by
    have e : b = s1.heap.objs.size := by simpa using hb
    subst e
    exact I1.fpOk (Nat.le_refl _) (I1.hok.fresh (Nat.le_refl _))
  rcases q with ⟨⟨xs, hq⟩, q⟩ | ⟨⟨xs, hq⟩, q⟩
  · obtain ⟨its, rv, p, hz⟩ := I1.list hq
    refine wpAny_pyIter_list p.isList ?_
    exact ⟨s1.heap.objs.size, [s1.heap.objs.size], _, _, H1, rfl, I1.kept (t' := s1.toks) fun b o e => Heap.get?_push_of_some _ e, turn_list a _, ⟨_, Heap.get?_push_size _ rfl, rfl, rfl⟩, fp, q⟩
  · obtain ⟨its, rv, p, hz⟩ := I1.tuple hq
    refine wpAny_pyIter_tuple (show s1.heap.IsTuple a its.toArray from p) ?_
    exact ⟨s1.heap.objs.size, [s1.heap.objs.size], _, _, H1, rfl, I1.kept (t' := s1.toks) fun b o e => Heap.get?_push_of_some _ e, turn_tuple a _, ⟨_, Heap.get?_push_size _ rfl, rfl, rfl⟩, fp, q⟩
/-- a tuple's items; a list's, as long as it stays -/
def dSeqI (te : DE) : DI := fun ρ g R => te ρ g fun d g1 => match d with
  | .tup ds => R ds (fun _ => True) g1
  | .obj a => match g1 a with
    | some (.lst ds) => R ds (fun g' => g' a = some (.lst ds)) g1
    | _ => False
  | .scr ns => R (ns.map D.int) (fun _ => True) g1
  | .fin ds => R ds (fun _ => True) g1
  | _ => False
theorem rels_ints {K : PySem.W.Frag} {H : Hp} : ∀ ns : List Int, Rels K H (ns.map D.int) (ns.map V.int)
  | [] => Rels.nil
  | n :: ns => Rels.cons (by unfold Rel; rfl) (rels_ints ns)
theorem walks_list {K : PySem.W.Frag} {H1 : Hp} {a : Addr} {ds : List D} : Walks K (Itl K a) ds (fun g' => g' a = some (.lst ds)) H1 := by
  refine ⟨fun i H g s e st d hd => ?_, fun i H g s e st hl => ?_⟩
  · obtain ⟨u, hu, xs, rfl, rs⟩ := s a _ st
    obtain ⟨v, hv, r⟩ := rs.get hd
    refine ⟨⟨xs, v, SqL.of hu, hv⟩, fun x H' ⟨e', hx⟩ => ?_⟩
    subst e'
    have := hx xs (SqL.of hu)
    rw [hv] at this; cases this
    exact ⟨r, Ext.refl, s⟩
  · obtain ⟨u, hu, xs, rfl, rs⟩ := s a _ st
    exact ⟨xs, SqL.of hu, by rw [← rs.length]; exact hl⟩
theorem walks_tup {K : PySem.W.Frag} {H1 : Hp} {a : Addr} {ds : List D} {xs : List V} (h : H1 a = some (.tup xs)) (rs : Rels K H1 ds xs) : Walks K (Itt K a) ds (fun _ => True) H1 := by
  refine ⟨fun i H g s e st d hd => ?_, fun i H g s e st hl => ?_⟩
  · have hu := e.tup _ _ h
    obtain ⟨v, hv, r⟩ := (Rels.mono e _ _ rs).get hd
    refine ⟨⟨xs, v, SqT.of hu, hv⟩, fun x H' ⟨e', hx⟩ => ?_⟩
    subst e'
    have := hx xs (SqT.of hu)
    rw [hv] at this; cases this
    exact ⟨r, Ext.refl, s⟩
  · exact ⟨xs, SqT.of (e.tup _ _ h), by rw [← rs.length]; exact hl⟩
theorem walks_fin {K : PySem.W.Frag} {H1 : Hp} {a : Addr} {o : Obj} {ds : List D} {xs : List V} (h : H1 a = some (.frz o (.tup xs))) (rs : Rels K H1 ds xs) : Walks K (Itt K a) ds (fun _ => True) H1 := by
  refine ⟨fun i H g s e st d hd => ?_, fun i H g s e st hl => ?_⟩
  · have hu : SqT K H a xs := .inl (.inr ⟨o, e.frz _ _ _ h⟩)
    obtain ⟨v, hv, r⟩ := (Rels.mono e _ _ rs).get hd
    refine ⟨⟨xs, v, hu, hv⟩, fun x H' ⟨e', hx⟩ => ?_⟩
    subst e'
    have := hx xs hu
    rw [hv] at this; cases this
    exact ⟨r, Ext.refl, s⟩
  · exact ⟨xs, .inl (.inr ⟨o, e.frz _ _ _ h⟩), by rw [← rs.length]; exact hl⟩
theorem walks_scr {K : PySem.W.Frag} {H1 : Hp} {a : Addr} {ds : List D} {xs : List V} (h : ScrAt K H1 a xs) (rs : ∀ H, Rels K H ds xs) : Walks K (Itl K a) ds (fun _ => True) H1 := by
  refine ⟨fun i H g s e st d hd => ?_, fun i H g s e st hl => ?_⟩
  · have hu := h.kept e
    obtain ⟨v, hv, r⟩ := (rs H).get hd
    refine ⟨⟨xs, v, hu.seq, hv⟩, fun x H' ⟨e', hx⟩ => ?_⟩
    subst e'
    have := hx xs hu.seq
    rw [hv] at this; cases this
    exact ⟨r, Ext.refl, s⟩
  · exact ⟨xs, (h.kept e).seq, by rw [← (rs H).length]; exact hl⟩
theorem ji_seq {tg l : Expr} {te : DE} (hl : JE X B l te) : JI X B tg l (dSeqI te) := by
  refine pi_imp (pi_sq hl) fun σ H R ⟨ρ, g, R0, at_, h, p⟩ => ⟨ρ, g, _, at_, h, fun d g1 v H1 h1 e1 s1 r1 => ?_⟩
  cases d <;> try exact h1.elim
  · rename_i ds
    unfold Rel at r1
    obtain ⟨a, xs, rfl, ha, rs⟩ := r1
    exact ⟨a, rfl, .inr ⟨⟨xs, SqT.of ha⟩, p _ _ _ _ _ h1 e1 s1 (walks_tup ha rs)⟩⟩
  · rename_i a
    unfold Rel at r1
    subst r1
    dsimp only at h1
    split at h1
    · rename_i ds hg
      obtain ⟨u, hu, xs, rfl, rs⟩ := s1 a _ hg
      exact ⟨a, rfl, .inl ⟨⟨xs, SqL.of hu⟩, p _ _ _ _ _ h1 e1 s1 walks_list⟩⟩
    · exact h1.elim
  · rename_i ns
    unfold Rel at r1
    obtain ⟨a, rfl, ha⟩ := r1
    exact ⟨a, rfl, .inl ⟨⟨_, ha.seq⟩, p _ _ _ _ _ h1 e1 s1 (walks_scr ha fun _ => rels_ints ns)⟩⟩
  · rename_i ds
    unfold Rel at r1
    obtain ⟨a, xs, o, rfl, ha, hdn, rs⟩ := r1
    exact ⟨a, rfl, .inr ⟨⟨xs, .inl (.inr ⟨o, ha⟩)⟩, p _ _ _ _ _ h1 e1 s1 (walks_fin ha rs)⟩⟩
/-- lo, lo + 1, .. -/
def rangeD (lo : Int) (n : Nat) : List D := (List.range n).map fun i => D.int (lo + (i : Nat))
theorem rangeD_get {lo : Int} {n i : Nat} {d : D} (h : (rangeD lo n)[i]? = some d) : i < n ∧ d = .int (lo + (i : Nat)) := by
  unfold rangeD at h
  rw [List.getElem?_map] at h
  by_cases hi : i < n
  · rw [List.getElem?_range hi] at h
    exact ⟨hi, (Option.some.inj h).symm⟩
  · rw [List.getElem?_eq_none (by simpa using hi)] at h
    cases h
theorem rangeD_length {lo : Int} {n : Nat} : (rangeD lo n).length = n := by unfold rangeD; simp
theorem walks_rng {K : PySem.W.Frag} {H1 : Hp} {lo : Int} {n : Nat} : Walks K (Itr lo n) (rangeD lo n) (fun _ => True) H1 := by
  refine ⟨fun i H g s e st d hd => ?_, fun i H g s e st hl => ?_⟩
  · obtain ⟨hi, rfl⟩ := rangeD_get hd
    exact ⟨hi, fun x H' ⟨e', hx⟩ => by subst e'; exact ⟨by unfold Rel; exact hx, Ext.refl, s⟩⟩
  · rw [rangeD_length] at hl; exact hl
def dRng1 (ta : DA) : DI := fun ρ g R => ta ρ g fun ds g1 => match ds with
  | [.int j] => (-(2 ^ 62) ≤ j ∧ j < 2 ^ 62) ∧ R (rangeD 0 j.toNat) (fun _ => True) g1
  | _ => False
def dRng2 (ta : DA) : DI := fun ρ g R => ta ρ g fun ds g1 => match ds with
  | [.int i, .int j] => (-(2 ^ 62) ≤ i ∧ i < 2 ^ 62 ∧ -(2 ^ 62) ≤ j ∧ j < 2 ^ 62) ∧ R (rangeD i (j - i).toNat) (fun _ => True) g1
  | _ => False
theorem rels1 {K : PySem.W.Frag} {H : Hp} {d : D} {vs : List V} (h : Rels K H [d] vs) : ∃ v, vs = [v] ∧ Rel K H d v := by
  unfold Rels at h
  obtain ⟨x, r, rfl, h1, h2⟩ := h
  unfold Rels at h2
  subst h2
  exact ⟨x, rfl, h1⟩
theorem rels2 {K : PySem.W.Frag} {H : Hp} {d e : D} {vs : List V} (h : Rels K H [d, e] vs) : ∃ v w, vs = [v, w] ∧ Rel K H d v ∧ Rel K H e w := by
  unfold Rels at h
  obtain ⟨x, r, rfl, h1, h2⟩ := h
  obtain ⟨y, rfl, h3⟩ := rels1 h2
  exact ⟨x, y, rfl, h1, h3⟩
theorem ji_range1 {tg a : Expr} {ta : DA} {p pos : Pos} (hg : Gl X "range") (hm : X.mg "range" = none) (ha : JA X B [a] ta) (hs : starEach [a] X.env = [(false, eval a X.env)] := by rfl) : JI X B tg (.Call (.Name "range" p) [a] [] pos) (dRng1 ta) := by
  refine pi_imp (pi_range1 hg hm ha hs) fun σ H R ⟨ρ, g, R0, at_, h, p⟩ => ⟨ρ, g, _, at_, h, fun ds g1 vs H1 h1 e1 s1 r1 => ?_⟩
  match ds, h1 with
  | [.int j], ⟨⟨b1, b2⟩, h1⟩ =>
    obtain ⟨v, rfl, r⟩ := rels1 r1
    unfold Rel at r
    subst r
    exact ⟨j, rfl, b1, b2, p _ _ _ _ _ h1 e1 s1 walks_rng⟩
theorem ji_range2 {tg a b : Expr} {ta : DA} {p pos : Pos} (hg : Gl X "range") (hm : X.mg "range" = none) (ha : JA X B [a, b] ta) (hs : starEach [a, b] X.env = [(false, eval a X.env), (false, eval b X.env)] := by rfl)
    (hs2 : starEach [b] X.env = [(false, eval b X.env)] := by rfl) : JI X B tg (.Call (.Name "range" p) [a, b] [] pos) (dRng2 ta) := by
  refine pi_imp (pi_range2 hg hm ha hs hs2) fun σ H R ⟨ρ, g, R0, at_, h, p⟩ => ⟨ρ, g, _, at_, h, fun ds g1 vs H1 h1 e1 s1 r1 => ?_⟩
  match ds, h1 with
  | [.int i, .int j], ⟨b, h1⟩ =>
    obtain ⟨v, w, rfl, rv, rw_⟩ := rels2 r1
    unfold Rel at rv rw_
    subst rv rw_
    exact ⟨i, j, rfl, b, p _ _ _ _ _ h1 e1 s1 walks_rng⟩

/-! ### for, while -/
def dFor (ti : DI) (gt : DG) (tb : DS) : DS := fun d ρ g => ti ρ g fun ds stay g1 => ∃ P : Nat → Rho → G → Prop, P 0 ρ g1 ∧ (∀ i ρ g, P i ρ g → stay g) ∧
  (∀ i x ρ g, ds[i]? = some x → P i ρ g → gt x ρ g fun ρ2 g2 => tb { d with nx := P (i + 1), ct := P (i + 1), bk := d.nx } ρ2 g2) ∧ ∀ ρ g, P ds.length ρ g → d.nx ρ g
theorem js_for {tg iter : Expr} {body : List Stmt} {ti : DI} {gt : DG} {tb : DS} {vs : List Nat} (hp : PassesOwn (model X.prog X.w) X.A X.env X.xe) (hc : X.calm = true) (hi : JI X B tg iter ti) (hg : JG X B vs tg gt) (hb : JSs X B body tb)
    (hs : ∀ x, foldedSetIterable iter X.env x = pure x := by intro _; rfl) : JS X B (.For tg iter body [] pos) (dFor ti gt tb) := by
  refine ps_imp (ps_for hp hc hi hg hb hs) fun D σ H ⟨ρ, g, d, at_, h, p⟩ => ⟨ρ, g, _, at_, h, fun ds stay g1 H1 J ⟨P, h0, hst, hs, hd⟩ e1 s1 wk => ?_⟩
  refine ⟨fun i m σ' H' => ∃ ρ' g', P i ρ' g' ∧ EnvR X.K H' ρ' σ' ∧ Sim X.K H' g' ∧ Ext H1 g1 H' g' ∧ i ≤ ds.length ∧ m = ds.length - i, ⟨_, ρ, g1, h0, at_.env.ext at_.sim e1, s1, Ext.refl, Nat.zero_le _, rfl⟩, ?_⟩
  rintro i m σ' H' ⟨ρ', g', hP, v', s', e', hi, rfl⟩
  rcases Nat.lt_or_ge i ds.length with hl | hl
  · refine .inr ?_
    have hd' := List.getElem?_eq_getElem hl
    obtain ⟨go, yl⟩ := wk.go i H' g' s' (s1.kept e') (hst _ _ _ hP) _ hd'
    refine ⟨go, fun σ2 H2 => ∃ ρ2 g2, P (i + 1) ρ2 g2 ∧ EnvR X.K H2 ρ2 σ2 ∧ Sim X.K H2 g2 ∧ Ext H1 g1 H2 g2, fun σ2 H2 ⟨ρ2, g2, a1, a2, a3, a4⟩ => ⟨ds.length - (i + 1), by omega, ρ2, g2, a1, a2, a3, a4, hl, rfl⟩, fun x H2 y => ?_⟩
    obtain ⟨rx, ex, sx⟩ := yl x H2 y
    refine ⟨_, ρ', g', _, rx, ⟨v'.ext s' ex, sx, at_.ext.trans (e1.trans (e'.trans ex))⟩, hs i _ ρ' g' hd' hP, fun ρ2 g2 σ2 H3 q2 e2 s2 v2 _ => ?_⟩
    refine ⟨ρ2, g2, _, ⟨v2, s2, at_.ext.trans (e1.trans ((e'.trans ex).trans e2))⟩, q2, ?_⟩
    have E2 := (e'.trans ex).trans e2
    exact ⟨fun ρ3 g3 σ3 H4 q3 e3 s3 v3 => ⟨ρ3, g3, q3, v3, s3, E2.trans e3⟩, (p.rt.ext e1).ext E2, (p.nx.ext e1).ext E2, fun ρ3 g3 σ3 H4 q3 e3 s3 v3 => ⟨ρ3, g3, q3, v3, s3, E2.trans e3⟩⟩
  · refine .inl ⟨wk.stop i H' g' s' (s1.kept e') (hst _ _ _ hP) hl, ?_⟩
    have : i = ds.length := Nat.le_antisymm hi hl
    subst this
    exact p.nx _ _ _ _ (hd _ _ hP) (e1.trans e') s' v'
def dWhile (c : DT) (tb : DS) : DS := fun d ρ g => ∃ W : Nat → Rho → G → Prop, (∃ m, W m ρ g) ∧ ∀ m ρ g, W m ρ g → c ρ g fun b g1 =>
  if b = true then tb { d with nx := fun ρ' g' => ∃ m', m' < m ∧ W m' ρ' g', ct := fun ρ' g' => ∃ m', m' < m ∧ W m' ρ' g', bk := d.nx } ρ g1 else d.nx ρ g1
theorem js_while {c : Expr} {body : List Stmt} {tc : DT} {tb : DS} (hp : PassesOwn (model X.prog X.w) X.A X.env X.xe) (hc : JT X B c tc) (hb : JSs X B body tb) : JS X B (.While c body [] pos) (dWhile tc tb) := by
  refine ps_imp (ps_while hp hc hb) fun D σ H ⟨ρ, g, d, at_, ⟨W, ⟨m0, w0⟩, hw⟩, p⟩ => ?_
  refine ⟨fun m σ' H' => ∃ ρ' g', W m ρ' g' ∧ EnvR X.K H' ρ' σ' ∧ Sim X.K H' g' ∧ Ext H g H' g', ⟨m0, ρ, g, w0, at_.env, at_.sim, Ext.refl⟩, ?_⟩
  rintro m σ' H' ⟨ρ', g', hW, v', s', e'⟩
  refine ⟨ρ', g', _, ⟨v', s', at_.ext.trans e'⟩, hw m ρ' g' hW, fun b g1 H1 h1 e1 s1 => ?_⟩
  cases b with
  | false => exact p.nx _ _ _ _ h1 (e'.trans e1) s1 (v'.ext s' e1)
  | true =>
    refine ⟨fun σ2 H2 => ∃ m', m' < m ∧ ∃ ρ2 g2, W m' ρ2 g2 ∧ EnvR X.K H2 ρ2 σ2 ∧ Sim X.K H2 g2 ∧ Ext H g H2 g2, fun σ2 H2 z => z, ρ', g1, _, ⟨v'.ext s' e1, s1, at_.ext.trans (e'.trans e1)⟩, h1, ?_⟩
    have E := e'.trans e1
    exact ⟨fun ρ3 g3 σ3 H4 ⟨m', hm, q3⟩ e3 s3 v3 => ⟨m', hm, ρ3, g3, q3, v3, s3, E.trans e3⟩, p.rt.ext E, p.nx.ext E, fun ρ3 g3 σ3 H4 ⟨m', hm, q3⟩ e3 s3 v3 => ⟨m', hm, ρ3, g3, q3, v3, s3, E.trans e3⟩⟩
end
end L2.DL

/-! DL3: list comprehensions of one and of two clauses. -/
namespace L2.DL
open PySem PySem.Spec PyProof.Rows

section
variable {K : PySem.W.Frag} {H H1 : Hp} {g g1 : G} {p : Addr} {xs ys : List V}
theorem kept_hid (h : H p = some (.lst xs)) : Kept K H (upd H p (.lst ys)) := ⟨fun a zs e => by
    have : a ≠ p := fun z => by subst z; rw [h] at e; cases e
    rw [upd_ne this]; exact e, fun a o u e => by
    have : a ≠ p := fun z => by subst z; rw [h] at e; cases e
    rw [upd_ne this]; exact e⟩
theorem Sim.hid (S : Sim K H g) (n : g p = none) (h : H p = some (.lst xs)) : Sim K (upd H p (.lst ys)) g := fun a o e => by
  obtain ⟨u, hu, r⟩ := S a o e
  have : a ≠ p := fun z => by subst z; rw [n] at e; cases e
  exact ⟨u, by rw [upd_ne this]; exact hu, RelO.mono (kept_hid h) _ _ r⟩
theorem Ext.hid {o : HO} (e : Ext H1 g1 H g) (n : H1 p = none) : Ext H1 g1 (upd H p o) g := fun a u h q => by
  have : a ≠ p := ne_of_none h n
  rw [upd_ne this]; exact e a u h q
theorem Ext.tell {o : GO} (e : Ext H1 g1 H g) (n : H1 p = none) : Ext H1 g1 H (gup g p o) := fun a u h q => by
  have : a ≠ p := ne_of_none h n
  rw [gup_ne this]; exact e a u h q
theorem Sim.tell {o : GO} {u : HO} (S : Sim K H g) (h : H p = some u) (r : RelO K H o u) : Sim K H (gup g p o) := fun a q e => by
  by_cases ha : a = p
  · subst ha; rw [gup_same] at e; cases e; exact ⟨u, h, r⟩
  · rw [gup_ne ha] at e; exact S a q e
end

/-- [te for gt in ti if tt]; vs: the slots of the names of its own -/
def dLc (ti : DI) (gt : DG) (tt : DT) (te : DE) (vs : List Nat) : DE := fun ρ g Q => ti ρ g fun ds stay g1 => ds.length ≤ sizeLine ∧ ∃ P : Nat → List D → G → Prop, P 0 [] g1 ∧ (∀ i acc g, P i acc g → stay g) ∧
  (∀ i x acc g, ds[i]? = some x → P i acc g → gt x (dwipe ρ vs) g fun ρ2 g2 => tt ρ2 g2 fun b g3 => if b = true then te ρ2 g3 fun y g4 => P (i + 1) (acc ++ [y]) g4 else P (i + 1) acc g3) ∧
  ∀ acc g p, P ds.length acc g → acc.length ≤ ds.length → g p = none → Q (.obj p) (gup g p (.lst acc))
def dYes : DT := fun _ g Q => Q true g
section
variable {X : Cx} {B : Bs}
abbrev JTs (X : Cx) (B : Bs) (ifs : List Expr) (t : DT) : Prop := PTs X ifs (LT X.K B t)
theorem pts_imp {ifs : List Expr} {T T' : TT} (h : PTs X ifs T) (i : ∀ σ H Q, T' σ H Q → T σ H Q) : PTs X ifs T' := ⟨fun pins s σ H Q I q => h.run pins s σ H Q I (i σ H Q q)⟩
theorem jts_nil : JTs X B [] dYes := pts_imp pts_nil fun σ H Q ⟨ρ, g, Q0, a, h, p⟩ => p _ _ _ h Ext.refl a.sim
theorem jts_one {c : Expr} {t : DT} (h : JT X B c t) : JTs X B [c] t := pts_one h

theorem llc {ti : DI} {gt : DG} {tt : DT} {te : DE} {vs : List Nat} {σ : St} {H : Hp} {Q : VK} (h : LE X.K B (dLc ti gt tt te vs) σ H Q) : tLc (LI X.K B ti) (LG X.K B vs gt) (LT X.K B tt) (LE X.K B te) vs σ H Q := by
  obtain ⟨ρ, g, Q0, at_, h, p⟩ := h
  refine ⟨ρ, g, _, at_, h, fun ds stay g1 H1 J ⟨hsz, P, h0, hst, hs, hd⟩ e1 s1 wk D hD => ?_⟩
  refine ⟨fun i m H' => ∃ acc accV g', P i acc g' ∧ Sim X.K H' g' ∧ Ext H1 g1 H' g' ∧ H' D = some (.lst accV) ∧ g' D = none ∧ Rels X.K H' acc accV ∧ acc.length ≤ i ∧ i ≤ ds.length ∧ m = ds.length - i,
    ⟨_, [], [], g1, h0, s1.laidT hD, Ext.laidT hD, upd_same, s1.fresh hD, Rels.nil, Nat.le_refl _, Nat.zero_le _, rfl⟩, ?_⟩
  rintro i m H' ⟨acc, accV, g', hP, s', e', hDv, hDg, rs, hl, hi, rfl⟩
  rcases Nat.lt_or_ge i ds.length with hlt | hge
  · refine .inr ?_
    have hd' := List.getElem?_eq_getElem hlt
    obtain ⟨go, yl⟩ := wk.go i H' g' s' (s1.kept e') (hst _ _ _ hP) _ hd'
    refine ⟨go, fun H2 => ∃ acc2 accV2 g2, P (i + 1) acc2 g2 ∧ Sim X.K H2 g2 ∧ Ext H1 g1 H2 g2 ∧ H2 D = some (.lst accV2) ∧ g2 D = none ∧ Rels X.K H2 acc2 accV2 ∧ acc2.length ≤ i + 1,
      fun H2 ⟨acc2, accV2, g2, a1, a2, a3, a4, a5, a6, a7⟩ => ⟨ds.length - (i + 1), by omega, acc2, accV2, g2, a1, a2, a3, a4, a5, a6, a7, hlt, rfl⟩, fun x H2 y => ?_⟩
    obtain ⟨rx, ex, sx⟩ := yl x H2 y
    have E2 := e1.trans (e'.trans ex)
    have env2 := ((at_.env.ext at_.sim E2).wiped vs)
    refine ⟨_, dwipe ρ vs, g', _, rx, ⟨env2, sx, at_.ext.trans E2⟩, hs i _ acc g' hd' hP, fun ρ2 g2 σ2 H3 q2 e2 s2 v2 o2 => ⟨wipe_of_out o2, ?_⟩⟩
    refine ⟨ρ2, g2, _, ⟨v2, s2, at_.ext.trans (E2.trans e2)⟩, q2, fun b g3 H4 q3 e3 s3 => ?_⟩
    cases b with
    | false =>
      have E4 := ((ex.trans e2).trans e3)
      obtain ⟨n1, n2⟩ := E4 D _ hDv hDg
      exact ⟨acc, accV, g3, q3, s3, e'.trans E4, n1, n2, rs.ext s' E4, by omega⟩
    | true =>
      refine ⟨ρ2, g3, _, ⟨v2.ext s2 e3, s3, at_.ext.trans ((E2.trans e2).trans e3)⟩, q3, fun d g4 v H5 q4 e4 s4 r4 => ?_⟩
      have E5 := ((ex.trans e2).trans e3).trans e4
      obtain ⟨n1, n2⟩ := E5 D _ hDv hDg
      have rl := (rs.ext s' E5)
      have ll : accV.length < sizeLine := by rw [← rs.length]; omega
      refine ⟨accV, n1, ll, acc ++ [d], accV ++ [v], g4, q4, s4.hid n2 n1, (e'.trans E5).hid hD, upd_same, n2, ?_, by rw [List.length_append]; simp; omega⟩
      exact Rels.mono (kept_hid n1) _ _ (rl.append (Rels.cons r4 Rels.nil))
  · refine .inl ⟨wk.stop i H' g' s' (s1.kept e') (hst _ _ _ hP) hge, ?_⟩
    have : i = ds.length := Nat.le_antisymm hi hge
    subst this
    refine p _ _ _ _ (hd acc g' D hP hl hDg) (e1.trans (e'.tell hD)) (s'.tell hDv ⟨_, rfl, rs⟩) (by unfold Rel; rfl)
theorem je_lc {elt tg iter : Expr} {ifs : List Expr} {scope : Scope} {own : List (Str × Nat)} {pos : Pos} {ti : DI} {gt : DG} {tt : DT} {te : DE} (hc : X.calm = true) (hN : X.N.Nodup) (hi : JI X B tg iter ti) (ok : BlkOk X.N X.env.scope scope own)
    (hg : ∀ (s : Shared) (H : Hp) (C : Addr) (cl : List (Str × Addr)) (fp : List Addr), JG (X.blk s H scope (compEnvC scope cl C X.env) fp) B (own.map (·.2)) tg gt)
    (ht : ∀ (s : Shared) (H : Hp) (C : Addr) (cl : List (Str × Addr)) (fp : List Addr), JTs (X.blk s H scope (compEnvC scope cl C X.env) fp) B ifs tt)
    (he : ∀ (s : Shared) (H : Hp) (C : Addr) (cl : List (Str × Addr)) (fp : List Addr), JE (X.blk s H scope (compEnvC scope cl C X.env) fp) B elt te) (hs : ∀ x, foldedSetIterable iter X.env x = pure x := by intro _; rfl) :
    JE X B (.ListComp elt [⟨tg, iter, ifs, 0⟩] scope pos) (dLc ti gt tt te (own.map (·.2))) :=
  pe_imp (pe_lc hc hN hi ok hg ht he hs) fun σ H Q h => llc h
theorem js_setLc {i : Nat} {y : Str} {py : Pos} {elt tg iter : Expr} {ifs : List Expr} {scope : Scope} {own : List (Str × Nat)} {pos spos : Pos} {ti : DI} {gt : DG} {tt : DT} {te : DE} (hc : X.calm = true) (hN : X.N.Nodup) (hy : X.N[i]? = some y) (hyl : X.env.scope.names.lookup y = some .local)
    (hsw : swapsWith (.ListComp elt [⟨tg, iter, ifs, 0⟩] scope pos) (some (.Name y py)) spos.line X.env = pure true) (hi : JI X B tg iter ti) (ok : BlkOk X.N X.env.scope scope own)
    (hg : ∀ (s : Shared) (H : Hp) (C : Addr) (cl : List (Str × Addr)) (fp : List Addr), JG (X.blk s H scope (compEnvC scope cl C X.env) fp) B (own.map (·.2)) tg gt)
    (ht : ∀ (s : Shared) (H : Hp) (C : Addr) (cl : List (Str × Addr)) (fp : List Addr), JTs (X.blk s H scope (compEnvC scope cl C X.env) fp) B ifs tt)
    (he : ∀ (s : Shared) (H : Hp) (C : Addr) (cl : List (Str × Addr)) (fp : List Addr), JE (X.blk s H scope (compEnvC scope cl C X.env) fp) B elt te) (hs : ∀ x, foldedSetIterable iter X.env x = pure x := by intro _; rfl) :
    JS X B (.Assign [.Name y py] (.ListComp elt [⟨tg, iter, ifs, 0⟩] scope pos) spos) (dSet i (dLc ti gt tt te (own.map (·.2)))) :=
  ps_imp (ps_setLc hc hN hy hyl hsw hi ok hg ht he hs) fun D σ H ⟨ρ, g, d, at_, h, p⟩ => llc ⟨ρ, g, _, at_, h, fun x g1 v H1 h1 e1 s1 r1 => p.nx _ _ _ _ h1 e1 s1 ((at_.env.ext at_.sim e1).set r1 i)⟩

/-- [te for gt in ti if tt for gt1 in ti1 if tt1]; vs: the slots of its own names, vs1: those of the second target -/
def dLc2 (ti : DI) (gt : DG) (tt : DT) (ti1 : DI) (gt1 : DG) (tt1 : DT) (te : DE) (vs vs1 : List Nat) : DE := fun ρ g Q => ti ρ g fun ds stay g1 => ∃ P : Nat → List D → G → Prop, P 0 [] g1 ∧ (∀ i acc g, P i acc g → stay g) ∧
  (∀ i x acc g, ds[i]? = some x → P i acc g → gt x (dwipe ρ vs) g fun ρ2 g2 => tt ρ2 g2 fun b g3 => if b = true then
    ti1 ρ2 g3 fun ds1 stay1 g4 => ∃ P1 : Nat → List D → G → Prop, P1 0 acc g4 ∧ (∀ j acc g, P1 j acc g → stay1 g) ∧
      (∀ j y acc1 g, ds1[j]? = some y → P1 j acc1 g → gt1 y (dwipe ρ2 vs1) g fun ρ3 g5 => tt1 ρ3 g5 fun b1 g6 => if b1 = true then te ρ3 g6 fun z g7 => acc1.length < sizeLine ∧ P1 (j + 1) (acc1 ++ [z]) g7 else P1 (j + 1) acc1 g6) ∧
      ∀ acc1 g, P1 ds1.length acc1 g → P (i + 1) acc1 g
    else P (i + 1) acc g3) ∧
  ∀ acc g p, P ds.length acc g → g p = none → Q (.obj p) (gup g p (.lst acc))
theorem llc2 {ti ti1 : DI} {gt gt1 : DG} {tt tt1 : DT} {te : DE} {vs vs1 : List Nat} {σ : St} {H : Hp} {Q : VK} (h : LE X.K B (dLc2 ti gt tt ti1 gt1 tt1 te vs vs1) σ H Q) :
    tLc2 (LI X.K B ti) (LG X.K B vs gt) (LT X.K B tt) (LI X.K B ti1) (LG X.K B vs1 gt1) (LT X.K B tt1) (LE X.K B te) vs vs1 σ H Q := by
  obtain ⟨ρ, g, Q0, at_, h, p⟩ := h
  refine ⟨ρ, g, _, at_, h, fun ds stay g1 H1 J ⟨P, h0, hst, hs, hd⟩ e1 s1 wk D hD => ?_⟩
  refine ⟨fun i m H' => ∃ acc accV g', P i acc g' ∧ Sim X.K H' g' ∧ Ext H1 g1 H' g' ∧ H' D = some (.lst accV) ∧ g' D = none ∧ Rels X.K H' acc accV ∧ i ≤ ds.length ∧ m = ds.length - i,
    ⟨_, [], [], g1, h0, s1.laidT hD, Ext.laidT hD, upd_same, s1.fresh hD, Rels.nil, Nat.zero_le _, rfl⟩, ?_⟩
  rintro i m H' ⟨acc, accV, g', hP, s', e', hDv, hDg, rs, hi, rfl⟩
  rcases Nat.lt_or_ge i ds.length with hlt | hge
  · refine .inr ?_
    have hd' := List.getElem?_eq_getElem hlt
    obtain ⟨go, yl⟩ := wk.go i H' g' s' (s1.kept e') (hst _ _ _ hP) _ hd'
    refine ⟨go, fun H2 => ∃ acc2 accV2 g2, P (i + 1) acc2 g2 ∧ Sim X.K H2 g2 ∧ Ext H1 g1 H2 g2 ∧ H2 D = some (.lst accV2) ∧ g2 D = none ∧ Rels X.K H2 acc2 accV2,
      fun H2 ⟨acc2, accV2, g2, a1, a2, a3, a4, a5, a6⟩ => ⟨ds.length - (i + 1), by omega, acc2, accV2, g2, a1, a2, a3, a4, a5, a6, hlt, rfl⟩, fun x H2 y => ?_⟩
    obtain ⟨rx, ex, sx⟩ := yl x H2 y
    have E2 := e1.trans (e'.trans ex)
    have env2 := ((at_.env.ext at_.sim E2).wiped vs)
    refine ⟨_, dwipe ρ vs, g', _, rx, ⟨env2, sx, at_.ext.trans E2⟩, hs i _ acc g' hd' hP, fun ρ2 g2 σ2 H3 q2 e2 s2 v2 o2 => ⟨wipe_of_out o2, ?_⟩⟩
    refine ⟨ρ2, g2, _, ⟨v2, s2, at_.ext.trans (E2.trans e2)⟩, q2, fun b g3 H4 q3 e3 s3 => ?_⟩
    cases b with
    | false =>
      have E4 := ((ex.trans e2).trans e3)
      obtain ⟨n1, n2⟩ := E4 D _ hDv hDg
      exact ⟨acc, accV, g3, q3, s3, e'.trans E4, n1, n2, rs.ext s' E4⟩
    | true =>
      refine ⟨ρ2, g3, _, ⟨v2.ext s2 e3, s3, at_.ext.trans ((E2.trans e2).trans e3)⟩, q3, fun ds1 stay1 g4 H5 J1 ⟨P1, k0, kst, ks, kd⟩ e4 s4 wk1 => ?_⟩
      have E5 := ((ex.trans e2).trans e3).trans e4
      obtain ⟨n1, n2⟩ := E5 D _ hDv hDg
      have rl := (rs.ext s' E5)
      refine ⟨fun j m H6 => ∃ acc1 accV1 g6, P1 j acc1 g6 ∧ Sim X.K H6 g6 ∧ (∀ a u, a ≠ D → H5 a = some u → g4 a = none → H6 a = some u ∧ g6 a = none) ∧ H6 D = some (.lst accV1) ∧ g6 D = none ∧ Rels X.K H6 acc1 accV1 ∧ j ≤ ds1.length ∧ m = ds1.length - j,
        ⟨_, acc, accV, g4, k0, s4, fun a u _ h n => ⟨h, n⟩, n1, n2, rl, Nat.zero_le _, rfl⟩, ?_⟩
      have kp : ∀ {H6 : Hp} {g6 : G}, (∀ a u, a ≠ D → H5 a = some u → g4 a = none → H6 a = some u ∧ g6 a = none) → Kept X.K H5 H6 := fun {H6 g6} z =>
        ⟨fun a xs e => (z a _ (fun y => by subst y; rw [n1] at e; cases e) e (s4.untold e rfl)).1, fun a o u e => (z a _ (fun y => by subst y; rw [n1] at e; cases e) e (s4.untold e rfl)).1⟩
      rintro j m H6 ⟨acc1, accV1, g6, hP1, s6, z6, hDv1, hDg1, rs1, hj, rfl⟩
      rcases Nat.lt_or_ge j ds1.length with hlt1 | hge1
      · refine .inr ?_
        have hd1 := List.getElem?_eq_getElem hlt1
        obtain ⟨go1, yl1⟩ := wk1.go j H6 g6 s6 (kp z6) (kst _ _ _ hP1) _ hd1
        refine ⟨go1, fun H2 => ∃ acc2 accV2 g2, P1 (j + 1) acc2 g2 ∧ Sim X.K H2 g2 ∧ (∀ a u, a ≠ D → H5 a = some u → g4 a = none → H2 a = some u ∧ g2 a = none) ∧ H2 D = some (.lst accV2) ∧ g2 D = none ∧ Rels X.K H2 acc2 accV2,
          fun H2 ⟨acc2, accV2, g2, a1, a2, a3, a4, a5, a6⟩ => ⟨ds1.length - (j + 1), by omega, acc2, accV2, g2, a1, a2, a3, a4, a5, a6, hlt1, rfl⟩, fun x1 H7 y1 => ?_⟩
        obtain ⟨rx1, ex1, sx1⟩ := yl1 x1 H7 y1
        have K7 := kp (H6 := H7) (g6 := g6) fun a u ne h n => let ⟨h1, n1⟩ := z6 a u ne h n; ex1 a u h1 n1
        have envB : EnvR X.K H7 ρ2 σ2 := by
          have vv := (v2.ext s2 (e3.trans e4))
          exact ⟨vv.1, fun i d q => let ⟨v, a, b⟩ := vv.2 i d q; ⟨v, a, Rel.mono K7 _ _ b⟩⟩
        have B7 : Ext B.H B.g H7 g6 := fun a u h n => by
          obtain ⟨h1, k1⟩ := (at_.ext.trans e1) a u h n
          have ne : a ≠ D := ne_of_none h1 hD
          obtain ⟨h2, k2⟩ := (e'.trans E5) a u h1 k1
          obtain ⟨h3, k3⟩ := z6 a u ne h2 k2
          exact ex1 a u h3 k3
        refine ⟨_, dwipe ρ2 vs1, g6, _, rx1, ⟨envB.wiped vs1, sx1, B7⟩, ks j _ acc1 g6 hd1 hP1, fun ρ3 g7 σ3 H8 q8 e8 s8 v8 o8 => ⟨wipe_of_out o8, ?_⟩⟩
        refine ⟨ρ3, g7, _, ⟨v8, s8, B7.trans e8⟩, q8, fun b1 g8 H9 q9 e9 s9 => ?_⟩
        cases b1 with
        | false =>
          have E9 := ((ex1.trans e8).trans e9)
          obtain ⟨m1, m2⟩ := E9 D _ hDv1 hDg1
          exact ⟨acc1, accV1, g8, q9, s9, fun a u ne h n => let ⟨h1, n1⟩ := z6 a u ne h n; E9 a u h1 n1, m1, m2, rs1.ext s6 E9⟩
        | true =>
          refine ⟨ρ3, g8, _, ⟨v8.ext s8 e9, s9, (B7.trans e8).trans e9⟩, q9, fun d g9 v H10 ⟨ll, q10⟩ e10 s10 r10 => ?_⟩
          have E10 := ((ex1.trans e8).trans e9).trans e10
          obtain ⟨m1, m2⟩ := E10 D _ hDv1 hDg1
          have rl1 := (rs1.ext s6 E10)
          refine ⟨accV1, m1, by rw [← rs1.length]; exact ll, acc1 ++ [d], accV1 ++ [v], g9, q10, s10.hid m2 m1, fun a u ne h n => ?_, upd_same, m2, ?_⟩
          · obtain ⟨h1, n1⟩ := z6 a u ne h n
            rw [upd_ne ne]
            exact E10 a u h1 n1
          · exact Rels.mono (kept_hid m1) _ _ (rl1.append (Rels.cons r10 Rels.nil))
      · refine .inl ⟨wk1.stop j H6 g6 s6 (kp z6) (kst _ _ _ hP1) hge1, ?_⟩
        have : j = ds1.length := Nat.le_antisymm hj hge1
        subst this
        refine ⟨acc1, accV1, g6, kd _ _ hP1, s6, fun a u h n => ?_, hDv1, hDg1, rs1⟩
        have ne : a ≠ D := ne_of_none h hD
        obtain ⟨h2, k2⟩ := (e'.trans E5) a u h n
        exact z6 a u ne h2 k2
  · refine .inl ⟨wk.stop i H' g' s' (s1.kept e') (hst _ _ _ hP) hge, ?_⟩
    have : i = ds.length := Nat.le_antisymm hi hge
    subst this
    refine p _ _ _ _ (hd acc g' D hP hDg) (e1.trans (e'.tell hD)) (s'.tell hDv ⟨_, rfl, rs⟩) (by unfold Rel; rfl)
theorem je_lc2 {elt tg iter tg1 iter1 : Expr} {ifs ifs1 : List Expr} {scope : Scope} {own : List (Str × Nat)} {vs1 : List Nat} {pos : Pos} {ti ti1 : DI} {gt gt1 : DG} {tt tt1 : DT} {te : DE} (hc : X.calm = true) (hN : X.N.Nodup) (hi : JI X B tg iter ti) (ok : BlkOk X.N X.env.scope scope own) (hv : ∀ i ∈ vs1, i ∈ own.map (·.2))
    (hg : ∀ (s : Shared) (H : Hp) (C : Addr) (cl : List (Str × Addr)) (fp : List Addr), JG (X.blk s H scope (compEnvC scope cl C X.env) fp) B (own.map (·.2)) tg gt)
    (ht : ∀ (s : Shared) (H : Hp) (C : Addr) (cl : List (Str × Addr)) (fp : List Addr), JTs (X.blk s H scope (compEnvC scope cl C X.env) fp) B ifs tt)
    (hi1 : ∀ (s : Shared) (H : Hp) (C : Addr) (cl : List (Str × Addr)) (fp : List Addr), JI (X.blk s H scope (compEnvC scope cl C X.env) fp) B tg1 iter1 ti1)
    (hg1 : ∀ (s : Shared) (H : Hp) (C : Addr) (cl : List (Str × Addr)) (fp : List Addr), JG (X.blk s H scope (compEnvC scope cl C X.env) fp) B vs1 tg1 gt1)
    (ht1 : ∀ (s : Shared) (H : Hp) (C : Addr) (cl : List (Str × Addr)) (fp : List Addr), JTs (X.blk s H scope (compEnvC scope cl C X.env) fp) B ifs1 tt1)
    (he : ∀ (s : Shared) (H : Hp) (C : Addr) (cl : List (Str × Addr)) (fp : List Addr), JE (X.blk s H scope (compEnvC scope cl C X.env) fp) B elt te) (hs : ∀ x, foldedSetIterable iter X.env x = pure x := by intro _; rfl) (hs1 : ∀ env x, foldedSetIterable iter1 env x = pure x := by intro _ _; rfl) :
    JE X B (.ListComp elt [⟨tg, iter, ifs, 0⟩, ⟨tg1, iter1, ifs1, 0⟩] scope pos) (dLc2 ti gt tt ti1 gt1 tt1 te (own.map (·.2)) vs1) :=
  pe_imp (pe_lc2 hc hN hi ok hv hg ht hi1 hg1 ht1 he hs hs1) fun σ H Q h => llc2 h
end
end L2.DL

/-! DL4: operators, comparisons, subscripts, slices, stores. -/
namespace L2.DL
open PySem PySem.Spec PyProof.Rows

/-! ### arithmetic -/
def addD : D2 := fun x y g Q => match x, y with
  | .int i, .int j => Q (.int (i + j)) g
  | .str a, .str b => a.length + b.length ≤ sizeLine ∧ Q (.str (a ++ b)) g
  | .tup a, .tup b => a.length + b.length ≤ sizeLine ∧ Q (.tup (a ++ b)) g
  | .obj a, .obj b => match g a, g b with
    | some (.lst xs), some (.lst ys) => xs.length + ys.length ≤ sizeLine ∧ ∀ p, g p = none → Q (.obj p) (gup g p (.lst (xs ++ ys)))
    | _, _ => False
  | _, _ => False
def intD (C : Int → Int → Prop) (f : Int → Int → Int) : D2 := fun x y g Q => match x, y with
  | .int i, .int j => C i j ∧ Q (.int (f i j)) g
  | _, _ => False
def intB (f : Int → Int → Bool) : D2 := fun x y g Q => match x, y with
  | .int i, .int j => Q (.bl (f i j)) g
  | _, _ => False
section
variable {K : PySem.W.Frag} {H : Hp} {g : G}
theorem rel_int {i : Int} {v : V} (h : Rel K H (.int i) v) : v = .int i := by unfold Rel at h; exact h
theorem rel_str {i : Str} {v : V} (h : Rel K H (.str i) v) : v = .str i := by unfold Rel at h; exact h
theorem rel_bl {i : Bool} {v : V} (h : Rel K H (.bl i) v) : v = .bl i := by unfold Rel at h; exact h
theorem rel_non {v : V} (h : Rel K H .non v) : v = .non := by unfold Rel at h; exact h
theorem rel_obj {a : Addr} {v : V} (h : Rel K H (.obj a) v) : v = .ref a := by unfold Rel at h; exact h
theorem rel_tup {ds : List D} {v : V} (h : Rel K H (.tup ds) v) : ∃ a xs, v = .ref a ∧ H a = some (.tup xs) ∧ Rels K H ds xs := by unfold Rel at h; exact h
theorem rel_scr {ns : List Int} {v : V} (h : Rel K H (.scr ns) v) : ∃ a, v = .ref a ∧ ScrAt K H a (ns.map V.int) := by unfold Rel at h; exact h
theorem rel_fin {ds : List D} {v : V} (h : Rel K H (.fin ds) v) : ∃ a xs o, v = .ref a ∧ H a = some (.frz o (.tup xs)) ∧ o.dict = none ∧ Rels K H ds xs := by unfold Rel at h; exact h
theorem int_rel {i : Int} : Rel K H (.int i) (.int i) := by unfold Rel; rfl
theorem str_rel {i : Str} : Rel K H (.str i) (.str i) := by unfold Rel; rfl
theorem bl_rel {i : Bool} : Rel K H (.bl i) (.bl i) := by unfold Rel; rfl
theorem non_rel : Rel K H .non .non := by unfold Rel; rfl
theorem obj_rel {a : Addr} : Rel K H (.obj a) (.ref a) := by unfold Rel; rfl
theorem rel_of_tup {ds : List D} {a : Addr} {xs : List V} (h : H a = some (.tup xs)) (r : Rels K H ds xs) : Rel K H (.tup ds) (.ref a) := by unfold Rel; exact ⟨a, xs, rfl, h, r⟩
theorem Sim.lst {a : Addr} {ds : List D} (S : Sim K H g) (h : g a = some (.lst ds)) : ∃ xs, H a = some (.lst xs) ∧ Rels K H ds xs := by
  obtain ⟨u, hu, xs, rfl, r⟩ := S a _ h
  exact ⟨xs, hu, r⟩
/-- a new list -/
theorem PostE.newL {ds : List D} {xs : List V} {p : Addr} {Q0 : D → G → Prop} {Q : VK} (P : PostE K H g Q0 Q) (S : Sim K H g) (r : Rels K H ds xs) (h : Q0 (.obj p) (gup g p (.lst ds))) (hp : H p = none) : Q (.ref p) (upd H p (.lst xs)) :=
  P _ _ _ _ h (Ext.laid hp) (S.laid hp ⟨xs, rfl, r⟩) obj_rel
/-- a new tuple -/
theorem PostE.newT {ds : List D} {xs : List V} {p : Addr} {Q0 : D → G → Prop} {Q : VK} (P : PostE K H g Q0 Q) (S : Sim K H g) (r : Rels K H ds xs) (h : Q0 (.tup ds) g) (hp : H p = none) : Q (.ref p) (upd H p (.tup xs)) :=
  P _ _ _ _ h (Ext.laidT hp) (S.laidT hp) (tup_rel S hp r)
theorem PostE.now {d : D} {v : V} {Q0 : D → G → Prop} {Q : VK} (P : PostE K H g Q0 Q) (S : Sim K H g) (h : Q0 d g) (r : Rel K H d v) : Q v H := P _ _ _ _ h Ext.refl S r
end
section
variable {X : Cx} {B : Bs}
theorem oj_add : OpJ X (binaryOp .Add) addD := by
  refine opr_imp (op_add.or (op_add_str.or (op_catA.or op_cat))) fun x y H Q ⟨dx, dy, g, Q0, rx, ry, S, h, P⟩ => ?_
  cases dx <;> cases dy <;> try exact h.elim
  · cases rel_int rx; cases rel_int ry
    exact .inl ⟨_, _, rfl, rfl, P.now S h int_rel⟩
  · cases rel_str rx; cases rel_str ry
    exact .inr (.inl ⟨_, _, rfl, rfl, h.1, P.now S h.2 str_rel⟩)
  · obtain ⟨a, xs, rfl, ha, ra⟩ := rel_tup rx
    obtain ⟨b, ys, rfl, hb, rb⟩ := rel_tup ry
    obtain ⟨hz, h⟩ := h
    refine .inr (.inr (.inl ⟨a, b, xs, ys, rfl, rfl, SqT.of ha, SqT.of hb, by rw [← ra.length, ← rb.length]; exact hz, fun e => ?_, fun _ e => ?_, fun _ _ p hp => P.newT S (ra.append rb) h hp⟩))
    · subst e
      have : _ = [] := List.eq_nil_of_length_eq_zero ra.length
      subst this
      exact P.now S h (rel_of_tup hb rb)
    · subst e
      have : _ = [] := List.eq_nil_of_length_eq_zero rb.length
      subst this
      rw [List.append_nil] at h
      exact P.now S h (rel_of_tup ha ra)
  · cases rel_obj rx; cases rel_obj ry
    simp only [addD] at h
    split at h
    · rename_i xs ys e1 e2
      obtain ⟨xv, h1, r1⟩ := S.lst e1
      obtain ⟨yv, h2, r2⟩ := S.lst e2
      exact .inr (.inr (.inr ⟨_, _, xv, yv, rfl, rfl, h1, h2, by rw [← r1.length, ← r2.length]; exact h.1, fun p hp => P.newL S (r1.append r2) (h.2 p (S.fresh hp)) hp⟩))
    · exact h.elim
theorem oj_int {f : Value → Value → Sem Value} {C : Int → Int → Prop} {F : Int → Int → Int} (h : OpR X f (rI C fun i j => .int (F i j))) : OpJ X f (intD C F) := opr_imp h fun x y H Q ⟨dx, dy, g, Q0, rx, ry, S, h, P⟩ => by
  cases dx <;> cases dy <;> try exact h.elim
  cases rel_int rx; cases rel_int ry
  exact ⟨_, _, rfl, rfl, h.1, P.now S h.2 int_rel⟩
theorem oj_intB {f : Value → Value → Sem Value} {F : Int → Int → Bool} (h : OpR X f (rI0 fun i j => .bl (F i j))) : OpJ X f (intB F) := opr_imp h fun x y H Q ⟨dx, dy, g, Q0, rx, ry, S, h, P⟩ => by
  cases dx <;> cases dy <;> try exact h.elim
  cases rel_int rx; cases rel_int ry
  exact ⟨_, _, rfl, rfl, P.now S h bl_rel⟩
def CAny (_ _ : Int) : Prop := True
theorem oj_sub : OpJ X (binaryOp .Sub) (intD CAny fun i j => i - j) := oj_int (opr_imp op_sub fun x y H Q ⟨i, j, a, b, _, q⟩ => ⟨i, j, a, b, q⟩)
def mulD : D2 := fun x y g Q => match x, y with
  | .int i, .int j => CMul i j ∧ Q (.int (i * j)) g
  | .str s, .int j => (0 ≤ j ∧ j ≤ 1) ∧ Q (.str (if j = 1 then s else Str.empty)) g
  | _, _ => False
/-- text * 0, text * 1 -/
theorem op_mulS : OpR X (binaryOp .Mult) (fun x y H Q => ∃ s j, x = .str s ∧ y = .int j ∧ (0 ≤ j ∧ j ≤ 1) ∧ Q (.str (if j = 1 then s else Str.empty)) H) := by
  intro pins s σ H x y v u Q I rx ry h
  obtain ⟨z, j, rfl, rfl, ⟨h0, h1⟩, q⟩ := h
  obtain ⟨t, rfl⟩ := rx
  obtain ⟨t', rfl⟩ := ry
  by_cases e : j = 1
  · subst e
    rw [if_pos rfl] at q
    exact PySem.P.mul_str (by decide) (fun _ h => by simp at h) (fun _ h => by simp at h) (by rw [if_neg (by decide), if_pos (by simp)]; exact ⟨.str z, H, I, ⟨_, rfl⟩, q⟩)
  · rw [if_neg e] at q
    exact PySem.P.mul_str_none (by omega) (by omega) ⟨.str Str.empty, H, I.tok _, ⟨_, rfl⟩, q⟩
theorem oj_mul : OpJ X (binaryOp .Mult) mulD := opr_imp (op_mul.or op_mulS) fun x y H Q ⟨dx, dy, g, Q0, rx, ry, S, h, P⟩ => by
  cases dx <;> cases dy <;> try exact h.elim
  · cases rel_int rx; cases rel_int ry
    exact .inl ⟨_, _, rfl, rfl, h.1, P.now S h.2 int_rel⟩
  · cases rel_str rx; cases rel_int ry
    exact .inr ⟨_, _, rfl, rfl, h.1, P.now S h.2 str_rel⟩
def CPos (_ j : Int) : Prop := 0 < j
theorem oj_mod : OpJ X (binaryOp .Mod) (intD CPos fun i j => i % j) := oj_int op_mod
theorem oj_fdiv : OpJ X (binaryOp .FloorDiv) (intD CDiv fun i j => i / j) := oj_int op_fdiv
theorem oj_pow : OpJ X (binaryOp .Pow) (intD CPow fun i j => i ^ j.toNat) := oj_int op_pow
theorem oj_lt : OpJ X (compareOp .Lt) (intB fun i j => decide (i < j)) := oj_intB op_lt
theorem oj_le : OpJ X (compareOp .LtE) (intB fun i j => decide (i ≤ j)) := oj_intB op_le
theorem oj_gt : OpJ X (compareOp .Gt) (intB fun i j => decide (j < i)) := oj_intB op_gt
theorem oj_ge : OpJ X (compareOp .GtE) (intB fun i j => decide (j ≤ i)) := oj_intB op_ge
def negD : D → G → (D → G → Prop) → Prop := fun x g Q => match x with
  | .int i => Q (.int (-i)) g
  | _ => False
theorem uj_neg : UnR X (unaryOp .USub) (LR1 X.K negD) := fun pins s σ H x v Q I rx ⟨dx, g, Q0, r, S, h, P⟩ => by
  cases dx <;> try exact h.elim
  cases rel_int r
  exact un_neg pins s σ H _ v Q I rx ⟨_, rfl, P.now S h int_rel⟩

/-! ### ==, != -/
mutual
def pyD : D → Option PyData
  | .non => some .none
  | .bl b => some (.bool b)
  | .int i => some (.int i)
  | .str s => some (.str s)
  | .tup ds => match pyDs ds with
    | some ps => some (.tuple ps)
    | none => none
  | .fin ds => match pyDs ds with
    | some ps => some (.tuple ps)
    | none => none
  | _ => none
def pyDs : List D → Option (List PyData)
  | [] => some []
  | d :: ds => match pyD d, pyDs ds with
    | some p, some ps => some (p :: ps)
    | _, _ => none
end
def pyG (g : G) : D → Option PyData
  | .obj a => match g a with
    | some (.lst ds) => match pyDs ds with
      | some ps => some (.list ps)
      | none => none
    | _ => none
  | d => pyD d
mutual
theorem pyD_dp {K : PySem.W.Frag} {H : Hp} : ∀ (d : D) (v : V) (p : PyData), Rel K H d v → pyD d = some p → Dp K H v p
  | .non, v, p, r, e => by cases rel_non r; unfold pyD at e; cases e; exact .non
  | .bl b, v, p, r, e => by cases rel_bl r; unfold pyD at e; cases e; exact .bl b
  | .int i, v, p, r, e => by cases rel_int r; unfold pyD at e; cases e; exact .int i
  | .str s, v, p, r, e => by cases rel_str r; unfold pyD at e; cases e; exact .str s
  | .obj a, v, p, r, e => by unfold pyD at e; cases e
  | .scr a, v, p, r, e => by unfold pyD at e; cases e
  | .tup ds, v, p, r, e => by
    obtain ⟨a, xs, rfl, ha, rs⟩ := rel_tup r
    unfold pyD at e
    split at e
    · rename_i ps eq
      cases e
      exact .tup (SqT.of ha) (pyDs_dp ds xs ps rs eq)
    · cases e
  | .fin ds, v, p, r, e => by
    obtain ⟨a, xs, o, rfl, ha, _, rs⟩ := rel_fin r
    unfold pyD at e
    split at e
    · rename_i ps eq
      cases e
      exact .tup (.inl (.inr ⟨o, ha⟩)) (pyDs_dp ds xs ps rs eq)
    · cases e
theorem pyDs_dp {K : PySem.W.Frag} {H : Hp} : ∀ (ds : List D) (xs : List V) (ps : List PyData), Rels K H ds xs → pyDs ds = some ps → DpAll K H xs ps
  | [], xs, ps, r, e => by unfold pyDs at e; cases e; unfold Rels at r; subst r; exact .nil
  | d :: ds, xs, ps, r, e => by
    unfold Rels at r
    obtain ⟨x, ys, rfl, r1, r2⟩ := r
    unfold pyDs at e
    split at e
    · rename_i p qs e1 e2
      cases e
      exact .cons (pyD_dp d x p r1 e1) (pyDs_dp ds ys qs r2 e2)
    · cases e
end
theorem pyG_dp {K : PySem.W.Frag} {H : Hp} {g : G} {d : D} {v : V} {p : PyData} (S : Sim K H g) (r : Rel K H d v) (e : pyG g d = some p) : Dp K H v p := by
  cases d with
  | obj a =>
    cases rel_obj r
    simp only [pyG] at e
    split at e
    · rename_i ds hg
      split at e
      · rename_i ps eq
        cases e
        obtain ⟨xs, hx, rs⟩ := S.lst hg
        exact .lst (SqL.of hx) (pyDs_dp ds xs ps rs eq)
      · cases e
    · cases e
  | _ => exact pyD_dp _ v p r e
/-- scalars by themselves; tuples and lists by what they read as -/
def eqD (neg : Bool) : D2 := fun x y g Q => match x, y with
  | .str a, .str b => Q (.bl (neg ^^ decide (a = b))) g
  | .int a, .int b => Q (.bl (neg ^^ decide (a = b))) g
  | .bl a, .bl b => Q (.bl (neg ^^ decide (a = b))) g
  | .non, .non => Q (.bl (neg ^^ true)) g
  | x, y => ∃ p q, pyG g x = some p ∧ pyG g y = some q ∧ SeqAt.shaped p = true ∧ SeqAt.shaped q = true ∧ Q (.bl (neg ^^ PyData.eqv p q)) g
theorem oj_eq (hu : X.A.units + 64 < cLine) : OpJ X (compareOp .Eq) (eqD false) := opr_imp (op_eq.or (op_eqD hu)) fun x y H Q ⟨dx, dy, g, Q0, rx, ry, S, h, P⟩ => by
  unfold eqD at h
  split at h
  · cases rel_str rx; cases rel_str ry
    exact .inl ⟨rfl, P.now S h (by rw [Bool.false_xor, dec_str]; exact bl_rel)⟩
  · cases rel_int rx; cases rel_int ry
    exact .inl ⟨rfl, P.now S h (by rw [Bool.false_xor, dec_int]; exact bl_rel)⟩
  · cases rel_bl rx; cases rel_bl ry
    exact .inl ⟨rfl, P.now S h (by rw [Bool.false_xor, dec_bl]; exact bl_rel)⟩
  · cases rel_non rx; cases rel_non ry
    exact .inl ⟨rfl, P.now S h (by rw [Bool.false_xor]; exact bl_rel)⟩
  · obtain ⟨p, q, e1, e2, s1, s2, h⟩ := h
    exact .inr ⟨p, q, pyG_dp S rx e1, pyG_dp S ry e2, s1, s2, P.now S h (by rw [Bool.false_xor]; exact bl_rel)⟩
theorem oj_ne (hu : X.A.units + 64 < cLine) : OpJ X (compareOp .NotEq) (eqD true) := opr_imp (op_ne.or (op_neD hu)) fun x y H Q ⟨dx, dy, g, Q0, rx, ry, S, h, P⟩ => by
  unfold eqD at h
  split at h
  · cases rel_str rx; cases rel_str ry
    exact .inl ⟨rfl, P.now S h (by rw [Bool.true_xor, dec_str]; exact bl_rel)⟩
  · cases rel_int rx; cases rel_int ry
    exact .inl ⟨rfl, P.now S h (by rw [Bool.true_xor, dec_int]; exact bl_rel)⟩
  · cases rel_bl rx; cases rel_bl ry
    exact .inl ⟨rfl, P.now S h (by rw [Bool.true_xor, dec_bl]; exact bl_rel)⟩
  · cases rel_non rx; cases rel_non ry
    exact .inl ⟨rfl, P.now S h (by rw [Bool.true_xor]; exact bl_rel)⟩
  · obtain ⟨p, q, e1, e2, s1, s2, h⟩ := h
    exact .inr ⟨p, q, pyG_dp S rx e1, pyG_dp S ry e2, s1, s2, P.now S h (by rw [Bool.true_xor]; exact bl_rel)⟩
/-- is None, is not None -/
def isNon : D → Bool
  | .non => true
  | _ => false
theorem isNon_rel {K : PySem.W.Frag} {H : Hp} {d : D} {v : V} (r : Rel K H d v) : decide (v = .non) = isNon d := by
  cases d with
  | non => cases rel_non r; rfl
  | bl b => cases rel_bl r; rfl
  | int b => cases rel_int r; rfl
  | str b => cases rel_str r; rfl
  | tup b => obtain ⟨a, xs, rfl, _⟩ := rel_tup r; rfl
  | obj b => cases rel_obj r; rfl
  | scr b => obtain ⟨a, rfl, _⟩ := rel_scr r; rfl
  | fin b => obtain ⟨a, xs, o, rfl, _⟩ := rel_fin r; rfl
def isD (neg : Bool) : D2 := fun x y g Q => match y with
  | .non => Q (.bl (neg ^^ isNon x)) g
  | _ => False
theorem oj_is : OpJ X (compareOp .Is) (isD false) := opr_imp op_isN fun x y H Q ⟨dx, dy, g, Q0, rx, ry, S, h, P⟩ => by
  cases dy <;> try exact h.elim
  exact ⟨rel_non ry, P.now S h (by rw [isNon_rel rx, Bool.false_xor]; exact bl_rel)⟩
theorem oj_isnot : OpJ X (compareOp .IsNot) (isD true) := opr_imp op_notN fun x y H Q ⟨dx, dy, g, Q0, rx, ry, S, h, P⟩ => by
  cases dy <;> try exact h.elim
  exact ⟨rel_non ry, P.now S h (by rw [isNon_rel rx, Bool.true_xor]; exact bl_rel)⟩
end
end L2.DL

/-! DL5: in, subscripts, slices, stores. -/
namespace L2.DL
open PySem PySem.Spec PyProof.Rows

/-! ### in, not in: flat items -/
def flatD : D → Option V := scalV
def flatsD : List D → Option (List V)
  | [] => some []
  | d :: ds => match flatD d, flatsD ds with
    | some v, some vs => some (v :: vs)
    | _, _ => none
theorem scalV_of {K : PySem.W.Frag} {H : Hp} {d : D} {v x : V} (h : scalV d = some v) (r : Rel K H d x) : x = v := by
  cases d <;> simp [scalV] at h <;> subst h
  · exact rel_non r
  · exact rel_bl r
  · exact rel_int r
  · exact rel_str r
theorem flatsD_of {K : PySem.W.Frag} {H : Hp} : ∀ {ds : List D} {vs xs : List V}, flatsD ds = some vs → Rels K H ds xs → xs = vs
  | [], vs, xs, h, r => by unfold flatsD at h; cases h; unfold Rels at r; exact r
  | d :: ds, vs, xs, h, r => by
    unfold flatsD at h
    split at h
    · rename_i v ws e1 e2
      cases h
      unfold Rels at r
      obtain ⟨x, ys, rfl, r1, r2⟩ := r
      rw [scalV_of e1 r1, flatsD_of e2 r2]
    · cases h
theorem scalV_flat {d : D} {v : V} (h : scalV d = some v) : flatV v = true := by
  cases d <;> simp [scalV] at h <;> subst h <;> rfl
theorem flatsD_flat : ∀ {ds : List D} {vs : List V}, flatsD ds = some vs → vs.all flatV = true
  | [], vs, h => by unfold flatsD at h; cases h; rfl
  | d :: ds, vs, h => by
    unfold flatsD at h
    split at h
    · rename_i v ws e1 e2
      cases h
      rw [List.all_cons, scalV_flat e1, flatsD_flat e2]
      rfl
    · cases h
/-- what a list holds -/
def lstOf (g : G) : D → Option (List D)
  | .obj a => match g a with
    | some (.lst ds) => some ds
    | _ => none
  | .scr ns => some (ns.map D.int)
  | _ => none
/-- what a list or a tuple holds -/
def seqOf (g : G) : D → Option (List D)
  | .tup ds => some ds
  | .fin ds => some ds
  | d => lstOf g d
theorem lstOf_rel {K : PySem.W.Frag} {H : Hp} {g : G} {d : D} {v : V} {ds : List D} (S : Sim K H g) (h : lstOf g d = some ds) (r : Rel K H d v) : ∃ a xs, v = .ref a ∧ SqL K H a xs ∧ Rels K H ds xs := by
  cases d with
  | obj a =>
    simp only [lstOf] at h
    split at h
    · rename_i es e
      cases h
      obtain ⟨xs, hx, rs⟩ := S.lst e
      exact ⟨a, xs, rel_obj r, SqL.of hx, rs⟩
    · cases h
  | scr ns =>
    cases (Option.some.inj h)
    obtain ⟨a, e, ha⟩ := rel_scr r
    exact ⟨a, _, e, ha.seq, rels_ints ns⟩
  | _ => cases h
theorem seqOf_rel {K : PySem.W.Frag} {H : Hp} {g : G} {d : D} {v : V} {ds : List D} (S : Sim K H g) (h : seqOf g d = some ds) (r : Rel K H d v) : ∃ a xs, v = .ref a ∧ (SqL K H a xs ∨ SqT K H a xs) ∧ Rels K H ds xs := by
  cases d with
  | tup es =>
    cases (Option.some.inj h)
    obtain ⟨a, xs, e, ha, rs⟩ := rel_tup r
    exact ⟨a, xs, e, .inr (SqT.of ha), rs⟩
  | fin es =>
    cases (Option.some.inj h)
    obtain ⟨a, xs, o, e, ha, _, rs⟩ := rel_fin r
    exact ⟨a, xs, e, .inr (.inl (.inr ⟨o, ha⟩)), rs⟩
  | _ =>
    simp only [seqOf] at h
    obtain ⟨a, xs, e, q, rs⟩ := lstOf_rel S h r
    exact ⟨a, xs, e, .inl q, rs⟩
def inD (neg : Bool) : D2 := fun x y g Q => ∃ ds v vs, seqOf g y = some ds ∧ scalV x = some v ∧ flatsD ds = some vs ∧ Q (.bl (neg ^^ inV v vs)) g
section
variable {X : Cx} {B : Bs}
theorem oj_in : OpJ X (compareOp .In) (inD false) := opr_imp op_in_seq fun x y H Q ⟨dx, dy, g, Q0, rx, ry, S, h, P⟩ => by
  obtain ⟨ds, v, vs, h1, h2, h3, h⟩ := h
  obtain ⟨a, xs, rfl, hq, rs⟩ := seqOf_rel S h1 ry
  cases flatsD_of h3 rs
  cases scalV_of h2 rx
  exact ⟨a, _, rfl, hq, scalV_flat h2, flatsD_flat h3, P.now S h (by rw [Bool.false_xor]; exact bl_rel)⟩
theorem oj_notin : OpJ X (compareOp .NotIn) (inD true) := opr_imp op_notIn_seq fun x y H Q ⟨dx, dy, g, Q0, rx, ry, S, h, P⟩ => by
  obtain ⟨ds, v, vs, h1, h2, h3, h⟩ := h
  obtain ⟨a, xs, rfl, hq, rs⟩ := seqOf_rel S h1 ry
  cases flatsD_of h3 rs
  cases scalV_of h2 rx
  exact ⟨a, _, rfl, hq, scalV_flat h2, flatsD_flat h3, P.now S h (by rw [Bool.true_xor]; exact bl_rel)⟩

/-! ### subscripts -/
theorem rels_at {K : PySem.W.Frag} {H : Hp} {ds : List D} {xs : List V} {i : Int} {d : D} (r : Rels K H ds xs) (h : atI ds i = some d) : ∃ v, atI xs i = some v ∧ Rel K H d v := by
  unfold atI at h ⊢
  rw [← r.length]
  cases e : ixN ds.length i with
  | none => rw [e] at h; cases h
  | some j =>
    rw [e] at h
    exact r.get h
def ixD : D2 := fun x y g Q => match y with
  | .int i => match x with
    | .str z => match atI z.cps.toList i with
      | some c => z.length ≤ sizeLine ∧ Q (.str ⟨#[c]⟩) g
      | none => False
    | x => ∃ ds d, seqOf g x = some ds ∧ atI ds i = some d ∧ Q d g
  | _ => False
variable {a b : Expr} {ta tb : DE} {pos : Pos}
theorem je_ix (ha : JE X B a ta) (hb : JE X B b tb) (hs : PlainIx b := by exact fun _ _ => rfl) : JE X B (.Subscript a b pos) (dOp ixD ta tb) := by
  have I : IxR X (LR2 X.K ixD) := by
    intro value slice pins s σ H x y v u Q I rx ry h hs
    refine (ix_seq : IxR X (rIx X.K)) value slice pins s σ H x y v u Q I rx ry ?_ hs
    obtain ⟨dx, dy, g, Q0, r1, r2, S, h, P⟩ := h
    cases dy <;> try exact h.elim
    rename_i i
    cases rel_int r2
    have gen : (∃ ds d, seqOf g dx = some ds ∧ atI ds i = some d ∧ Q0 d g) → rIx X.K x (.int i) H Q := fun ⟨ds, d, h1, h2, h⟩ => by
      obtain ⟨p, xs, rfl, hq, rs⟩ := seqOf_rel S h1 r1
      obtain ⟨w, e, r⟩ := rels_at rs h2
      rcases hq with hq | hq
      · exact .inl ⟨p, xs, _, w, rfl, rfl, hq, e, P.now S h r⟩
      · exact .inr (.inl ⟨p, xs, _, w, rfl, rfl, hq, e, P.now S h r⟩)
    cases dx with
    | str z =>
      cases rel_str r1
      simp only [ixD] at h
      split at h
      · rename_i c e
        exact .inr (.inr ⟨_, _, c, rfl, rfl, h.1, e, P.now S h.2 str_rel⟩)
      · exact h.elim
    | _ => exact gen h
  exact pe_imp (pe_ix I ha hb hs) fun _ _ _ h => lop h
/-! ### slices -/
abbrev DO := Rho → G → (Option Int → G → Prop) → Prop
def LO (K : PySem.W.Frag) (B : Bs) (t : DO) : TO := fun σ H Q => ∃ ρ g Q0, At K B H σ ρ g ∧ t ρ g Q0 ∧ ∀ o g' H', Q0 o g' → Ext H g H' g' → Sim K H' g' → Q o H'
abbrev JO (X : Cx) (B : Bs) (e : Option Expr) (t : DO) : Prop := PO X e (LO X.K B t)
def dNoP : DO := fun _ g Q => Q none g
def dP (t : DE) : DO := fun ρ g Q => t ρ g fun d g1 => match d with
  | .int i => Q (some i) g1
  | _ => False
theorem po_imp {e : Option Expr} {T T' : TO} (h : PO X e T) (i : ∀ σ H Q, T' σ H Q → T σ H Q) : PO X e T' := ⟨fun pins s σ H Q I q => h.run pins s σ H Q I (i σ H Q q)⟩
theorem jo_none : JO X B none dNoP := po_imp po_none fun σ H Q ⟨ρ, g, Q0, a, h, p⟩ => p _ _ _ h Ext.refl a.sim
theorem jo_some {e : Expr} {t : DE} (h : JE X B e t) : JO X B (some e) (dP t) := po_imp (po_some h) fun σ H Q ⟨ρ, g, Q0, a, h, p⟩ => ⟨ρ, g, _, a, h, fun d g1 v H1 h1 e1 s1 r1 => by
  cases d <;> try exact h1.elim
  cases rel_int r1
  exact ⟨_, rfl, p _ _ _ h1 e1 s1⟩⟩
def cutD (xs : List D) (lo hi : Option Int) : List D := (xs.drop (HT.sIx xs.length 0 lo)).take (HT.sIx xs.length xs.length hi - HT.sIx xs.length 0 lo)
theorem rels_cut {K : PySem.W.Frag} {H : Hp} {ds : List D} {xs : List V} (r : Rels K H ds xs) (lo hi : Option Int) : Rels K H (cutD ds lo hi) (cutV xs lo hi) := by
  unfold cutD cutV
  rw [← r.length]
  exact (r.drop _).take _
theorem cutD_whole {xs : List D} {lo hi : Option Int} (h : HT.sIx xs.length 0 lo = 0 ∧ HT.sIx xs.length xs.length hi = xs.length) : cutD xs lo hi = xs := by
  unfold cutD
  rw [h.1, h.2, List.drop_zero, Nat.sub_zero, List.take_length]
def slD (x : D) (lo hi : Option Int) (g : G) (Q : D → G → Prop) : Prop := match x with
  | .str z => z.length ≤ sizeLine ∧ Q (.str (cutS z lo hi)) g
  | .tup ds => Q (.tup (cutD ds lo hi)) g
  | x => ∃ ds, lstOf g x = some ds ∧ ∀ p, g p = none → Q (.obj p) (gup g p (.lst (cutD ds lo hi)))
def dSl (te : DE) (tl th : DO) : DE := fun ρ g Q => te ρ g fun x g1 => tl ρ g1 fun l g2 => th ρ g2 fun u g3 => slD x l u g3 Q
theorem je_slice {e : Expr} {lo hi : Option Expr} {te : DE} {tl th : DO} {p2 : Pos} (he : JE X B e te) (hl : JO X B lo tl) (hu : JO X B hi th) : JE X B (.Subscript e (.Slice lo hi none p2) pos) (dSl te tl th) := by
  have R : SlR X (fun x lo hi H Q => rSlS x lo hi H Q ∨ rSlA X.K x lo hi H Q ∨ rSlL X.K x lo hi H Q) := SlR.or sl_str (SlR.or sl_tupA sl_list)
  refine pe_imp (pe_slice R he hl hu) fun σ H Q ⟨ρ, g, Q0, at_, h, p⟩ => ⟨ρ, g, _, at_, h, fun x g1 v H1 h1 e1 s1 r1 => ⟨ρ, g1, _, at_.go e1 s1, h1, fun l g2 H2 h2 e2 s2 => ⟨ρ, g2, _, at_.go (e1.trans e2) s2, h2, fun u g3 H3 h3 e3 s3 => ?_⟩⟩⟩
  have r3 := r1.ext s1 (e2.trans e3)
  have p3 := p.ext ((e1.trans e2).trans e3)
  unfold slD at h3
  split at h3
  · cases rel_str r3
    exact .inl ⟨_, rfl, h3.1, p3.now s3 h3.2 str_rel⟩
  · obtain ⟨a, xs, rfl, ha, rs⟩ := rel_tup r3
    refine .inr (.inl ⟨a, xs, rfl, SqT.of ha, fun w => ?_, fun _ q hq => p3.newT s3 (rels_cut rs l u) h3 hq⟩)
    rw [← rs.length] at w
    rw [cutD_whole w] at h3
    exact p3.now s3 h3 (rel_of_tup ha rs)
  · obtain ⟨ds, hd, h⟩ := h3
    obtain ⟨a, xs, rfl, hq, rs⟩ := lstOf_rel s3 hd r3
    exact .inr (.inr ⟨a, xs, rfl, hq, fun q hq => p3.newL s3 (rels_cut rs l u) (h q (s3.fresh hq)) hq⟩)
end
end L2.DL

/-! DL6: dicts, stores, operators in place. -/
namespace L2.DL
open PySem PySem.Spec PyProof.Rows

/-! ### dicts as lists of pairs -/
section
variable {κ : Type} [DecidableEq κ]
def valD : List (κ × D) → κ → Option D
  | [], _ => none
  | p :: r, k => if p.1 = k then some p.2 else valD r k
def putD (kvs : List (κ × D)) (k : κ) (v : D) : List (κ × D) :=
  if (kvs.any fun kv => decide (kv.1 = k)) = true then kvs.map (fun kv => if kv.1 = k then (kv.1, v) else kv) else kvs ++ [(k, v)]
variable {K : PySem.W.Frag} {H : Hp}
theorem rkv_nil {xs : List (κ × V)} (h : RelKV K H ([] : List (κ × D)) xs) : xs = [] := by unfold RelKV at h; exact h
theorem rkv_cons {p : κ × D} {ds : List (κ × D)} {xs : List (κ × V)} (h : RelKV K H (p :: ds) xs) : ∃ x r, xs = (p.1, x) :: r ∧ Rel K H p.2 x ∧ RelKV K H ds r := by unfold RelKV at h; exact h
theorem rkv_mk {k : κ} {d : D} {v : V} {ds : List (κ × D)} {xs : List (κ × V)} (h : Rel K H d v) (t : RelKV K H ds xs) : RelKV K H ((k, d) :: ds) ((k, v) :: xs) := by unfold RelKV; exact ⟨v, xs, rfl, h, t⟩
theorem rkv_append : ∀ {ds es : List (κ × D)} {xs ys : List (κ × V)}, RelKV K H ds xs → RelKV K H es ys → RelKV K H (ds ++ es) (xs ++ ys)
  | [], _, _, _, h, t => by rw [rkv_nil h]; exact t
  | (k, d) :: ds, _, _, _, h, t => by
    obtain ⟨x, r, rfl, h1, h2⟩ := rkv_cons h
    exact rkv_mk h1 (rkv_append h2 t)
theorem rkv_length : ∀ {ds : List (κ × D)} {xs : List (κ × V)}, RelKV K H ds xs → ds.length = xs.length
  | [], _, h => by rw [rkv_nil h]; rfl
  | (k, d) :: ds, _, h => by
    obtain ⟨x, r, rfl, h1, h2⟩ := rkv_cons h
    rw [List.length_cons, List.length_cons, rkv_length h2]
theorem rkv_any : ∀ {ds : List (κ × D)} {xs : List (κ × V)} (k : κ), RelKV K H ds xs → (ds.any fun kv => decide (kv.1 = k)) = xs.any fun kv => decide (kv.1 = k)
  | [], _, k, h => by rw [rkv_nil h]; rfl
  | (j, d) :: ds, _, k, h => by
    obtain ⟨x, r, rfl, h1, h2⟩ := rkv_cons h
    rw [List.any_cons, List.any_cons, rkv_any k h2]
theorem rkv_map {k : κ} {e : D} {w : V} (q : Rel K H e w) : ∀ {ds : List (κ × D)} {xs : List (κ × V)}, RelKV K H ds xs → RelKV K H (ds.map fun kv => if kv.1 = k then (kv.1, e) else kv) (xs.map fun kv => if kv.1 = k then (kv.1, w) else kv)
  | [], _, h => by rw [rkv_nil h]; unfold RelKV; rfl
  | (j, d) :: ds, _, h => by
    obtain ⟨x, r, rfl, h1, h2⟩ := rkv_cons h
    rw [List.map_cons, List.map_cons]
    by_cases c : j = k
    · rw [if_pos c, if_pos c]; exact rkv_mk q (rkv_map q h2)
    · rw [if_neg c, if_neg c]; exact rkv_mk h1 (rkv_map q h2)
theorem rkv_put {ds : List (κ × D)} {xs : List (κ × V)} {k : κ} {e : D} {w : V} (h : RelKV K H ds xs) (q : Rel K H e w) : RelKV K H (putD ds k e) (putK xs k w) := by
  unfold putD putK
  rw [rkv_any k h]
  by_cases c : (xs.any fun kv => decide (kv.1 = k)) = true
  · rw [if_pos c, if_pos c]; exact rkv_map q h
  · rw [if_neg c, if_neg c]; exact rkv_append h (rkv_mk q (by unfold RelKV; rfl))
theorem rkv_val : ∀ {ds : List (κ × D)} {xs : List (κ × V)} (k : κ), RelKV K H ds xs → (∃ d v, valD ds k = some d ∧ valV xs k = some v ∧ Rel K H d v) ∨ (valD ds k = none ∧ valV xs k = none)
  | [], _, k, h => by rw [rkv_nil h]; exact .inr ⟨rfl, rfl⟩
  | (j, d) :: ds, _, k, h => by
    obtain ⟨x, r, rfl, h1, h2⟩ := rkv_cons h
    by_cases c : j = k
    · exact .inl ⟨d, x, by unfold valD; rw [if_pos c], valV_pos c, h1⟩
    · rw [valV_neg c]
      unfold valD
      rw [if_neg c]
      exact rkv_val k h2
end
def keyOf : D → Option Key
  | .int i => some (.inl i)
  | .str s => some (.inr s)
  | _ => none
def keysOf : List D → Option (List Key)
  | [] => some []
  | d :: ds => match keyOf d, keysOf ds with
    | some k, some ks => some (k :: ks)
    | _, _ => none
theorem keyOf_rel {K : PySem.W.Frag} {H : Hp} {d : D} {k : Key} {v : V} (h : keyOf d = some k) (r : Rel K H d v) : v = kV k := by
  cases d <;> simp [keyOf] at h <;> subst h
  · exact rel_int r
  · exact rel_str r
theorem keysOf_rel {K : PySem.W.Frag} {H : Hp} : ∀ {ds : List D} {ks : List Key} {xs : List V}, keysOf ds = some ks → Rels K H ds xs → xs = ks.map kV
  | [], ks, xs, h, r => by unfold keysOf at h; cases h; unfold Rels at r; exact r
  | d :: ds, ks, xs, h, r => by
    unfold keysOf at h
    split at h
    · rename_i k ks' e1 e2
      cases h
      unfold Rels at r
      obtain ⟨x, ys, rfl, r1, r2⟩ := r
      rw [keyOf_rel e1 r1, keysOf_rel e2 r2]
      rfl
    · cases h

/-! ### stores -/
abbrev DSt := D → D → D → G → (G → Prop) → Prop
def LSt (K : PySem.W.Frag) (t : DSt) : TSet := fun o i v H Q => ∃ od id vd g Q0, Rel K H od o ∧ Rel K H id i ∧ Rel K H vd v ∧ Sim K H g ∧ t od id vd g Q0 ∧ ∀ g' H', Q0 g' → Ext H g H' g' → Sim K H' g' → Q H'
theorem pset_imp {X : Cx} {t t' : TSet} (h : PSet X t) (i : ∀ o i v H Q, t' o i v H Q → t o i v H Q) : PSet X t' := fun pins s σ H o j v ov iv u Q I r1 r2 r3 q => h pins s σ H o j v ov iv u Q I r1 r2 r3 (i _ _ _ _ _ q)
theorem PSet.or {X : Cx} {t t' : TSet} (h : PSet X t) (h' : PSet X t') : PSet X (fun o i v H Q => t o i v H Q ∨ t' o i v H Q) := fun pins s σ H o j v ov iv u Q I r1 r2 r3 q => q.elim (h pins s σ H o j v ov iv u Q I r1 r2 r3) (h' pins s σ H o j v ov iv u Q I r1 r2 r3)
/-- o[i] = v: a list, a dict -/
def stD : DSt := fun o i v g Q => match o with
  | .obj a => match g a with
    | some (.lst ds) => ∃ k j, i = .int k ∧ ixN ds.length k = some j ∧ Q (gup g a (.lst (ds.set j v)))
    | some (.dK kvs) => ∃ k, keyOf i = some k ∧ kvs.length < sizeLine ∧ Q (gup g a (.dK (putD kvs k v)))
    | some (.dT kvs) => ∃ es k, i = .tup es ∧ keysOf es = some k ∧ kvs.length < sizeLine ∧ Q (gup g a (.dT (putD kvs k v)))
    | _ => False
  | _ => False
section
variable {X : Cx} {B : Bs} {pos : Pos}
theorem ps_st (hu : X.A.units + 1 < cLine) : PSet X (LSt X.K stD) := pset_imp (PSet.or set_list (set_dict hu)) fun o i v H Q ⟨od, id, vd, g, Q0, r1, r2, r3, S, h, P⟩ => by
  cases od <;> try exact h.elim
  rename_i a
  cases rel_obj r1
  simp only [stD] at h
  split at h
  · rename_i ds e
    obtain ⟨k, j, rfl, hj, h⟩ := h
    cases rel_int r2
    obtain ⟨xs, hx, rs⟩ := S.lst e
    exact .inl ⟨a, xs, k, j, rfl, rfl, hx, by rw [← rs.length]; exact hj, P _ _ h (Ext.wrote e) (S.wrote e ⟨_, rfl, rs.set j r3⟩)⟩
  · rename_i kvs e
    obtain ⟨k, hk, hl, h⟩ := h
    cases keyOf_rel hk r2
    obtain ⟨u, hu', xs, rfl, rs⟩ := S a _ e
    exact .inr ⟨a, _, rfl, DPut.k hu' (by rw [← rkv_length rs]; exact hl), P _ _ h (Ext.wrote e) (S.wrote e ⟨_, rfl, rkv_put rs r3⟩)⟩
  · rename_i kvs e
    obtain ⟨es, k, rfl, hk, hl, h⟩ := h
    obtain ⟨b, ys, rfl, hb, rb⟩ := rel_tup r2
    cases keysOf_rel hk rb
    obtain ⟨u, hu', xs, rfl, rs⟩ := S a _ e
    exact .inr ⟨a, _, rfl, DPut.t hu' hb (by rw [← rkv_length rs]; exact hl), P _ _ h (Ext.wrote e) (S.wrote e ⟨_, rfl, rkv_put rs r3⟩)⟩
  · exact h.elim
def dStore (te to ti : DE) (t : DSt) : DS := fun d ρ g => te ρ g fun v g1 => to ρ g1 fun o g2 => ti ρ g2 fun i g3 => t o i v g3 fun g4 => d.nx ρ g4
theorem js_store {o i e : Expr} {te to ti : DE} {t : DSt} {tpos : Pos} (ho : JE X B o to) (hi : JE X B i ti) (he : JE X B e te) (hp : PSet X (LSt X.K t))
    (ha : ∀ v, assign (.Subscript o i tpos) X.env v = (do
      let ov ← holding [v] (eval o X.env)
      let iv ← holding [v, ov] (eval i X.env)
      standAt tpos
      holding [v, ov, iv] (setItem ov iv v)
      release [v, ov, iv] []) := by intro _; rfl)
    (hs : swapsWithSole [.Subscript o i tpos] e pos.line X.env = pure false := by rfl) (hw : swappedStores [.Subscript o i tpos] e X.env = pure none := by rfl)
    (h1 : (assignEach [.Subscript o i tpos] X.env).map (·.2) = [assign (.Subscript o i tpos) X.env] := by rfl) : JS X B (.Assign [.Subscript o i tpos] e pos) (dStore te to ti t) := by
  refine ps_imp (ps_asg he (pg_sub ho hi hp ha) hs hw h1) fun D σ H ⟨ρ, g, d, at_, h, p⟩ => ⟨ρ, g, _, at_, h, fun vd g1 v H1 h1 e1 s1 r1 => ?_⟩
  refine ⟨ρ, g1, _, at_.go e1 s1, h1, fun od g2 ov H2 h2 e2 s2 r2 => ⟨ρ, g2, _, at_.go (e1.trans e2) s2, h2, fun id g3 iv H3 h3 e3 s3 r3 => ?_⟩⟩
  exact ⟨od, id, vd, g3, _, r2.ext s2 e3, r3, r1.ext s1 (e2.trans e3), s3, h3, fun g' H' q e' s' => p.nx _ _ _ _ q (((e1.trans e2).trans e3).trans e') s' (at_.env.ext at_.sim (((e1.trans e2).trans e3).trans e'))⟩

/-! ### in place -/
def ipI' : D2 := fun x y g Q => match x, y with
  | .int i, .int j => Q (.int (i + j)) g
  | _, _ => False
def ipAdd : D2 := fun x y g Q => match x, y with
  | .int i, .int j => Q (.int (i + j)) g
  | _, _ => False
def ipSub : D2 := fun x y g Q => match x, y with
  | .int i, .int j => Q (.int (i - j)) g
  | _, _ => False
abbrev IpJ (X : Cx) (op : Operator) (r : D2) : Prop := PIp X op (LR2 X.K r)
theorem ip_imp {op : Operator} {t t' : TIp} (h : PIp X op t) (i : ∀ x y H Q, t' x y H Q → t x y H Q) : PIp X op t' := fun pins s σ H x y v u Q I rx ry q => h pins s σ H x y v u Q I rx ry (i x y H Q q)
theorem ij_add : IpJ X .Add ipAdd := ip_imp ip_add fun x y H Q ⟨dx, dy, g, Q0, rx, ry, S, h, P⟩ => by
  cases dx <;> cases dy <;> try exact h.elim
  cases rel_int rx; cases rel_int ry
  exact ⟨_, _, rfl, rfl, P.now S h int_rel⟩
theorem ij_sub : IpJ X .Sub ipSub := ip_imp ip_sub fun x y H Q ⟨dx, dy, g, Q0, rx, ry, S, h, P⟩ => by
  cases dx <;> cases dy <;> try exact h.elim
  cases rel_int rx; cases rel_int ry
  exact ⟨_, _, rfl, rfl, P.now S h int_rel⟩
/-- name op= e -/
def dAug (i : Nat) (te : DE) (r : D2) : DS := fun d ρ g => match ρ[i]? with
  | some (some x) => te ρ g fun y g1 => r x y g1 fun z g2 => d.nx (ρ.set i (some z)) g2
  | _ => False
theorem js_aug {i : Nat} {x : Str} {e : Expr} {te : DE} {op : Operator} {r : D2} {pos' : Pos} (hN : X.N.Nodup) (hi : X.N[i]? = some x) (hx : Loc X.env.scope x) (he : JE X B e te) (ho : IpJ X op r) (hf : X.fn x = true ∨ X.env.scope.names.lookup x = some .local := by first | exact .inl rfl | exact .inr rfl | assumption) :
    JS X B (.AugAssign (.Name x pos') op e pos) (dAug i te r) := by
  refine ps_imp (ps_aug hN hi hx he ho hf) fun D σ H ⟨ρ, g, d, at_, h, p⟩ => ?_
  unfold dAug at h
  split at h
  · rename_i xd ex
    obtain ⟨v, hv, rv⟩ := at_.env.2 i xd ex
    refine ⟨v, hv, ρ, g, _, at_, h, fun yd g1 y H1 h1 e1 s1 r1 => ⟨xd, yd, g1, _, rv.ext at_.sim e1, r1, s1, h1, fun zd g2 z H2 h2 e2 s2 r2 => ?_⟩⟩
    exact p.nx _ _ _ _ h2 (e1.trans e2) s2 ((at_.env.ext at_.sim (e1.trans e2)).set r2 i)
  · exact h.elim
/-- o[i], by values: a list -/
def gtD : D2 := fun x y g Q => match x, y with
  | .obj a, .int i => match g a with
    | some (.lst ds) => match atI ds i with
      | some d => Q d g
      | none => False
    | _ => False
  | _, _ => False
theorem pg_get : PGet X (LR2 X.K gtD) := by
  intro pins s σ H o i ov iv Q I r1 r2 h
  obtain ⟨dx, dy, g, Q0, rx, ry, S, h, P⟩ := h
  cases dx <;> cases dy <;> try exact h.elim
  rename_i a k
  cases rel_obj rx; cases rel_int ry
  simp only [gtD] at h
  split at h
  · rename_i ds e
    split at h
    · rename_i d hd
      obtain ⟨xs, hx, rs⟩ := S.lst e
      obtain ⟨w, e2, r⟩ := rels_at rs hd
      cases r1
      obtain ⟨t, rfl⟩ := r2
      obtain ⟨its, rv, pl, hz⟩ := I.list (SqL.of hx)
      obtain ⟨j, h1, h2, h3, h4, h5⟩ := atI_get e2
      obtain ⟨u, eu, ru⟩ := rv.get h2
      have hl := rv.length
      have hn := line63
      have fin : EP X pins σ Q u s := ⟨w, H, I, ru, P.now S h r⟩
      by_cases h0 : 0 ≤ k
      · have hj : k.toNat = j := by
          rw [seqIndex_of h0 h5] at h1
          exact Option.some.inj h1
        exact wpAny_getItem_list pl.isList (by omega) (by omega) (by rw [hj]; simpa using eu) fin
      · have hj : (k + (its.toArray.size : Int)).toNat = j := by
          have e3 : its.toArray.size = xs.length := by rw [List.size_toArray, hl]
          rw [seqIndex_neg (by omega) h4] at h1
          rw [e3]
          exact Option.some.inj h1
        exact wpAny_getItem_list_neg pl.isList (by omega) (by rw [List.size_toArray, ← hl]; omega) (by omega) (by rw [hj]; simpa using eu) fin
    · exact h.elim
  · exact h.elim
/-- o[i] op= e of a list -/
def dAugS (to ti te : DE) (r : D2) : DS := fun d ρ g => to ρ g fun o g1 => ti ρ g1 fun i g2 => gtD o i g2 fun x g3 => te ρ g3 fun y g4 => r x y g4 fun z g5 => stD o i z g5 fun g6 => d.nx ρ g6
theorem js_augS {o i e : Expr} {to ti te : DE} {r : D2} {op : Operator} {tpos : Pos} (hu : X.A.units + 1 < cLine) (ho : JE X B o to) (hi : JE X B i ti) (he : JE X B e te) (hp : IpJ X op r)
    (ha : ∀ ov iv new, augStore i ov iv new = (do holding [new, ov, iv] (setItem ov iv new); release [new, ov, iv] []; pure .next) := by intros; rfl) : JS X B (.AugAssign (.Subscript o i tpos) op e pos) (dAugS to ti te r) := by
  refine ps_imp (ps_augS ho hi pg_get he hp (ps_st hu) ha) fun D σ H ⟨ρ, g, d, at_, h, p⟩ => ⟨ρ, g, _, at_, h, fun od g1 ov H1 h1 e1 s1 r1 => ?_⟩
  refine ⟨ρ, g1, _, at_.go e1 s1, h1, fun id g2 iv H2 h2 e2 s2 r2 => ⟨od, id, g2, _, r1.ext s1 e2, r2, s2, h2, fun xd g3 xv H3 h3 e3 s3 r3 => ?_⟩⟩
  refine ⟨ρ, g3, _, at_.go ((e1.trans e2).trans e3) s3, h3, fun yd g4 yv H4 h4 e4 s4 r4 => ⟨xd, yd, g4, _, r3.ext s3 e4, r4, s4, h4, fun zd g5 zv H5 h5 e5 s5 r5 => ?_⟩⟩
  have E := (((e1.trans e2).trans e3).trans e4).trans e5
  exact ⟨od, id, zd, g5, _, r1.ext s1 (((e2.trans e3).trans e4).trans e5), r2.ext s2 ((e3.trans e4).trans e5), r5, s5, h5, fun g' H' q e' s' => p.nx _ _ _ _ q (E.trans e') s' (at_.env.ext at_.sim (E.trans e'))⟩
end
end L2.DL

/-! DL7: sorted of lists, tuples, dicts. -/
namespace L2.DL
open PySem PySem.Spec PyProof.Rows

theorem sorted_via {prog : Program} {w : World} {A : Around} {E : Value → Shared → Prop} {s : Shared} {v : Value} {Q : Value → Shared → Prop}
    (h : ∀ (R : List Value → Shared → Prop), (∀ (us : List Value) (h' : Heap) (tk : Nat), (∀ b o, s.heap.get? b = some o → h'.get? b = some o) → us.length ≤ sizeLine →
        wpAny (model prog w) A.in1 (call (.builtin "list.sort") [.ref h'.objs.size]) (fun _ s' => Q (.ref h'.objs.size) s') E { s with heap := h'.push { cls := .type "list", data := .seq us.toArray }, toks := tk } → R us { s with heap := h', toks := tk }) →
      wpAny (model prog w) A.in1 (collect v) R E s) : wpAny (model prog w) A (call (.builtin "sorted") [v]) Q E s := by
  refine Calls.call_function_entry PyProof.Rows.kind_sorted PyProof.Rows.plain_sorted PyProof.Rows.entry_sorted (PyProof.Rows.args_sorted1 _) ?_
  unfold Builtin.«sorted»
  refine wpAny_bind (m := checkCount "sorted" 1 1 _) (wpAny_pure ?_)
  refine wpAny_bind (h _ fun us h' tk hk hl hg => ?_)
  refine wpAny_bind (wpAny_newList ?_ hl)
  refine wpAny_bind (wpAny_holding (wpAny_mono hg (fun _ s' x => ?_) fun _ _ e => e))
  exact wpAny_pure ⟨_, rfl, x⟩

/-- the data of a value that is no object -/
def encD (d : D) : PyData := (pyD d).getD .none
def leD : D → D → Bool := PySem.W.dataLe false encD
def sortD (ds : List D) : List D := ds.mergeSort leD
theorem sortD_length (ds : List D) : (sortD ds).length = ds.length := List.length_mergeSort ds
theorem sortD_perm (ds : List D) : (sortD ds).Perm ds := List.mergeSort_perm ds _
/-- what sorted takes -/
structure SortOk (ds : List D) : Prop where
  py : ∀ d ∈ ds, (pyD d).isSome = true
  al : PySem.W.AllAlike (ds.map encD)
  so : PySem.W.Sortable (ds.map encD)
  dp : ∀ d ∈ ds, (encD d).depth ≤ 8
def RD (K : PySem.W.Frag) (H : Hp) (u : Value) (d : D) : Prop := ∃ v, RelV v u ∧ Rel K H d v
theorem each_of {K : PySem.W.Frag} {H : Hp} : ∀ {ds : List D} {xs : List V} {us : List Value}, Rels K H ds xs → Vals xs us → PySem.W.EachIs (RD K H) us ds
  | [], xs, us, r, v => by unfold Rels at r; subst r; cases v; exact .nil
  | d :: ds, xs, us, r, v => by
    unfold Rels at r
    obtain ⟨x, ys, rfl, r1, r2⟩ := r
    cases v with
    | cons v1 v2 => exact .cons ⟨x, v1, r1⟩ (each_of r2 v2)
theorem of_each {K : PySem.W.Frag} {H : Hp} : ∀ {ds : List D} {us : List Value}, PySem.W.EachIs (RD K H) us ds → ∃ xs, Rels K H ds xs ∧ Vals xs us
  | _, _, .nil => ⟨[], Rels.nil, .nil⟩
  | _, _, .cons ⟨x, v1, r1⟩ t => by
    obtain ⟨xs, r2, v2⟩ := of_each t
    exact ⟨x :: xs, Rels.cons r1 r2, .cons v1 v2⟩
section
variable {X : Cx} {pins : List (Addr × Obj)} {σ : St} {H : Hp} {s : Shared}
mutual
/-- a value without objects reads as its data, off no list -/
theorem reads_nil {X : Cx} {pins : List (Addr × Obj)} {σ : St} {H : Hp} {s : Shared} (I : Inv X pins σ H s) : ∀ (d : D) (v : V) (u : Value) (p : PyData), Rel X.K H d v → RelV v u → pyD d = some p → Reads s.heap u p []
  | .non, v, u, p, r, q, e => by cases rel_non r; cases q; unfold pyD at e; cases e; exact Reads.none
  | .bl b, v, u, p, r, q, e => by cases rel_bl r; cases q; unfold pyD at e; cases e; exact Reads.bool b
  | .int i, v, u, p, r, q, e => by cases rel_int r; obtain ⟨t, rfl⟩ := q; unfold pyD at e; cases e; exact Reads.int i t
  | .str x, v, u, p, r, q, e => by cases rel_str r; obtain ⟨t, rfl⟩ := q; unfold pyD at e; cases e; exact Reads.str x t
  | .obj a, v, u, p, r, q, e => by unfold pyD at e; cases e
  | .scr a, v, u, p, r, q, e => by unfold pyD at e; cases e
  | .tup ds, v, u, p, r, q, e => by
    obtain ⟨a, xs, rfl, ha, rs⟩ := rel_tup r
    cases q
    unfold pyD at e
    split at e
    · rename_i ps eq
      cases e
      obtain ⟨its, rv, ⟨o, ho, hc, n, hd⟩, hz⟩ := I.tuple (SqT.of ha)
      exact Reads.tuple ho hc hd (readsAll_nil I ds xs its ps rs rv eq)
    · cases e
  | .fin ds, v, u, p, r, q, e => by
    obtain ⟨a, xs, ob, rfl, ha, _, rs⟩ := rel_fin r
    cases q
    unfold pyD at e
    split at e
    · rename_i ps eq
      cases e
      obtain ⟨its, rv, ⟨o, ho, hc, n, hd⟩, hz⟩ := I.tuple (.inl (.inr ⟨ob, ha⟩))
      exact Reads.tuple ho hc hd (readsAll_nil I ds xs its ps rs rv eq)
    · cases e
theorem readsAll_nil {X : Cx} {pins : List (Addr × Obj)} {σ : St} {H : Hp} {s : Shared} (I : Inv X pins σ H s) : ∀ (ds : List D) (xs : List V) (us : List Value) (ps : List PyData), Rels X.K H ds xs → Vals xs us → pyDs ds = some ps → ReadsAll s.heap us ps []
  | [], xs, us, ps, r, q, e => by unfold pyDs at e; cases e; unfold Rels at r; subst r; cases q; exact ReadsAll.nil
  | d :: ds, xs, us, ps, r, q, e => by
    unfold Rels at r
    obtain ⟨x, ys, rfl, r1, r2⟩ := r
    cases q with
    | cons q1 q2 =>
      unfold pyDs at e
      split at e
      · rename_i p qs e1 e2
        cases e
        exact ReadsAll.cons (as := []) (bs := []) (reads_nil I d x _ p r1 q1 e1) (readsAll_nil I ds ys _ qs r2 q2 e2)
      · cases e
end
theorem EachIs.mem' {α β : Type} {R : α → β → Prop} : ∀ {as : List α} {bs : List β}, PySem.W.EachIs R as bs → PySem.W.EachIs (fun a b => R a b ∧ b ∈ bs) as bs
  | _, _, .nil => .nil
  | _, _, .cons h t => .cons ⟨h, List.mem_cons_self⟩ ((EachIs.mem' t).mono fun a b q => ⟨q.1, List.mem_cons_of_mem _ q.2⟩)
/-- the list that was just made is sorted -/
theorem sort_new {ds : List D} {us : List Value} {h' : Heap} {tk : Nat} {Q : Value → Shared → Prop} (I : Inv X pins σ H { s with heap := h', toks := tk }) (hu : X.A.units + 64 < cLine) (ok : SortOk ds) (er : PySem.W.EachIs (RD X.K H) us ds) (hl : ds.length ≤ sizeLine)
    (h : ∀ (s' : Shared) (xs : List V), Inv X pins σ (upd H h'.objs.size (.lst xs)) s' → Rels X.K H (sortD ds) xs → H h'.objs.size = none → Q (.ref h'.objs.size) s') :
    wpAny (model X.prog X.w) X.A.in1 (call (.builtin "list.sort") [.ref h'.objs.size]) (fun _ s' => Q (.ref h'.objs.size) s') X.xe { s with heap := h'.push { cls := .type "list", data := .seq us.toArray }, toks := tk } := by
  have hn : H h'.objs.size = none := I.hok.fresh (Nat.le_refl _)
  have ho : (h'.push (seqObj "list" us.toArray 0)).get? h'.objs.size = some (seqObj "list" us.toArray 0) := Heap.get?_push_size _ rfl
  have e2 : PySem.W.EachIs (fun v b => ∃ as, Reads (h'.push (seqObj "list" us.toArray 0)) v (encD b) as ∧ h'.objs.size ∉ as) us ds := by
    refine (EachIs.mem' er).mono fun u d ⟨⟨v, rv, r⟩, hm⟩ => ?_
    have hp := ok.py d hm
    cases e : pyD d with
    | none => rw [e] at hp; cases hp
    | some p =>
      have ra := reads_nil I d v u p r rv e
      have ee : encD d = p := by unfold encD; rw [e]; rfl
      rw [ee]
      exact ⟨[], PyProof.Rows.Reads.keeps (fun _ _ q => Heap.get?_push_of_some _ q) ra, fun hmem => nomatch hmem⟩
  refine PySem.W.list_sort_data (enc := encD) (R := RD X.K H) ho er e2 ok.al ok.so hl (fun b hb => ?_) fun out hlen hout => ?_
  · have := ok.dp b hb
    have hin : X.A.in1.units = X.A.units + 1 := rfl
    omega
  · obtain ⟨xs, r2, v2⟩ := of_each hout
    obtain ⟨ep, hat⟩ := PyProof.Rows.sortedHeap_at (out := List.toArray out) ho
    have hlx : xs.length ≤ sizeLine := by rw [← r2.length, List.length_mergeSort]; exact hl
    exact h _ xs (I.laid (t' := tk) (fun b o q => by
        have hb := Heap.lt_size q
        rw [PyProof.Rows.sortedHeap_old (Nat.ne_of_lt hb) (by rw [Heap.size_push]; exact Nat.lt_succ_of_lt hb)]
        exact Heap.get?_push_of_some _ q) (Nat.le_refl _) ⟨hlx, out, ep, v2, hat⟩) r2 hn
/-! ### the sources -/
def keyD : Key → D
  | .inl i => .int i
  | .inr s => .str s
/-- what a list, a tuple, a dict gives when it is walked -/
def srcD (g : G) : D → Option (List D)
  | .obj a => match g a with
    | some (.lst ds) => some ds
    | some (.dK kvs) => some (kvs.map fun p => keyD p.1)
    | some (.dT kvs) => some (kvs.map fun p => .tup (p.1.map keyD))
    | _ => none
  | .tup ds => some ds
  | .fin ds => some ds
  | .scr ns => some (ns.map D.int)
  | _ => none
theorem keyD_rel {K : PySem.W.Frag} {H : Hp} (k : Key) : Rel K H (keyD k) (kV k) := by
  cases k with
  | inl i => exact int_rel
  | inr s => exact str_rel
theorem keysD_rel {K : PySem.W.Frag} {H : Hp} : ∀ ks : List Key, Rels K H (ks.map keyD) (ks.map kV)
  | [] => Rels.nil
  | k :: ks => Rels.cons (keyD_rel k) (keysD_rel ks)
theorem rkv_keys {κ : Type} {K : PySem.W.Frag} {H : Hp} : ∀ {ds : List (κ × D)} {xs : List (κ × V)}, RelKV K H ds xs → ds.map (·.1) = xs.map (·.1)
  | [], xs, h => by unfold RelKV at h; subst h; rfl
  | p :: ds, xs, h => by
    unfold RelKV at h
    obtain ⟨x, r, rfl, _, h2⟩ := h
    rw [List.map_cons, List.map_cons, rkv_keys h2]
/-- what stands where -/
theorem each_at {R : Value → D → Prop} : ∀ {us : List Value} {ds : List D}, us.length = ds.length → (∀ (j : Nat) (u : Value) (d : D), us[j]? = some u → ds[j]? = some d → R u d) → PySem.W.EachIs R us ds
  | [], [], _, _ => .nil
  | u :: us, d :: ds, hl, h => .cons (h 0 u d rfl rfl) (each_at (by simpa using hl) fun j v e h1 h2 => h (j + 1) v e (by simpa using h1) (by simpa using h2))
theorem relV_of_key {k : Key} {v : Value} (h : keyIs k v = true) : RelV (kV k) v := by
  rcases keyIs_shape h with ⟨i, t, rfl, rfl⟩ | ⟨x, t, rfl, rfl⟩
  · exact ⟨t, rfl⟩
  · exact ⟨t, rfl⟩
/-- a list, a tuple or a dict is collected -/
theorem collect_src {g : G} {d : D} {v : V} {u : Value} {ds : List D} {R : List Value → Shared → Prop} (hh : X.A.handled = none) (I : Inv X pins σ H s) (S : Sim X.K H g) (hs : srcD g d = some ds) (r : Rel X.K H d v) (rv : RelV v u)
    (h : ∀ (us : List Value) (h' : Heap) (tk : Nat), (∀ b o, s.heap.get? b = some o → h'.get? b = some o) → PySem.W.EachIs (RD X.K H) us ds → ds.length ≤ sizeLine → R us { s with heap := h', toks := tk }) : wpAny (model X.prog X.w) X.A.in1 (collect u) R X.xe s := by
  have seq : ∀ {a : Addr} {xs : List V}, (SqL X.K H a xs ∨ SqT X.K H a xs) → Rels X.K H ds xs → u = .ref a → wpAny (model X.prog X.w) X.A.in1 (collect u) R X.xe s := by
    intro a xs hq rs e
    subst e
    rcases hq with hq | hq
    · obtain ⟨its, q, pl, hz⟩ := I.list hq
      obtain ⟨o, ho, hc, n, hd⟩ := pl.isList
      refine wpAny_collect_seq a (.inl rfl) ho hc hd (fun h' k => ?_) (by rw [List.size_toArray, ← q.length]; exact hz)
      exact h _ h' s.toks k (by simpa using each_of rs q) (by rw [rs.length]; exact hz)
    · obtain ⟨its, q, ⟨o, ho, hc, n, hd⟩, hz⟩ := I.tuple hq
      refine wpAny_collect_seq a (.inr rfl) ho hc hd (fun h' k => ?_) (by rw [List.size_toArray, ← q.length]; exact hz)
      exact h _ h' s.toks k (by simpa using each_of rs q) (by rw [rs.length]; exact hz)
  cases d with
  | tup es =>
    cases hs
    obtain ⟨a, xs, rfl, ha, rs⟩ := rel_tup r
    exact seq (.inr (SqT.of ha)) rs rv
  | fin es =>
    cases hs
    obtain ⟨a, xs, o, rfl, ha, _, rs⟩ := rel_fin r
    exact seq (.inr (.inl (.inr ⟨o, ha⟩))) rs rv
  | scr ns =>
    cases hs
    obtain ⟨a, rfl, ha⟩ := rel_scr r
    exact seq (.inl ha.seq) (rels_ints ns) rv
  | obj a =>
    cases rel_obj r
    cases rv
    simp only [srcD] at hs
    split at hs
    · rename_i es e
      cases hs
      obtain ⟨xs, hx, rs⟩ := S.lst e
      exact seq (.inl (SqL.of hx)) rs rfl
    · rename_i kvs e
      cases hs
      obtain ⟨w, hw, xs, rfl, rs⟩ := S a _ e
      obtain ⟨z, lo, vs, rel, dd⟩ := dk_of I.hok hw
      obtain ⟨ep, hat⟩ := dd.dictAt
      have hk : kvs.map (·.1) = vs.map (·.1) := (rkv_keys rs).trans rel.keys
      have hl : vs.length = kvs.length := by simpa using (congrArg List.length hk).symm
      have hz : vs.length ≤ sizeLine := by rw [hl, rkv_length rs]; exact z
      refine PySem.W.kdu_collect (A := X.A.in1) (PySem.W.kdl_dict (knd := mixKind X.prog X.w) (kvs := vs) (ep := ep) lo) hh hat hz fun h' tk acc k hacc => ?_
      refine h _ h' tk k (each_at (by rw [Array.length_toList, hacc.1, hl, List.length_map]) fun j u d e1 e2 => ?_) (by rw [List.length_map, ← hl]; exact hz)
      obtain ⟨kk, x, e3, e4⟩ := hacc.2 j u (by rw [← Array.getElem?_toList]; exact e1)
      have e5 : (vs.map (·.1))[j]? = some kk := by rw [List.getElem?_map, e3]; rfl
      rw [← hk, List.getElem?_map] at e5
      rw [List.getElem?_map] at e2
      cases e6 : kvs[j]? with
      | none => rw [e6] at e5; cases e5
      | some p =>
        rw [e6] at e5 e2
        have e7 : p.1 = kk := Option.some.inj e5
        have e8 : keyD p.1 = d := Option.some.inj e2
        rw [← e8, e7]
        exact ⟨kV kk, relV_of_key e4, keyD_rel kk⟩
    · rename_i kvs e
      cases hs
      obtain ⟨w, hw, xs, rfl, rs⟩ := S a _ e
      obtain ⟨z, lo, vs, rel, o, es, ep, ho, hx, hd, he, hnd⟩ := (show ObjOk X.prog X.w H s.heap a (.dT xs) from I.hok a _ hw)
      have hl : es.size = kvs.length := by
        have h1 := congrArg List.length he
        rw [Array.length_toList, List.length_map] at h1
        rw [h1, rkv_length rs]
        exact (Paired.length rel).symm
      have hz : es.size ≤ sizeLine := by rw [hl, rkv_length rs]; exact z
      refine PySem.W.kdu_collect (A := X.A.in1) (kdl_raw lo hx hd) hh ho hz fun h' tk acc k hacc => ?_
      refine h _ h' tk k (each_at (by rw [Array.length_toList, hacc.1, hl, List.length_map]) fun j u d e1 e2 => ?_) (by rw [List.length_map, ← hl]; exact hz)
      obtain ⟨en, e3, e4⟩ := hacc.2 j u (by rw [← Array.getElem?_toList]; exact e1)
      rw [← Array.getElem?_toList, he, List.getElem?_map] at e3
      cases e6 : vs[j]? with
      | none => rw [e6] at e3; cases e3
      | some p =>
        rw [e6] at e3
        have e7 := Option.some.inj e3
        have hlen : xs.length = vs.length := Paired.length rel
        have hj : j < vs.length := (List.getElem?_eq_some_iff.mp e6).1
        have e8 : xs[j]? = some xs[j] := List.getElem?_eq_getElem (by omega)
        obtain ⟨q, e9, e10, e11, _⟩ := paired_get rel e8
        rw [e6] at e9
        have e12 := Option.some.inj e9
        subst e12
        have hk : kvs.map (·.1) = xs.map (·.1) := rkv_keys rs
        have e13 : (xs.map (·.1))[j]? = some (xs[j]).1 := by rw [List.getElem?_map, e8]; rfl
        rw [← hk, List.getElem?_map] at e13
        rw [List.getElem?_map] at e2
        cases e14 : kvs[j]? with
        | none => rw [e14] at e13; cases e13
        | some pk =>
          rw [e14] at e13 e2
          have e15 : pk.1 = (xs[j]).1 := Option.some.inj e13
          have e16 : D.tup (pk.1.map keyD) = d := Option.some.inj e2
          rw [← e16, e15, e4, ← e7]
          exact ⟨.ref p.2.1, rfl, rel_of_tup e11 (keysD_rel _)⟩
    · cases hs
  | _ => cases hs
end
end L2.DL

/-! DL8: calls of built-ins, methods. -/
namespace L2.DLx
open PySem
open AutoSeq1
open MeetsSeq MeetsSeq2 MeetsSeq3 SeqRoads2
theorem list_extend_tup (l : Addr) (items : Array Value) (n : Nat) (b : Addr) (items2 : Array Value) (n2 : Nat) (dd : Option Addr) (sl : Array (Option Value)) (hs0 : ¬(!items.isEmpty && Builtin.List.listTooLong (items.size + items2.size)) = true) (hs1 : items.size ≤ sizeLine) (hs2 : items.size + items2.size ≤ sizeLine + 1) :
    Meets (Builtin.«list.extend» ⟨[.ref l, .ref b], []⟩) (fun _ R s => s.heap.get? l = some { cls := .type "list", dict := none, data := .seq items n, slots := #[] } ∧ s.heap.get? b = some { cls := .type "tuple", dict := dd, data := .seq items2 n2, slots := sl } ∧ R (.ok (.ret Value.none)) { s with heap := s.heap.update l (Obj.mapSeq fun x => x ++ items2), toks := s.toks }) :=
  .of_wp fun prog w A R s h => by
    obtain ⟨hp, g, d, tk, os⟩ := s; obtain ⟨hl, hb, h⟩ := h; have f1 := idx_int; have f2 := sub_tuple_tuple; have f3 := sub_list_list; have f4 := sub_tuple_list; have f5 := sub_list_tuple
    have hz' : (items ++ items2).size ≤ sizeLine + 1 := by rw [Array.size_append]; exact hs2
    wp_walk using (wpAny_updateSeq hl rfl (hz := hs1) (_hz' := hz')), wpAny_loadPart' hl, wpAny_loadPart' hb
    exact ⟨_, rfl, h⟩
end L2.DLx

namespace L2.DL
open PySem PySem.Spec PyProof.Rows

section
variable {X : Cx} {B : Bs} {x : Str} {p pos : Pos} {e : Expr} {es : List Expr} {ts : DA} {id T : String} {r : DN}
def dCB (r : DN) (ts : DA) : DE := fun ρ g Q => ts ρ g fun ds g1 => r ds g1 Q
theorem lcb {σ : St} {H : Hp} {Q : VK} (h : LE X.K B (dCB r ts) σ H Q) : tCB (LRn X.K r) (LA X.K B ts) σ H Q := by
  obtain ⟨ρ, g, Q0, at_, h, p⟩ := h
  exact ⟨ρ, g, _, at_, h, fun ds g1 vs H1 h1 e1 s1 r1 => ⟨ds, g1, Q0, r1, s1, h1, p.ext e1⟩⟩
theorem je_cb (hc : CallR X (.builtin id) (LRn X.K r)) (hg : Gl X x) (hm : X.mg x = none) (hv : bootBuiltins x = some (.builtin id)) (ha : JA X B (e :: es) ts) (hn : x ≠ "__name__" := by decide) (hdb : (x == ("__debug__" : Str)) = false := by decide)
    (he : starEach (e :: es) X.env = (false, eval e X.env) :: starEach es X.env := by rfl) (hpl : (backTo pos (starEach es X.env)).any (·.1) = false := by rfl) : JE X B (.Call (.Name x p) (e :: es) [] pos) (dCB r ts) :=
  pe_imp (pe_callB hc hg hm hv ha hn hdb he hpl) fun _ _ _ h => lcb h
theorem je_ct (hc : CallR X (.type T) (LRn X.K r)) (hg : Gl X x) (hm : X.mg x = none) (hv : bootBuiltins x = some (.type T)) (ha : JA X B (e :: es) ts) (hn : x ≠ "__name__" := by decide) (hdb : (x == ("__debug__" : Str)) = false := by decide)
    (he : starEach (e :: es) X.env = (false, eval e X.env) :: starEach es X.env := by rfl) (hpl : (backTo pos (starEach es X.env)).any (·.1) = false := by rfl) : JE X B (.Call (.Name x p) (e :: es) [] pos) (dCB r ts) :=
  pe_imp (pe_callTy hc hg hm hv ha hn hdb he hpl) fun _ _ _ h => lcb h

/-! ### the built-ins -/
def lenN : DN := fun ds g Q => match ds with
  | [.str z] => z.length ≤ sizeLine ∧ Q (.int z.length) g
  | [.obj a] => match g a with
    | some (.lst es) => Q (.int es.length) g
    | some (.dK kvs) => Q (.int kvs.length) g
    | _ => False
  | [d] => ∃ es, seqOf g d = some es ∧ Q (.int es.length) g
  | _ => False
theorem cr_len : CallR X (.builtin "len") (LRn X.K lenN) := callr_imp (CallR.or call_len_seq (CallR.or call_len_str call_lenD)) fun xs H Q ⟨ds, g, Q0, rs, S, h, P⟩ => by
  have gen : ∀ d es, ds = [d] → seqOf g d = some es → Q0 (.int es.length) g → (∃ p ys, xs = [.ref p] ∧ (SqL X.K H p ys ∨ SqT X.K H p ys) ∧ Q (.int ys.length) H) := fun d es e h1 h2 => by
    subst e
    obtain ⟨v, rfl, r1⟩ := rels1 rs
    obtain ⟨a, ys, rfl, hq, ry⟩ := seqOf_rel S h1 r1
    exact ⟨a, ys, rfl, hq, P.now S h2 (by rw [ry.length]; exact int_rel)⟩
  match ds, h with
  | [.str z], h =>
    obtain ⟨v, rfl, r1⟩ := rels1 rs
    cases rel_str r1
    exact .inr (.inl ⟨z, rfl, h.1, P.now S h.2 int_rel⟩)
  | [.obj a], h =>
    obtain ⟨v, rfl, r1⟩ := rels1 rs
    cases rel_obj r1
    simp only [lenN] at h
    split at h
    · rename_i es e
      obtain ⟨xs, hx, rx⟩ := S.lst e
      exact .inl ⟨a, xs, rfl, .inl (SqL.of hx), P.now S h (by rw [rx.length]; exact int_rel)⟩
    · rename_i kvs e
      obtain ⟨u, hu, ys, rfl, ry⟩ := S a _ e
      exact .inr (.inr ⟨a, ys, rfl, hu, P.now S h (by rw [rkv_length ry]; exact int_rel)⟩)
    · exact h.elim
  | [.tup es], ⟨fs, h1, h2⟩ => exact .inl (gen _ fs rfl h1 h2)
  | [.fin es], ⟨fs, h1, h2⟩ => exact .inl (gen _ fs rfl h1 h2)
  | [.scr es], ⟨fs, h1, h2⟩ => exact .inl (gen _ fs rfl h1 h2)
  | [.non], ⟨fs, h1, h2⟩ => exact .inl (gen _ fs rfl h1 h2)
  | [.bl b], ⟨fs, h1, h2⟩ => exact .inl (gen _ fs rfl h1 h2)
  | [.int b], ⟨fs, h1, h2⟩ => exact .inl (gen _ fs rfl h1 h2)
/-- tuple(x): of a list, of a tuple -/
def tupN : DN := fun ds g Q => match ds with
  | [.fin es] => Q (.fin es) g
  | [d] => ∃ es, seqOf g d = some es ∧ Q (.tup es) g
  | _ => False
theorem cr_tup : CallR X (.type "tuple") (LRn X.K tupN) := callr_imp call_tuple_of fun xs H Q ⟨ds, g, Q0, rs, S, h, P⟩ => by
  match ds, h with
  | [.fin es], h =>
    obtain ⟨v, rfl, r1⟩ := rels1 rs
    obtain ⟨a, ys, o, rfl, ha, hd, ry⟩ := rel_fin r1
    exact ⟨a, ys, rfl, .inr ⟨.inl (.inr ⟨o, ha⟩), P.now S h r1⟩⟩
  | [.tup es], ⟨fs, h1, h2⟩ =>
    cases h1
    obtain ⟨v, rfl, r1⟩ := rels1 rs
    obtain ⟨a, ys, rfl, ha, ry⟩ := rel_tup r1
    exact ⟨a, ys, rfl, .inr ⟨SqT.of ha, P.now S h2 r1⟩⟩
  | [.obj b], ⟨fs, h1, h2⟩ =>
    obtain ⟨v, rfl, r1⟩ := rels1 rs
    obtain ⟨a, ys, rfl, hq, ry⟩ := lstOf_rel S (show lstOf g (.obj b) = some fs from h1) r1
    exact ⟨a, ys, rfl, .inl ⟨hq, fun l hl => P.newT S ry h2 hl⟩⟩
  | [.scr b], ⟨fs, h1, h2⟩ =>
    obtain ⟨v, rfl, r1⟩ := rels1 rs
    obtain ⟨a, ys, rfl, hq, ry⟩ := lstOf_rel S (show lstOf g (.scr b) = some fs from h1) r1
    exact ⟨a, ys, rfl, .inl ⟨hq, fun l hl => P.newT S ry h2 hl⟩⟩
  | [.non], ⟨fs, h1, _⟩ => simp only [seqOf, lstOf] at h1; cases h1
  | [.bl b], ⟨fs, h1, _⟩ => simp only [seqOf, lstOf] at h1; cases h1
  | [.int b], ⟨fs, h1, _⟩ => simp only [seqOf, lstOf] at h1; cases h1
  | [.str b], ⟨fs, h1, _⟩ => simp only [seqOf, lstOf] at h1; cases h1
/-- tuple(x) of a list, the tuple kept with its object -/
def finN : DN := fun ds g Q => match ds with
  | [d] => ∃ es, lstOf g d = some es ∧ Q (.fin es) g
  | _ => False
theorem cr_fin : CallR X (.type "tuple") (LRn X.K finN) := by
  intro pins s σ H xs us Q I r ⟨ds, g, Q0, rs, S, h, P⟩
  match ds, h with
  | [d], ⟨es, h1, h2⟩ =>
    obtain ⟨v, rfl, r1⟩ := rels1 rs
    obtain ⟨a, ys, rfl, hq, ry⟩ := lstOf_rel S h1 r1
    obtain ⟨u, rfl, rx⟩ := vals1 r
    cases rx
    obtain ⟨its, r', pl, hz⟩ := I.list hq
    have hlen := r'.length
    refine call_tuple_list pl.isList (fun h' kp => ?_) (by simp only [List.size_toArray] <;> omega)
    have I1 : Inv X pins σ H { s with heap := h' } := I.kept (t' := s.toks) kp
    have hn := I1.hok.fresh (Nat.le_refl h'.objs.size)
    have hat : (h'.push ({ cls := .type "tuple", data := .seq its.toArray } : Obj)).get? h'.objs.size = some { cls := .type "tuple", data := .seq its.toArray } := Heap.get?_push_size _ rfl
    have I2 : Inv X pins σ (upd H h'.objs.size (.frz { cls := .type "tuple", data := .seq its.toArray } (.tup ys))) { s with heap := h'.push { cls := .type "tuple", data := .seq its.toArray } } :=
      I1.laid (t' := s.toks) (fun b o e => Heap.get?_push_of_some _ e) (Nat.le_refl _) ⟨hat, hz, its, r', IsTup.new _ _⟩
    refine ⟨.ref h'.objs.size, _, I2, rfl, P _ _ _ _ h2 (Ext.laidT hn) (S.laidT hn) ?_⟩
    unfold Rel
    exact ⟨_, ys, _, rfl, upd_same, rfl, ry.ext S (Ext.laidT (g := g) hn)⟩
/-- list(x): a new list -/
def lstN : DN := fun ds g Q => match ds with
  | [d] => ∃ es, seqOf g d = some es ∧ ∀ p, g p = none → Q (.obj p) (gup g p (.lst es))
  | _ => False
theorem cr_lst : CallR X (.type "list") (LRn X.K lstN) := callr_imp call_list_of fun xs H Q ⟨ds, g, Q0, rs, S, h, P⟩ => by
  match ds, h with
  | [d], ⟨es, h1, h2⟩ =>
    obtain ⟨v, rfl, r1⟩ := rels1 rs
    obtain ⟨a, ys, rfl, hq, ry⟩ := seqOf_rel S h1 r1
    exact ⟨a, ys, rfl, hq, fun l hl => P.newL S ry (h2 l (S.fresh hl)) hl⟩
def intN : DN := fun ds g Q => match ds with
  | [.int i] => Q (.int i) g
  | [.bl b] => Q (.int (if b then 1 else 0)) g
  | _ => False
theorem cr_int : CallR X (.type "int") (LRn X.K intN) := callr_imp call_int1 fun xs H Q ⟨ds, g, Q0, rs, S, h, P⟩ => by
  match ds, h with
  | [.int i], h =>
    obtain ⟨v, rfl, r1⟩ := rels1 rs
    cases rel_int r1
    exact .inl ⟨i, rfl, P.now S h int_rel⟩
  | [.bl i], h =>
    obtain ⟨v, rfl, r1⟩ := rels1 rs
    cases rel_bl r1
    exact .inr ⟨i, rfl, P.now S h int_rel⟩
def absN : DN := fun ds g Q => match ds with
  | [.int i] => Q (.int (if i < 0 then -i else i)) g
  | _ => False
theorem cr_abs : CallR X (.builtin "abs") (LRn X.K absN) := callr_imp call_abs fun xs H Q ⟨ds, g, Q0, rs, S, h, P⟩ => by
  match ds, h with
  | [.int i], h =>
    obtain ⟨v, rfl, r1⟩ := rels1 rs
    cases rel_int r1
    exact ⟨i, rfl, P.now S h int_rel⟩
/-- max, min: of two ints, of a list of ints -/
def maxN : DN := fun ds g Q => match ds with
  | [.int i, .int j] => Q (.int (if j > i then j else i)) g
  | [d] => ∃ ns : List Int, lstOf g d = some (ns.map D.int) ∧ 0 < ns.length ∧ ∀ m, m ∈ ns → (∀ y, y ∈ ns → y ≤ m) → Q (.int m) g
  | _ => False
def minN : DN := fun ds g Q => match ds with
  | [.int i, .int j] => Q (.int (if j < i then j else i)) g
  | [d] => ∃ ns : List Int, lstOf g d = some (ns.map D.int) ∧ 0 < ns.length ∧ ∀ m, m ∈ ns → (∀ y, y ∈ ns → m ≤ y) → Q (.int m) g
  | _ => False
theorem rels_ints_eq {K : PySem.W.Frag} {H : Hp} : ∀ {ns : List Int} {xs : List V}, Rels K H (ns.map D.int) xs → xs = ns.map V.int
  | [], xs, h => by rw [List.map_nil] at h; unfold Rels at h; exact h
  | n :: ns, xs, h => by
    rw [List.map_cons] at h
    unfold Rels at h
    obtain ⟨x, r, rfl, h1, h2⟩ := h
    rw [rel_int h1, rels_ints_eq h2]
    rfl
theorem cr_maxD (hc : X.calm = true) : CallR X (.builtin "max") (LRn X.K maxN) := callr_imp (CallR.or (call_max2 hc) (cr_max hc)) fun xs H Q ⟨ds, g, Q0, rs, S, h, P⟩ => by
  unfold maxN at h
  split at h
  · obtain ⟨v, w, rfl, r1, r2⟩ := rels2 rs
    cases rel_int r1; cases rel_int r2
    exact .inl ⟨_, _, rfl, P.now S h int_rel⟩
  · obtain ⟨ns, h1, h2, h3⟩ := h
    obtain ⟨v, rfl, r1⟩ := rels1 rs
    obtain ⟨a, ys, rfl, hq, ry⟩ := lstOf_rel S h1 r1
    cases rels_ints_eq ry
    exact .inr ⟨a, ns, rfl, hq, h2, fun m hm hy => P.now S (h3 m hm hy) int_rel⟩
  · exact h.elim
theorem cr_minD (hc : X.calm = true) : CallR X (.builtin "min") (LRn X.K minN) := callr_imp (CallR.or (call_min2 hc) (cr_min hc)) fun xs H Q ⟨ds, g, Q0, rs, S, h, P⟩ => by
  unfold minN at h
  split at h
  · obtain ⟨v, w, rfl, r1, r2⟩ := rels2 rs
    cases rel_int r1; cases rel_int r2
    exact .inl ⟨_, _, rfl, P.now S h int_rel⟩
  · obtain ⟨ns, h1, h2, h3⟩ := h
    obtain ⟨v, rfl, r1⟩ := rels1 rs
    obtain ⟨a, ys, rfl, hq, ry⟩ := lstOf_rel S h1 r1
    cases rels_ints_eq ry
    exact .inr ⟨a, ns, rfl, hq, h2, fun m hm hy => P.now S (h3 m hm hy) int_rel⟩
  · exact h.elim
/-- sorted -/
def sortN : DN := fun ds g Q => match ds with
  | [d] => ∃ es, srcD g d = some es ∧ SortOk es ∧ ∀ p, g p = none → Q (.obj p) (gup g p (.lst (sortD es)))
  | _ => False
theorem cr_sortN (hc : X.calm = true) (hu : X.A.units + 64 < cLine) : CallR X (.builtin "sorted") (LRn X.K sortN) := by
  intro pins s σ H xs us Q I r ⟨ds, g, Q0, rs, S, h, P⟩
  match ds, h with
  | [d], ⟨es, h1, h2, h3⟩ =>
    obtain ⟨v, rfl, r1⟩ := rels1 rs
    obtain ⟨u, rfl, rx⟩ := vals1 r
    refine sorted_via fun R hR => ?_
    refine collect_src (I.ok.hd hc) I S h1 r1 rx fun ws h' tk k er hl => ?_
    have I1 : Inv X pins σ H { s with heap := h', toks := tk } := I.kept k
    refine hR ws h' tk k (by rw [er.length]; exact hl) (sort_new I1 hu h2 er hl fun s' zs I2 rz hn => ?_)
    exact ⟨.ref h'.objs.size, _, I2, rfl, P.newL S rz (h3 _ (S.fresh hn)) hn⟩

/-! ### isinstance -/
/-- the built-in types that are asked for -/
inductive Ty where
  | non | bl | int | str | tup | lst | dic
  deriving DecidableEq
def Ty.name : Ty → String
  | .non => "NoneType" | .bl => "bool" | .int => "int" | .str => "str" | .tup => "tuple" | .lst => "list" | .dic => "dict"
def tyD (g : G) : D → Option Ty
  | .non => some .non
  | .bl _ => some .bl
  | .int _ => some .int
  | .str _ => some .str
  | .tup _ => some .tup
  | .fin _ => some .tup
  | .scr _ => none
  | .obj a => match g a with
    | some (.lst _) => some .lst
    | some (.dK _) => some .dic
    | some (.dT _) => some .dic
    | _ => none
def isTy (t T : Ty) : Bool := decide (t = T) || (decide (t = .bl) && decide (T = .int))
theorem kit_isTy (t T : Ty) (h : T ≠ .non) : kitB t.name T.name = some (isTy t T) := by
  cases t <;> cases T <;> first | exact absurd rfl h | decide +kernel
theorem tyD_rel {K : PySem.W.Frag} {H : Hp} {g : G} {d : D} {v : V} {t : Ty} (S : Sim K H g) (h : tyD g d = some t) (r : Rel K H d v) : TyX K H v (.type t.name) := by
  cases d with
  | non => cases h; cases rel_non r; exact .base .non
  | bl b => cases h; cases rel_bl r; exact .base (.bl b)
  | int b => cases h; cases rel_int r; exact .base (.int b)
  | str b => cases h; cases rel_str r; exact .base (.str b)
  | tup b => cases h; obtain ⟨a, xs, rfl, ha, _⟩ := rel_tup r; exact .base (.tup ha)
  | fin b => cases h; obtain ⟨a, xs, o, rfl, ha, _⟩ := rel_fin r; exact .fTuple ha
  | scr b => cases h
  | obj a =>
    cases rel_obj r
    simp only [tyD] at h
    split at h
    · rename_i e; cases h; obtain ⟨xs, hx, _⟩ := S.lst e; exact .base (.lst hx)
    · rename_i e; cases h; obtain ⟨u, hu, xs, rfl, _⟩ := S a _ e; exact .base (.dK hu)
    · rename_i e; cases h; obtain ⟨u, hu, xs, rfl, _⟩ := S a _ e; exact .base (.dT hu)
    · cases h
def dIsi (T : Ty) (te : DE) : DE := fun ρ g Q => te ρ g fun d g1 => match tyD g1 d with
  | some t => Q (.bl (isTy t T)) g1
  | none => False
theorem je_isi {n : Str} {te : DE} {p2 : Pos} (T : Ty) (hT : T ≠ .non) (hg : Gl X "isinstance") (hm : X.mg "isinstance" = none) (hv : bootBuiltins ("isinstance" : Str) = some (.builtin "isinstance")) (he : JE X B e te) (hgn : Gl X n) (hmn : X.mg n = none) (hvn : bootBuiltins n = some (.type T.name))
    (hnn : n ≠ "__name__" := by decide) (hdn : (n == ("__debug__" : Str)) = false := by decide)
    (hs : starEach [e, .Name n p2] X.env = (false, eval e X.env) :: starEach [.Name n p2] X.env := by rfl) (hs2 : starEach [.Name n p2] X.env = (false, eval (.Name n p2) X.env) :: starEach [] X.env := by rfl) (hpl : (backTo pos (starEach [.Name n p2] X.env)).any (·.1) = false := by rfl) :
    JE X B (.Call (.Name "isinstance" p) [e, .Name n p2] [] pos) (dIsi T te) := by
  refine pe_imp (pe_callB call_isi hg hm hv (pa_cons he (pa_cons (pe_bltn hgn hmn hvn (v := .ty T.name) rfl hnn hdn) pa_nil hs2) hs) (by decide) (by decide) hs hpl) fun σ H Q ⟨ρ, g, Q0, at_, h, p⟩ => ?_
  refine ⟨ρ, g, _, at_, h, fun d g1 v H1 h1 e1 s1 r1 => ?_⟩
  split at h1
  · rename_i t ht
    exact ⟨v, .ty T.name, .type t.name, .type T.name, _, rfl, .ty _, tyD_rel s1 ht r1, kit_ty (kit_isTy t T hT), p _ _ _ _ h1 e1 s1 bl_rel⟩
  · exact h1.elim

/-! ### methods -/
/-- the type of the object that a method is asked of -/
def mtD (T : String) (g : G) : D → Bool
  | .str _ => T == "str"
  | .obj a => match g a with
    | some (.lst _) => T == "list"
    | some (.dK _) => T == "dict"
    | some (.dT _) => T == "dict"
    | _ => false
  | _ => false
theorem mtD_rel {K : PySem.W.Frag} {H : Hp} {g : G} {d : D} {v : V} {T : String} (S : Sim K H g) (h : mtD T g d = true) (r : Rel K H d v) : tyV K T v H := by
  cases d with
  | str b => cases rel_str r; exact beq_iff_eq.mp h
  | obj a =>
    cases rel_obj r
    simp only [mtD] at h
    split at h
    · rename_i e; obtain ⟨xs, hx, _⟩ := S.lst e; exact .inl ⟨beq_iff_eq.mp h, xs, SqL.of hx⟩
    · rename_i e; obtain ⟨u, hu, xs, rfl, _⟩ := S a _ e; exact .inr (.inr (.inl ⟨beq_iff_eq.mp h, .inl ⟨xs, hu⟩⟩))
    · rename_i e; obtain ⟨u, hu, xs, rfl, _⟩ := S a _ e; exact .inr (.inr (.inl ⟨beq_iff_eq.mp h, .inr ⟨xs, hu⟩⟩))
    · cases h
  | _ => cases h
abbrev DM := D → List D → G → (D → G → Prop) → Prop
def LM (K : PySem.W.Frag) (r : DM) : V → List V → Hp → VK → Prop := fun x xs H Q => ∃ dx ds g Q0, Rel K H dx x ∧ Rels K H ds xs ∧ Sim K H g ∧ r dx ds g Q0 ∧ PostE K H g Q0 Q
theorem mt_imp {id : String} {r r' : V → List V → Hp → VK → Prop} (h : MtR X id r) (i : ∀ x xs H Q, r' x xs H Q → r x xs H Q) : MtR X id r' := fun pins s σ H x xs v us Q I rx rs q => h pins s σ H x xs v us Q I rx rs (i _ _ _ _ q)
def dM (T : String) (r : DM) (to : DE) (ts : DA) : DE := fun ρ g Q => to ρ g fun x g1 => mtD T g1 x = true ∧ ts ρ g1 fun ds g2 => r x ds g2 Q
variable {o : Expr} {to : DE} {name : Str} {apos : Pos} {m : DM}
theorem je_m0 (pa : PlainAttrs T) (slot : Slot T name id) (hty : typeOf (.builtin id) = pure (.type "method_descriptor")) (hm : MtR X id (LM X.K m)) (ho : JE X B o to)
    (hbase : attributeBase o name X.env (eval o X.env) = eval o X.env := by rfl) (hline : (apos.endLine == pos.line) = true := by rfl) : JE X B (.Call (.Attribute o name apos) [] [] pos) (dM T m to dNil) :=
  pe_imp (pe_bm0 pa slot hty hm ho hbase hline) fun σ H Q ⟨ρ, g, Q0, at_, h, p⟩ => ⟨ρ, g, _, at_, h, fun d g1 v H1 h1 e1 s1 r1 => ⟨mtD_rel s1 h1.1 r1, d, [], g1, Q0, r1, Rels.nil, s1, h1.2, p.ext e1⟩⟩
theorem je_m (pa : PlainAttrs T) (slot : Slot T name id) (hty : typeOf (.builtin id) = pure (.type "method_descriptor")) (hm : MtR X id (LM X.K m)) (ho : JE X B o to) (ha : JA X B (e :: es) ts)
    (hbase : attributeBase o name X.env (eval o X.env) = eval o X.env := by rfl)
    (hfew : ((backTo pos (starEach (e :: es) X.env)).all (fun x => !x.1) && (backToKw pos (keywordEach [] X.env)).all (fun x => x.1.isSome)
      && decide ((e :: es).length + ([] : List Keyword).length + (if ([] : List Keyword).isEmpty then 0 else 1) < 30)) = true := by rfl)
    (hline : (apos.endLine == pos.line) = true := by rfl) (hs : starEach (e :: es) X.env = (false, eval e X.env) :: starEach es X.env := by rfl) (hplain : (backTo pos (starEach es X.env)).any (·.1) = false := by rfl) :
    JE X B (.Call (.Attribute o name apos) (e :: es) [] pos) (dM T m to ts) :=
  pe_imp (pe_bm pa slot hty hm ho ha hbase hfew hline hs hplain) fun σ H Q ⟨ρ, g, Q0, at_, h, p⟩ => ⟨ρ, g, _, at_, h, fun d g1 v H1 h1 e1 s1 r1 => ⟨mtD_rel s1 h1.1 r1, ρ, g1, _, at_.go e1 s1, h1.2, fun ds g2 vs H2 h2 e2 s2 r2 => ⟨d, ds, g2, Q0, r1.ext s1 e2, r2, s2, h2, p.ext (e1.trans e2)⟩⟩⟩
def appM : DM := fun x ds g Q => match x, ds with
  | .obj a, [d] => match g a with
    | some (.lst es) => es.length < sizeLine ∧ Q .non (gup g a (.lst (es ++ [d])))
    | _ => False
  | _, _ => False
theorem mt_app : MtR X "list.append" (LM X.K appM) := mt_imp mt_append fun x xs H Q ⟨dx, ds, g, Q0, rx, rs, S, h, P⟩ => by
  match dx, ds, h with
  | .obj a, [d], h =>
    cases rel_obj rx
    obtain ⟨v, rfl, r1⟩ := rels1 rs
    simp only [appM] at h
    split at h
    · rename_i es e
      obtain ⟨ys, hy, ry⟩ := S.lst e
      exact ⟨a, ys, v, rfl, rfl, hy, by rw [← ry.length]; exact h.1, P _ _ _ _ h.2 (Ext.wrote e) (S.wrote e ⟨_, rfl, ry.append (Rels.cons r1 Rels.nil)⟩) non_rel⟩
    · exact h.elim
/-- list.extend(tuple) -/
theorem mt_extT : MtM X "list.extend" (fun x vs H Q => ∃ l b xs zs, x = .ref l ∧ vs = [.ref b] ∧ H l = some (.lst xs) ∧ SqT X.K H b zs ∧ xs.length + zs.length ≤ sizeLine ∧ Q .non (upd H l (.lst (xs ++ zs)))) := by
  intro pins s σ H x vs v us Q I rx rv h
  obtain ⟨l, b, xs, zs, rfl, rfl, hH, hB, hz, q⟩ := h
  cases rx
  obtain ⟨u, rfl, ru⟩ := rv.one
  cases ru
  obtain ⟨z, its, n, r, hl, e⟩ := I.lstM hH
  obtain ⟨its2, r2, ⟨o2, e2, hc2, n2, hd2⟩, z2⟩ := I.tuple hB
  have hl2 := r2.length
  obtain ⟨oc, od, odat, osl⟩ := o2
  simp only at hc2 hd2
  subst hc2 hd2
  have hsz : its.toArray.size + its2.toArray.size ≤ sizeLine := by rw [List.size_toArray, List.size_toArray]; omega
  have hlong : ¬ (!its.toArray.isEmpty && Builtin.List.listTooLong (its.toArray.size + its2.toArray.size)) = true := by
    rw [notLongL hsz, Bool.and_false]
    exact Bool.false_ne_true
  refine call_meets F.slot_list_extend ⟨_, e, rfl⟩ F.entry_list_extend (F.args_list_extend_2 _ _)
    (DLx.list_extend_tup l its.toArray n b its2.toArray n2 od osl hlong (by rw [List.size_toArray]; omega) (by omega)) ⟨e, e2, ?_⟩
  refine ⟨.non, _, I.lset (its' := its ++ its2) hH e (by simp) (r.append r2) ?_, rfl, q⟩
  rw [List.length_append]
  omega
def extM : DM := fun x ds g Q => match x, ds with
  | .obj a, [.tup fs] => match g a with
    | some (.lst es) => es.length + fs.length ≤ sizeLine ∧ Q .non (gup g a (.lst (es ++ fs)))
    | _ => False
  | .obj a, [.obj b] => match g a, g b with
    | some (.lst es), some (.lst fs) => es.length + fs.length ≤ sizeLine ∧ Q .non (gup g a (.lst (es ++ fs)))
    | _, _ => False
  | _, _ => False
theorem mt_ext : MtR X "list.extend" (LM X.K extM) := mt_imp (MtR.or mt_extT mt_extend) fun x xs H Q ⟨dx, ds, g, Q0, rx, rs, S, h, P⟩ => by
  match dx, ds, h with
  | .obj a, [.tup fs], h =>
    cases rel_obj rx
    obtain ⟨v, rfl, r1⟩ := rels1 rs
    obtain ⟨b, zs, rfl, hb, rb⟩ := rel_tup r1
    simp only [extM] at h
    split at h
    · rename_i es e
      obtain ⟨ys, hy, ry⟩ := S.lst e
      exact .inl ⟨a, b, ys, zs, rfl, rfl, hy, SqT.of hb, by rw [← ry.length, ← rb.length]; exact h.1, P _ _ _ _ h.2 (Ext.wrote e) (S.wrote e ⟨_, rfl, ry.append rb⟩) non_rel⟩
    · exact h.elim
  | .obj a, [.obj b], h =>
    cases rel_obj rx
    obtain ⟨v, rfl, r1⟩ := rels1 rs
    cases rel_obj r1
    simp only [extM] at h
    split at h
    · rename_i es fs e e2
      obtain ⟨ys, hy, ry⟩ := S.lst e
      obtain ⟨zs, hz, rz⟩ := S.lst e2
      exact .inr ⟨a, b, ys, zs, rfl, rfl, hy, hz, by rw [← ry.length, ← rz.length]; exact h.1, P _ _ _ _ h.2 (Ext.wrote e) (S.wrote e ⟨_, rfl, ry.append rz⟩) non_rel⟩
    · exact h.elim
/-- sep.join(list or tuple of texts) -/
def joinM : DM := fun x ds g Q => match x, ds with
  | .str a, [d] => ∃ ys : List Str, seqOf g d = some (ys.map D.str) ∧ (ys.map (·.length)).sum + ys.length * a.length ≤ 16777216 ∧ Q (.str (Txt.join a ys)) g
  | _, _ => False
theorem rels_strs_eq {K : PySem.W.Frag} {H : Hp} : ∀ {ns : List Str} {xs : List V}, Rels K H (ns.map D.str) xs → xs = ns.map V.str
  | [], xs, h => by rw [List.map_nil] at h; unfold Rels at h; exact h
  | n :: ns, xs, h => by
    rw [List.map_cons] at h
    unfold Rels at h
    obtain ⟨x, r, rfl, h1, h2⟩ := h
    rw [rel_str h1, rels_strs_eq h2]
    rfl
theorem mt_joinD : MtR X "str.join" (LM X.K joinM) := mt_imp mt_join fun x xs H Q ⟨dx, ds, g, Q0, rx, rs, S, h, P⟩ => by
  match dx, ds, h with
  | .str a, [d], ⟨ys, h1, h2, h3⟩ =>
    cases rel_str rx
    obtain ⟨v, rfl, r1⟩ := rels1 rs
    obtain ⟨b, zs, rfl, hq, rz⟩ := seqOf_rel S h1 r1
    cases rels_strs_eq rz
    exact ⟨a, b, ys, rfl, rfl, hq, h2, P.now S h3 str_rel⟩
/-- d.get(k), d.get(k, x): keys ints and texts -/
def dGet1 (td ty : DE) : DE := fun ρ g Q => td ρ g fun x g1 => match x with
  | .obj a => (∃ kvs, g1 a = some (.dK kvs)) ∧ ty ρ g1 fun y g2 => match g2 a with
    | some (.dK kvs) => ∃ k, keyOf y = some k ∧ Q ((valD kvs k).getD .non) g2
    | _ => False
  | _ => False
def dGet2 (td ty tx : DE) : DE := fun ρ g Q => td ρ g fun x g1 => match x with
  | .obj a => (∃ kvs, g1 a = some (.dK kvs)) ∧ ty ρ g1 fun y g2 => tx ρ g2 fun z g3 => match g3 a with
    | some (.dK kvs) => ∃ k, keyOf y = some k ∧ Q ((valD kvs k).getD z) g3
    | _ => False
  | _ => False
theorem je_get1 {td ty : DE} (hu : X.A.units + 1 < cLine) (ho : JE X B o td) (he : JE X B e ty) (m : M1 X o "get" apos e pos) : JE X B (.Call (.Attribute o "get" apos) [e] [] pos) (dGet1 td ty) := by
  refine pe_imp (pe_dget1 hu ho he m) fun σ H Q ⟨ρ, g, Q0, at_, h, p⟩ => ⟨ρ, g, _, at_, h, fun d g1 v H1 h1 e1 s1 r1 => ?_⟩
  cases d <;> try exact h1.elim
  rename_i a
  cases rel_obj r1
  obtain ⟨⟨kvs, hk⟩, h1⟩ := h1
  obtain ⟨u, hu', xs, rfl, _⟩ := s1 a _ hk
  refine ⟨a, rfl, .inl ⟨xs, .inl hu'⟩, ρ, g1, _, at_.go e1 s1, h1, fun y g2 yv H2 h2 e2 s2 r2 => ?_⟩
  split at h2
  · rename_i kvs2 hk2
    obtain ⟨k, hk, h2⟩ := h2
    obtain ⟨u, hu2, ys, rfl, ry⟩ := s2 a _ hk2
    cases keyOf_rel hk r2
    refine ⟨_, DGet.k hu2, p _ _ _ _ h2 (e1.trans e2) s2 ?_⟩
    rcases rkv_val k ry with ⟨d, w, h3, h4, r4⟩ | ⟨h3, h4⟩
    · rw [h3, h4]; exact r4
    · rw [h3, h4]; exact non_rel
  · exact h2.elim
theorem je_get2 {f : Expr} {td ty tx : DE} (hu : X.A.units + 1 < cLine) (ho : JE X B o td) (he : JE X B e ty) (hf : JE X B f tx) (m : M2 X o "get" apos e f pos) : JE X B (.Call (.Attribute o "get" apos) [e, f] [] pos) (dGet2 td ty tx) := by
  refine pe_imp (pe_dget2 hu ho he hf m) fun σ H Q ⟨ρ, g, Q0, at_, h, p⟩ => ⟨ρ, g, _, at_, h, fun d g1 v H1 h1 e1 s1 r1 => ?_⟩
  cases d <;> try exact h1.elim
  rename_i a
  cases rel_obj r1
  obtain ⟨⟨kvs, hk⟩, h1⟩ := h1
  obtain ⟨u, hu', xs, rfl, _⟩ := s1 a _ hk
  refine ⟨a, rfl, .inl ⟨xs, .inl hu'⟩, ρ, g1, _, at_.go e1 s1, h1, fun y g2 yv H2 h2 e2 s2 r2 => ⟨ρ, g2, _, at_.go (e1.trans e2) s2, h2, fun z g3 zv H3 h3 e3 s3 r3 => ?_⟩⟩
  split at h3
  · rename_i kvs2 hk2
    obtain ⟨k, hk, h3⟩ := h3
    obtain ⟨u, hu2, ys, rfl, ry⟩ := s3 a _ hk2
    cases keyOf_rel hk (r2.ext s2 e3)
    refine ⟨_, DGet.k hu2, p _ _ _ _ h3 ((e1.trans e2).trans e3) s3 ?_⟩
    rcases rkv_val k ry with ⟨d, w, h4, h5, r4⟩ | ⟨h4, h5⟩
    · rw [h4, h5]; exact r4
    · rw [h4, h5]; exact r3
  · exact h3.elim
end
end L2.DL

/-! DL9: own defs and their calls, zip, list(range), reversed slices, dict displays, index. -/
namespace L2.DL
open PySem PySem.Spec PyProof.Rows

/-! ### own defs -/
def spD (K : PySem.W.Frag) (n : Nat) (r : DN) : Sp := fun vs H Q _ => ∃ ds g Q0, vs.length = n ∧ Rels K H ds vs ∧ Sim K H g ∧ r ds g Q0 ∧ PostE K H g Q0 Q
def dCall (n : Nat) (r : DN) (ts : DA) : DE := fun ρ g Q => ts ρ g fun ds g1 => ds.length = n ∧ r ds g1 Q
section
variable {X : Cx} {B : Bs} {x : Str} {p pos : Pos} {e : Expr} {es : List Expr} {ts : DA} {r : DN} {k n : Nat} {f : Addr} {fd : FuncData} {ps : List Str}
theorem je_call (F : FnOk X.prog X.w X.K X.mg X.base CX0 k f fd ps (spD X.K n r)) (hr : Room k X.A) (hg : Gl X x) (hm : X.mg x = some (.ref f)) (hk : PySem.W.keepIn X.K (.ref f) = true) (hb : Binds X.K fd ps []) (ha : JA X B (e :: es) ts)
    (hdb : (x == ("__debug__" : Str)) = false := by decide) (he : starEach (e :: es) X.env = (false, eval e X.env) :: starEach es X.env := by rfl) (hpl : (backTo pos (starEach es X.env)).any (·.1) = false := by rfl) : JE X B (.Call (.Name x p) (e :: es) [] pos) (dCall n r ts) := by
  refine pe_imp (pe_call F hr hg hm hk hb .nil pass0 ha hdb he hpl) fun σ H Q ⟨ρ, g, Q0, at_, h, P⟩ => ⟨ρ, g, _, at_, h, fun ds g1 vs H1 ⟨hl, h1⟩ e1 s1 r1 => ?_⟩
  show spD X.K n r (vs ++ []) H1 Q _
  rw [List.append_nil]
  exact ⟨ds, g1, Q0, by rw [← r1.length]; exact hl, r1, s1, h1, P.ext e1⟩
theorem je_call0 (F : FnOk X.prog X.w X.K X.mg X.base CX0 k f fd ps (spD X.K n r)) (hr : Room k X.A) (hg : Gl X x) (hm : X.mg x = some (.ref f)) (hk : PySem.W.keepIn X.K (.ref f) = true) (hb : Binds X.K fd ps [])
    (hdb : (x == ("__debug__" : Str)) = false := by decide) : JE X B (.Call (.Name x p) [] [] pos) (dCall n r dNil) := by
  refine pe_imp (pe_call0 F hr hg hm hk hb .nil pass0 hdb) fun σ H Q ⟨ρ, g, Q0, at_, ⟨hl, h⟩, P⟩ => ?_
  exact ⟨[], g, Q0, hl, Rels.nil, at_.sim, h, P⟩
/-- the keywords' values -/
abbrev JK (X : Cx) (B : Bs) (kws : List Keyword) (t : DA) : Prop := PK X kws (LA X.K B t)
theorem pk_imp {kws : List Keyword} {T T' : TA} (h : PK X kws T) (i : ∀ σ H Q, T' σ H Q → T σ H Q) : PK X kws T' := ⟨fun pos pins s σ H Q I q => h.run pos pins s σ H Q I (i σ H Q q)⟩
theorem jk_nil : JK X B [] dNil := pk_imp pk_nil fun σ H Q ⟨ρ, g, Q0, at_, h, p⟩ => p _ _ _ _ h Ext.refl at_.sim Rels.nil
theorem jk_cons {kws : List Keyword} {nm : Option Str} {kpos : Pos} {te : DE} (ha : JE X B e te) (hr : JK X B kws ts) : JK X B (⟨nm, e, kpos⟩ :: kws) (dCons te ts) := by
  refine pk_imp (pk_cons ha hr) fun σ H Q ⟨ρ, g, Q0, at_, h, p⟩ => ⟨ρ, g, _, at_, h, fun x g1 v H1 h1 e1 s1 r1 => ⟨ρ, g1, _, at_.go e1 s1, h1, fun xs g2 vs H2 h2 e2 s2 r2 => ?_⟩⟩
  exact p _ _ _ _ h2 (e1.trans e2) s2 (Rels.cons (r1.ext s1 e2) r2)
/-- f(k = v, ..), no positional value: gD puts the values in the parameters' order -/
def dCallK (n m : Nat) (gD : List D → List D) (r : DN) (tk : DA) : DE := fun ρ g Q => tk ρ g fun ds g1 => ds.length = m ∧ (gD ds).length = n ∧ r (gD ds) g1 Q
theorem run_k0 {CX : CXT} {sp : Sp} {E : XK} {kws : List Keyword} {ks : List Str} {tk : TA} {gg : List Value → List Value → List Value} {gV : List V → List V → List V} (F : FnOk X.prog X.w X.K X.mg X.base CX k f fd ps sp) (hr : Room k X.A) (hg : Gl X x) (hm : X.mg x = some (.ref f)) (hk : PySem.W.keepIn X.K (.ref f) = true) (hb : KBn X.K fd ps 0 ks gg gV) (hx : Passes CX X E)
    (hkw : PK X kws tk) (hall : (backToKw pos (keywordEach kws X.env)).all (·.1.isSome) = true := by rfl) (hks : (backToKw pos (keywordEach kws X.env)).filterMap (·.1) = ks := by rfl)
    (hdb : (x == ("__debug__" : Str)) = false := by decide) (hpl : ((backTo pos (starEach [] X.env)).any (·.1) || (backToKw pos (keywordEach kws X.env)).any (·.1.isNone)) = false := by rfl) :
    PE X (.Call (.Name x p) [] kws pos) (tCallN 0 ks.length sp gV E tNil tk) := by
  refine ⟨fun pins s σ H Q I h => ?_⟩
  refine wpAny_Call_Name_kw (ld_glob I hg hm ?_ hdb)
  refine PySem.W.callWith_KW0 (h₀ := X.base) I.ok.mod.kin hk hall ?_ hpl
  refine thn (hkw.run pos pins s σ H _ I h) fun ws s2 ⟨zs, H2, I2, rz, l1, l2, q2⟩ => ⟨I2.kIn, ?_⟩
  rw [hks]
  exact run_fnN (us := []) (vs := []) F hr hb hx I2 .nil rz rfl l2 q2
theorem je_callK {kws : List Keyword} {ks : List Str} {tk : DA} {gD : List D → List D} {gg : List Value → List Value} {gV : List V → List V} (F : FnOk X.prog X.w X.K X.mg X.base CX0 k f fd ps (spD X.K n r)) (hr : Room k X.A) (hg : Gl X x) (hm : X.mg x = some (.ref f)) (hk : PySem.W.keepIn X.K (.ref f) = true)
    (hb : KBn X.K fd ps 0 ks (fun _ ws => gg ws) (fun _ zs => gV zs)) (hD : ∀ (H : Hp) (ds : List D) (vs : List V), Rels X.K H ds vs → Rels X.K H (gD ds) (gV vs)) (hkw : JK X B kws tk)
    (hall : (backToKw pos (keywordEach kws X.env)).all (·.1.isSome) = true := by rfl) (hks : (backToKw pos (keywordEach kws X.env)).filterMap (·.1) = ks := by rfl)
    (hdb : (x == ("__debug__" : Str)) = false := by decide) (hpl : ((backTo pos (starEach [] X.env)).any (·.1) || (backToKw pos (keywordEach kws X.env)).any (·.1.isNone)) = false := by rfl) :
    JE X B (.Call (.Name x p) [] kws pos) (dCallK n ks.length gD r tk) := by
  refine pe_imp (run_k0 F hr hg hm hk hb pass0 hkw hall hks hdb hpl) fun σ H Q ⟨ρ, g, Q0, at_, h, P⟩ => ⟨ρ, g, _, at_, h, fun ds g1 vs H1 ⟨hl, hl2, h1⟩ e1 s1 r1 => ?_⟩
  have r2 := hD H1 ds vs r1
  exact ⟨rfl, by rw [← r1.length]; exact hl, gD ds, g1, Q0, by rw [← r2.length]; exact hl2, r2, s1, h1, P.ext e1⟩
end
section
variable {P : Program} {w : World} {K : PySem.W.Frag} {mg : Str → Option Value} {base : Heap}
/-- THE RULE for a def: t its body's reading -/
theorem okD {x qual : Str} {st : Stmt} {f : Addr} {fd : FuncData} {N ps : List Str} {k n : Nat} {r : DN} (t : DS) (F : Fun K x qual st f fd) (S : FnScope N ps (defScope st)) (hn : ps.length = n)
    (hw : ∀ (cdv : Value) (A : Around) (outer : List Env) (s : Shared) (H : Hp) (E : XK) (B : Bs), Room k (A.deeper (envOfC qual (defScope st) s.heap.objs.size f cdv)) → JSs (cxOf CX0 P w K mg base N qual (defScope st) f cdv A outer s H E).nox B (defBody st) t)
    (hp : ∀ (ds : List D) (g : G) (Q : D → G → Prop), ds.length = n → r ds g Q → t { nx := fun _ g' => Q .non g', rt := Q } (dstart N.length ds) g) : FnOk P w K mg base CX0 (k + 1) f fd ps (spD K n r) := by
  refine F.ok S (fun vs H Q E h => ?_) (fun cdv A outer s H vs Q E hr h => ?_)
  · obtain ⟨ds, g, Q0, hl, _⟩ := h
    rw [hn]; exact hl
  · obtain ⟨ds, g, Q0, hl, rs, S0, h, P0⟩ := h
    refine ⟨_, hw cdv A outer s H E ⟨H, g⟩ hr, dstart N.length ds, g, _, ⟨rs.envR, S0, Ext.refl⟩, hp ds g Q0 (by rw [rs.length]; exact hl) h, ?_⟩
    exact ⟨fun ρ' g' σ' H' q e s v => P0 _ _ _ _ q e s non_rel, P0, fun ρ' g' σ' H' q => q.elim, fun ρ' g' σ' H' q => q.elim⟩
end

/-! ### zip of two tuples, a pair of names -/
def tupOf : D → Option (List D)
  | .tup ds => some ds
  | .fin ds => some ds
  | _ => none
theorem tupOf_rel {K : PySem.W.Frag} {H : Hp} {d : D} {v : V} {ds : List D} (h : tupOf d = some ds) (r : Rel K H d v) : ∃ a xs, v = .ref a ∧ ((∃ o, H a = some (.frz o (.tup xs))) ∨ H a = some (.tup xs)) ∧ Rels K H ds xs := by
  cases d with
  | tup es => cases h; obtain ⟨a, xs, e, ha, rs⟩ := rel_tup r; exact ⟨a, xs, e, .inr ha, rs⟩
  | fin es => cases h; obtain ⟨a, xs, o, e, ha, _, rs⟩ := rel_fin r; exact ⟨a, xs, e, .inl ⟨o, ha⟩, rs⟩
  | _ => cases h
theorem sqT_at {K : PySem.W.Frag} {H H' : Hp} {a : Addr} {xs : List V} (m : Kept K H H') (h : (∃ o, H a = some (.frz o (.tup xs))) ∨ H a = some (.tup xs)) : SqT K H' a xs := by
  rcases h with ⟨o, h⟩ | h
  · exact .inl (.inr ⟨o, m.frz _ _ _ h⟩)
  · exact SqT.of (m.tup _ _ h)
theorem Kept.refl {K : PySem.W.Frag} {H : Hp} : Kept K H H := ⟨fun _ _ h => h, fun _ _ _ h => h⟩
def zipD (xs ys : List D) : List D := List.zipWith (fun a b => D.tup [a, b]) xs ys
def dZip (ta : DA) : DI := fun ρ g R => ta ρ g fun ds g1 => match ds with
  | [x, y] => ∃ xs ys, tupOf x = some xs ∧ tupOf y = some ys ∧ R (zipD xs ys) (fun _ => True) g1
  | _ => False
theorem zipD_get {xs ys : List D} {i : Nat} {d : D} (h : (zipD xs ys)[i]? = some d) : ∃ a b, xs[i]? = some a ∧ ys[i]? = some b ∧ d = .tup [a, b] := by
  unfold zipD at h
  rw [List.getElem?_zipWith] at h
  cases e1 : xs[i]? with
  | none => rw [e1] at h; cases h
  | some a =>
    cases e2 : ys[i]? with
    | none => rw [e1, e2] at h; cases h
    | some b => rw [e1, e2] at h; exact ⟨a, b, rfl, rfl, (Option.some.inj h).symm⟩
section
variable {X : Cx} {B : Bs} {p pos : Pos} {e : Expr}
theorem ji_zip {e2 : Expr} {ta : DA} {tpos : Pos} {elts : List Expr} {kk : Nat} (hg : Gl X "zip") (hm : X.mg "zip" = none) (ha : JA X B [e, e2] ta)
    (hs : starEach [e, e2] X.env = (false, eval e X.env) :: starEach [e2] X.env := by rfl) (hpl : (backTo pos (starEach [e2] X.env)).any (·.1) = false := by rfl) :
    JI X B (.Tuple elts kk tpos) (.Call (.Name "zip" p) [e, e2] [] pos) (dZip ta) := by
  refine pi_imp (RZ.pi_zipA hg hm ha hs hpl) fun σ H R ⟨ρ, g, R0, at_, h, P⟩ => ⟨ρ, g, _, at_, h, fun ds g1 vs H1 h1 e1 s1 r1 => ?_⟩
  match ds, h1 with
  | [x, y], ⟨xs, ys, hx, hy, h1⟩ =>
    obtain ⟨v, w, rfl, rx, ry⟩ := rels2 r1
    obtain ⟨a, vx, rfl, ha, ra⟩ := tupOf_rel hx rx
    obtain ⟨b, vy, rfl, hb, rb⟩ := tupOf_rel hy ry
    refine ⟨a, b, vx, vy, rfl, .inr ⟨sqT_at Kept.refl ha, sqT_at Kept.refl hb, P _ _ _ _ _ h1 e1 s1 ⟨fun i H g s m _ d hd => ?_, fun i H g s m _ hl => ?_⟩⟩⟩
    · obtain ⟨dx, dy, h2, h3, rfl⟩ := zipD_get hd
      obtain ⟨ux, h4, r4⟩ := (Rels.mono m _ _ ra).get h2
      obtain ⟨uy, h5, r5⟩ := (Rels.mono m _ _ rb).get h3
      refine ⟨⟨vx, vy, ux, uy, sqT_at m ha, sqT_at m hb, h4, h5⟩, ?_⟩
      rintro z H' ⟨T, zx, zy, rfl, hT, rfl, q1, q2⟩
      have e4 := q1 vx (sqT_at m ha)
      have e5 := q2 vy (sqT_at m hb)
      rw [h4] at e4; rw [h5] at e5
      cases e4; cases e5
      exact ⟨tup_rel s hT (Rels.cons r4 (Rels.cons r5 Rels.nil)), Ext.laidT hT, s.laidT hT⟩
    · refine ⟨vx, vy, sqT_at m ha, sqT_at m hb, ?_⟩
      unfold zipD at hl
      rw [List.length_zipWith, ra.length, rb.length] at hl
      omega

/-! ### list(range(..)) -/
def dLstR1 (ta : DE) : DE := fun ρ g Q => ta ρ g fun d g1 => match d with
  | .int n => RgOk 0 n ∧ ∀ p, g1 p = none → Q (.obj p) (gup g1 p (.lst (rangeD 0 n.toNat)))
  | _ => False
def dLstR2 (ta tb : DE) : DE := fun ρ g Q => ta ρ g fun d g1 => tb ρ g1 fun d2 g2 => match d, d2 with
  | .int i, .int j => RgOk i j ∧ ∀ p, g2 p = none → Q (.obj p) (gup g2 p (.lst (rangeD i (j - i).toNat)))
  | _, _ => False
theorem rels_range {K : PySem.W.Frag} {H : Hp} (i j : Int) : Rels K H (rangeD i (j - i).toNat) (rgV i j) := by
  unfold rangeD rgV
  generalize (j - i).toNat = n
  have : ∀ l : List Nat, Rels K H (l.map fun k => D.int (i + (k : Nat))) (l.map fun k => V.int (i + (k : Nat))) := fun l => by
    induction l with
    | nil => exact Rels.nil
    | cons a l ih => exact Rels.cons int_rel ih
  exact this _
theorem je_lstR1 {a : Expr} {ta : DE} {p2 pos2 : Pos} (hc : X.calm = true) (hg : Gl X "list") (hm : X.mg "list" = none) (hg2 : Gl X "range") (hm2 : X.mg "range" = none) (ha : JE X B a ta) (na : starEach [a] X.env = (false, eval a X.env) :: starEach [] X.env := by rfl)
    (nb : starEach [.Call (.Name "range" p2) [a] [] pos2] X.env = (false, eval (.Call (.Name "range" p2) [a] [] pos2) X.env) :: starEach [] X.env := by rfl) : JE X B (.Call (.Name "list" p) [.Call (.Name "range" p2) [a] [] pos2] [] pos) (dLstR1 ta) := by
  refine pe_imp (pe_listRg hc hg hm (prg_1 hg2 hm2 ha na) nb) fun σ H Q ⟨ρ, g, Q0, at_, h, P⟩ => ⟨ρ, g, _, at_, h, fun d g1 v H1 h1 e1 s1 r1 => ?_⟩
  cases d <;> try exact h1.elim
  rename_i n
  cases rel_int r1
  refine ⟨n, rfl, h1.1, fun q hq => (P.ext e1).newL s1 ?_ (h1.2 q (s1.fresh hq)) hq⟩
  have := rels_range (K := X.K) (H := H1) 0 n
  rw [Int.sub_zero] at this
  exact this
theorem je_lstR2 {a b : Expr} {ta tb : DE} {p2 pos2 : Pos} (hc : X.calm = true) (hg : Gl X "list") (hm : X.mg "list" = none) (hg2 : Gl X "range") (hm2 : X.mg "range" = none) (ha : JE X B a ta) (hb : JE X B b tb) (na : starEach [a, b] X.env = (false, eval a X.env) :: starEach [b] X.env := by rfl)
    (na2 : starEach [b] X.env = (false, eval b X.env) :: starEach [] X.env := by rfl) (hp : (backTo pos2 (starEach [b] X.env)).any (·.1) = false := by rfl)
    (nb : starEach [.Call (.Name "range" p2) [a, b] [] pos2] X.env = (false, eval (.Call (.Name "range" p2) [a, b] [] pos2) X.env) :: starEach [] X.env := by rfl) : JE X B (.Call (.Name "list" p) [.Call (.Name "range" p2) [a, b] [] pos2] [] pos) (dLstR2 ta tb) := by
  refine pe_imp (pe_listRg hc hg hm (prg_2 hg2 hm2 ha hb na na2 hp) nb) fun σ H Q ⟨ρ, g, Q0, at_, h, P⟩ => ⟨ρ, g, _, at_, h, fun d g1 v H1 h1 e1 s1 r1 => ⟨ρ, g1, _, at_.go e1 s1, h1, fun d2 g2 v2 H2 h2 e2 s2 r2 => ?_⟩⟩
  cases d <;> cases d2 <;> try exact h2.elim
  rename_i i j
  cases rel_int r1; cases rel_int r2
  exact ⟨i, j, rfl, rfl, h2.1, fun q hq => (P.ext (e1.trans e2)).newL s2 (rels_range i j) (h2.2 q (s2.fresh hq)) hq⟩
/-! ### xs[::-1] of a list -/
def dRev (te : DE) : DE := fun ρ g Q => te ρ g fun d g1 => ∃ ds, lstOf g1 d = some ds ∧ ∀ p, g1 p = none → Q (.obj p) (gup g1 p (.lst ds.reverse))
theorem je_rev {te : DE} {k : Nat} {p1 p2 p3 : Pos} (he : JE X B e te) : JE X B (.Subscript e (.Slice none none (some (.UnaryOp .USub (.Constant (.int 1) k p1) p2)) p3) pos) (dRev te) := by
  refine pe_imp (pe_revL he) fun σ H Q ⟨ρ, g, Q0, at_, h, P⟩ => ⟨ρ, g, _, at_, h, fun d g1 v H1 ⟨ds, hd, h1⟩ e1 s1 r1 => ?_⟩
  obtain ⟨a, xs, rfl, hq, rs⟩ := lstOf_rel s1 hd r1
  exact ⟨a, xs, rfl, hq, fun q hq => (P.ext e1).newL s1 rs.reverse (h1 q (s1.fresh hq)) hq⟩
/-! ### {} -/
def dDicK : DE := fun _ g Q => ∀ p, g p = none → Q (.obj p) (gup g p (.dK []))
def dDicT : DE := fun _ g Q => ∀ p, g p = none → Q (.obj p) (gup g p (.dT []))
theorem je_dicK : JE X B (.Dict [] [] pos) dDicK := pe_imp pe_dnewK fun σ H Q ⟨ρ, g, Q0, at_, h, P⟩ q hq => P _ _ _ _ (h q (at_.sim.fresh hq)) (Ext.laid hq) (at_.sim.laid hq ⟨[], rfl, by unfold RelKV; rfl⟩) obj_rel
theorem je_dicT : JE X B (.Dict [] [] pos) dDicT := pe_imp pe_dnewT fun σ H Q ⟨ρ, g, Q0, at_, h, P⟩ q hq => P _ _ _ _ (h q (at_.sim.fresh hq)) (Ext.laid hq) (at_.sim.laid hq ⟨[], rfl, by unfold RelKV; rfl⟩) obj_rel
/-! ### t.index(x) of a kept tuple of texts -/
def tBMF (r : V → List V → Hp → VK → Prop) (to : TE) (t : TA) : TE := fun σ H Q => to σ H fun x H1 => (∃ a o xs, x = .ref a ∧ H1 a = some (.frz o (.tup xs)) ∧ o.dict = none) ∧ t σ H1 fun xs H2 => r x xs H2 Q
theorem pe_bmF {o : Expr} {es : List Expr} {to : TE} {t : TA} {name : Str} {apos : Pos} {id : String} {r : V → List V → Hp → VK → Prop} (slot : Slot "tuple" name id) (hty : typeOf (.builtin id) = pure (.type "method_descriptor")) (hm : MtR X id r) (ho : PE X o to) (ha : PA X (e :: es) t)
    (hbase : attributeBase o name X.env (eval o X.env) = eval o X.env := by rfl)
    (hfew : ((backTo pos (starEach (e :: es) X.env)).all (fun x => !x.1) && (backToKw pos (keywordEach [] X.env)).all (fun x => x.1.isSome)
      && decide ((e :: es).length + ([] : List Keyword).length + (if ([] : List Keyword).isEmpty then 0 else 1) < 30)) = true := by rfl)
    (hline : (apos.endLine == pos.line) = true := by rfl) (hs : starEach (e :: es) X.env = (false, eval e X.env) :: starEach es X.env := by rfl) (hplain : (backTo pos (starEach es X.env)).any (·.1) = false := by rfl) :
    PE X (.Call (.Attribute o name apos) (e :: es) [] pos) (tBMF r to t) := by
  refine ⟨fun pins s σ H Q I h => ?_⟩
  refine wpAny_Call_method_late hbase hfew hline rfl (thn (ho.run pins s σ H _ I h) fun v s1 ⟨x, H1, I1, r1, ⟨a, ob, xs, ex, hob, hdn⟩, q1⟩ => ?_)
  subst ex
  cases r1
  obtain ⟨hat, _, its, _, o2, ho2, hc2, _⟩ := (show ObjOk X.prog X.w H1 s1.heap a (.frz ob (.tup xs)) from I1.hok a _ hob)
  rw [hat] at ho2
  cases ho2
  refine ⟨"tuple", id, PySem.F.plainAttrs_tuple, slot, hty, ⟨ob, hat, hc2⟩, fun b eb => by cases eb; exact ⟨ob, hat, hdn⟩, ?_⟩
  have hA := ha.run pos pins s1 σ H1 _ I1 q1
  rw [hs] at hA ⊢
  refine Calls.callWith_builtin (by show (false || (backTo pos (starEach es X.env)).any (·.1)) = false; rw [hplain] <;> rfl) (Calls.evalArgs_plain ?_)
  exact thn hA fun us s2 ⟨vs, H2, I2, r2, q2⟩ => hm pins s2 σ H2 (.ref a) vs _ us Q I2 rfl r2 q2
def dIdx (to : DE) (ts : DA) : DE := fun ρ g Q => to ρ g fun x g1 => (∃ fs, x = .fin fs) ∧ ts ρ g1 fun ds g2 => ∃ fs z, x = .fin fs ∧ ds = [.str z] ∧ ∃ ys : List Str, fs = ys.map D.str ∧ z ∈ ys ∧ Q (.int (ys.idxOf z : Nat)) g2
theorem strs_rel {K : PySem.W.Frag} {H : Hp} : ∀ {ys : List Str} {xs : List V}, Rels K H (ys.map D.str) xs → xs = ys.map V.str
  | [], xs, h => by unfold Rels at h; exact h
  | y :: ys, xs, h => by
    unfold Rels at h
    obtain ⟨x, r, rfl, h1, h2⟩ := h
    rw [rel_str h1, strs_rel h2]; rfl
theorem idxOf_at {ys : List Str} {z : Str} (h : z ∈ ys) : ys[ys.idxOf z]? = some z ∧ ∀ m, m < ys.idxOf z → ys[m]? ≠ some z := by
  refine ⟨?_, fun m hm e => ?_⟩
  · rw [List.getElem?_eq_getElem (List.idxOf_lt_length_of_mem h)]
    rw [List.getElem_idxOf]
  · obtain ⟨hl, e⟩ := List.getElem?_eq_some_iff.mp e
    have := List.not_of_lt_findIdx (p := (· == z)) (show m < ys.findIdx (· == z) from hm)
    rw [e] at this
    simp at this
theorem je_idx {o a : Expr} {to ta : DE} {apos : Pos} (ho : JE X B o to) (ha : JE X B a ta)
    (hbase : attributeBase o "index" X.env (eval o X.env) = eval o X.env := by rfl)
    (hs : starEach [a] X.env = (false, eval a X.env) :: starEach [] X.env := by rfl)
    (hfew : ((backTo pos (starEach [a] X.env)).all (fun x => !x.1) && (backToKw pos (keywordEach [] X.env)).all (fun x => x.1.isSome)
      && decide ([a].length + ([] : List Keyword).length + (if ([] : List Keyword).isEmpty then 0 else 1) < 30)) = true := by rfl)
    (hline : (apos.endLine == pos.line) = true := by rfl) (hplain : (backTo pos (starEach [] X.env)).any (·.1) = false := by rfl) :
    JE X B (.Call (.Attribute o "index" apos) [a] [] pos) (dIdx to (dCons ta dNil)) := by
  refine pe_imp (pe_bmF PySem.F.slot_tuple_index rfl mt_tup_index ho (ja_cons ha ja_nil hs) hbase hfew hline hs hplain) fun σ H Q ⟨ρ, g, Q0, at_, h, P⟩ => ⟨ρ, g, _, at_, h, fun d g1 v H1 h1 e1 s1 r1 => ?_⟩
  obtain ⟨hl, q⟩ : (∃ fs, d = .fin fs) ∧ dCons ta dNil ρ g1 (fun ds g2 => ∃ fs z, d = .fin fs ∧ ds = [.str z] ∧ ∃ ys : List Str, fs = ys.map D.str ∧ z ∈ ys ∧ Q0 (.int (ys.idxOf z : Nat)) g2) := h1
  obtain ⟨fs, rfl⟩ := hl
  obtain ⟨a, xs, ob, rfl, hob, hdn, rs⟩ := rel_fin r1
  refine ⟨⟨a, ob, xs, rfl, hob, hdn⟩, ρ, g1, _, at_.go e1 s1, q, fun ds g2 vs H2 ⟨fs2, z, e, e2, ys, e3, hz, q2⟩ ee s2 r2 => ?_⟩
  cases e; subst e3; subst e2
  obtain ⟨v, rfl, rv⟩ := rels1 r2
  cases rel_str rv
  cases strs_rel rs
  obtain ⟨k1, k2⟩ := idxOf_at hz
  exact ⟨a, ys, z, _, rfl, rfl, .inl (.inr ⟨ob, (s1.kept ee).frz _ _ _ hob⟩), k1, k2, P _ _ _ _ q2 (e1.trans ee) s2 int_rel⟩
end
end L2.DL

/-! DL10: dict comprehensions whose keys are tuples. -/
namespace L2.DL
open PySem PySem.Spec PyProof.Rows
theorem d_dictSetT {X : Cx} {pins : List (Addr × Obj)} {σ : St} {H : Hp} {s : Shared} {E : Value → Shared → Prop} {D b : Addr} {kvs : List (List Key × V)} {k : List Key} {v : V} {u r : Value} {Q : Unit → Shared → Prop} (hu : X.A.units + 1 < cLine) (I : Inv X pins σ H s) (e : H D = some (.dT kvs)) (eb : H b = some (.tup (k.map kV))) (hz : kvs.length < sizeLine)
    (ry : RelV (.ref b) u) (rv : RelV v r) (h : ∀ s', Inv X pins σ (upd H D (.dT (putK kvs k v))) s' → Q () s') : wpAny (model X.prog X.w) X.A (dictSet D u r) Q E s := by
  cases (show u = Value.ref b from ry)
  obtain ⟨z, hd, xs, rel, dd⟩ := dt_of I.hok e
  have hz : xs.length ≤ sizeLine := by rw [← Paired.length rel]; exact z
  have hl : (putK kvs k v).length ≤ sizeLine := by have := length_putK kvs k v; omega
  refine wpAny_dictSet_heap (hsz := hz) (show X.A.units < cLine by omega) (key_of I.hok eb) dd fun h' dd' hs => h _ ?_
  obtain ⟨q, es, ep, hq, h2, h3, h4, _, h5⟩ := dd'
  refine d_write I (by rw [e]; exact True.intro) hs ⟨q, hq⟩ ⟨hl, hd, _, (rel.put k eb rv).keeps fun c ys ec => ?_, q, es, ep, hq, h2, h3, h4, h5⟩
  rw [upd_ne (ne_of ec e (fun z => nomatch z))]
  exact ec
section
variable {X : Cx}
/-- {k: v for target in iter if ..}, keys ints or texts: D the new dict -/
def tDcT (wi : TI) (g : TG) (tt : TT) (tk tv : TE) (vs : List Nat) : TE := fun σ H Q => wi σ H fun J H1 => ∀ D, H1 D = none → ∃ W : Nat → Nat → Hp → Prop, (∃ m, W 0 m (upd H1 D (.dT []))) ∧ ∀ i m H, W i m H →
  (J.stop i H ∧ Q (.ref D) H) ∨ (J.go i H ∧ ∃ Nx : Hp → Prop, (∀ H', Nx H' → ∃ m', m' < m ∧ W (i + 1) m' H') ∧ ∀ x H', J.yld i H x H' → g x (wipe σ vs) H' fun σ2 H2 => wipe σ2 vs = wipe σ vs ∧ tt σ2 H2 fun b H3 =>
    if b = true then tk σ2 H3 fun y H4 => tv σ2 H4 fun z H5 => ∃ kvs k b, y = .ref b ∧ H5 b = some (.tup (k.map kV)) ∧ H5 D = some (.dT kvs) ∧ kvs.length < sizeLine ∧ Nx (upd H5 D (.dT (putK kvs k z))) else Nx H3)
theorem dc_coreT {pins : List (Addr × Obj)} {s : Shared} {σ : St} {H : Hp} {Q : VK} {kx vx tg iter : Expr} {ifs : List Expr} {scope : Scope} {own : List (Str × Nat)} {pos pos' : Pos} {wi : TI} {g : TG} {tt : TT} {tk tv : TE} {use : Option (Value → Sem Unit)} {Qf : Value → Shared → Prop}
    (hu : X.A.units + 1 < cLine) (hc : X.calm = true) (hN : X.N.Nodup) (I : Inv X pins σ H s) (hi : PI X tg iter wi) (ok : BlkOk X.N X.env.scope scope own)
    (hg : ∀ (s : Shared) (H : Hp) (C : Addr) (cl : List (Str × Addr)) (fp : List Addr), PG (X.blk s H scope (compEnvC scope cl C X.env) fp) tg g) (ht : ∀ (s : Shared) (H : Hp) (C : Addr) (cl : List (Str × Addr)) (fp : List Addr), PTs (X.blk s H scope (compEnvC scope cl C X.env) fp) ifs tt)
    (hk : ∀ (s : Shared) (H : Hp) (C : Addr) (cl : List (Str × Addr)) (fp : List Addr), PE (X.blk s H scope (compEnvC scope cl C X.env) fp) kx tk)
    (he : ∀ (s : Shared) (H : Hp) (C : Addr) (cl : List (Str × Addr)) (fp : List Addr), PE (X.blk s H scope (compEnvC scope cl C X.env) fp) vx tv) (hs : ∀ x, foldedSetIterable iter X.env x = pure x)
    (h : tDcT wi g tt tk tv (own.map (·.2)) σ H Q)
    (hRR : ∀ D C s' m H', Inv X pins σ H' s' → Q (.ref D) H' → s'.heap.Ns C m → FpOk X pins H' C → compPost (model X.prog X.w) X.A X.xe use Qf (.ref D) C (.ok .next) s') :
    wpAny (model X.prog X.w) X.A (comprehension (.DictComp kx vx [⟨tg, iter, ifs, 0⟩] scope pos) scope X.env pos' newDict false (eval iter X.env) use) Qf X.xe s := by
  have hfree : ∀ y ∈ scope.names, y.2 = .free → ∃ c, X.env.cells.lookup y.1 = some c := fun y hy e => by
    rcases ok.free y hy e with k | k
    · exact I.ok.has _ (.inl k)
    · exact I.ok.has _ (.inr k)
  refine wpAny_comprehension_free (use := use) rfl hs (closure_ok hfree) ok.kind (fun y hy e => by rw [ok.uniq y hy, e])
    (thn (hi.run pins s σ H _ I h) fun xv s1 hx => thn hx fun itv s2 h2 => ?_)
  obtain ⟨it, fp, tn, J, H2, e, I2, T, st2, f2, q⟩ := h2
  subst e
  refine wpAny_newObj_type (newEnv_comp ?_)
  generalize hD : s2.heap.objs.size = D
  have hDn : H2 D = none := I2.hok.fresh (Nat.le_of_eq hD)
  obtain ⟨W, ⟨m0, w0⟩, turn⟩ := q D hDn
  -- the new list
  generalize hs3 : ({ s2 with heap := s2.heap.push { cls := .type "dict", data := .dict #[] } } : Shared) = s3
  have I3 : Inv X pins σ (upd H2 D (.dT [])) s3 := by
    rw [← hs3]
    refine I2.laid (t' := s2.toks) (fun b o e => Heap.get?_push_of_some _ e) (Nat.le_of_eq hD) ?_
    rw [← hD]
    exact dt_empty s2.heap I2.big
  have h3 : s3.heap = s2.heap.push { cls := .type "dict", data := .dict #[] } := by rw [← hs3]
  have sz : ∀ b ∈ fp, b < s2.heap.objs.size := fun b hb => by
    obtain ⟨o, e, _⟩ := T.obj _ _ st2 b hb
    exact Heap.lt_size e
  have f3 : ∀ b ∈ fp, FpOk X pins (upd H2 D (.dT [])) b ∧ b < s3.heap.objs.size := fun b hb => by
    have hlt := sz b hb
    refine ⟨⟨?_, (f2 b hb).2⟩, by rw [h3, Heap.size_push]; exact Nat.lt_succ_of_lt hlt⟩
    rw [upd_ne (by rw [← hD]; exact Nat.ne_of_lt hlt)]
    exact (f2 b hb).1
  have st3 : tn 0 s3.heap := T.keep _ _ _ st2 fun b _ o e => by rw [h3]; exact Heap.get?_push_of_some _ e
  have I4 := block_start I3 ok hN f3
  have pg := hg s3 (upd H2 D (.dT [])) s3.heap.objs.size (cellsFrom (s3.heap.objs.size + 1) scope.names (cloFrom X.env.cells scope.names [])) fp
  have pt := ht s3 (upd H2 D (.dT [])) s3.heap.objs.size (cellsFrom (s3.heap.objs.size + 1) scope.names (cloFrom X.env.cells scope.names [])) fp
  have pk := hk s3 (upd H2 D (.dT [])) s3.heap.objs.size (cellsFrom (s3.heap.objs.size + 1) scope.names (cloFrom X.env.cells scope.names [])) fp
  have pe := he s3 (upd H2 D (.dT [])) s3.heap.objs.size (cellsFrom (s3.heap.objs.size + 1) scope.names (cloFrom X.env.cells scope.names [])) fp
  show codeAny _ _ (.compStart (.DictComp kx vx [⟨tg, iter, ifs, 0⟩] scope pos) 0 (.ref it) (.ref D) (compEnvC scope (cellsFrom (s3.heap.objs.size + 1) scope.names (cloFrom X.env.cells scope.names [])) s3.heap.objs.size X.env)) (compPost (model X.prog X.w) X.A X.xe use Qf (.ref D) s3.heap.objs.size) { s3 with heap := pushCells (s3.heap.push { cls := .type "dict", data := .dict #[] }) scope.names }
  have nfp : ∀ b ∈ fp, (upd H2 D (.dT [])) b = none := fun b hb => (f3 b hb).1.1
  generalize hce : compEnvC scope (cellsFrom (s3.heap.objs.size + 1) scope.names (cloFrom X.env.cells scope.names [])) s3.heap.objs.size X.env = ce at I4 pg pt pk pe ⊢
  have cL : ce.locals = s3.heap.objs.size := by subst hce; rfl
  generalize hH3 : upd H2 D (.dT []) = H3 at I3 I4 pg pt pk pe w0 nfp f3
  generalize hs4 : ({ s3 with heap := pushCells (s3.heap.push { cls := .type "dict", data := .dict #[] }) scope.names } : Shared) = s4 at I4 ⊢
  have st4 : tn 0 s4.heap := T.keep _ _ _ st3 fun b _ o e => by rw [← hs4]; exact pushCells_keeps _ _ _ _ (Heap.get?_push_of_some _ e)
  have stat : ∀ {σ' : St} {H' : Hp} {s' : Shared}, Inv (X.blk s3 H3 scope ce fp) [] σ' H' s' → (∀ b ∈ fp, H' b = none) → ∀ b ∈ fp, FpOk (X.blk s3 H3 scope ce fp) [] H' b := fun {σ' H' s'} I' hn b hb =>
    ⟨hn b hb, (I'.ok.exf b hb).1, I'.ok.exfs b hb, .inl hb, fun x c e => (I'.ok.exf b hb).2 x c e, fun p hp => absurd (show p ∈ ([] : List (Addr × Obj)) ++ [] from hp) (by simp)⟩
  have loop : codeAny (model X.prog X.w) X.A (.compLoop (.DictComp kx vx [⟨tg, iter, ifs, 0⟩] scope pos) 0 (.ref it) (.ref D) ce) (compPost (model X.prog X.w) X.A X.xe use Qf (.ref D) s3.heap.objs.size) s4 := by
    refine compLoop_anyD (fun n s' => ∃ i H', Inv (X.blk s3 H3 scope ce fp) [] (wipe σ (own.map (·.2))) H' s' ∧ tn i s'.heap ∧ (∀ b ∈ fp, H' b = none) ∧ W i n H') ?_ m0 ⟨0, H3, I4, st4, nfp, w0⟩
    rintro n s5 ⟨i, H5, I5, st5, n5, w5⟩
    rcases turn i n H5 w5 with ⟨stop, qq⟩ | ⟨go, Nx, hNx, step⟩
    · have td := T.done (X.blk s3 H3 scope ce fp) rfl rfl rfl hc i [] s5 _ H5 (fun _ _ => False) I5 (stat I5 n5) st5 stop
      refine thnF td fun r s6 ⟨hr, I6⟩ => ?_
      subst hr
      -- back in the def's context
      have I7 : Inv X pins σ H5 s6 := I3.call' (ch := fp) I6.os I6.base I6.hok I6.bare fun b hb => ⟨(f3 b hb).1.2.2.2.1, (f3 b hb).1.2.1, (f3 b hb).1.2.2.2.2.1, (f3 b hb).1.2.2.2.2.2⟩
      have nC : H5 s3.heap.objs.size = none := by
        have z : H5 ce.locals = none := I6.free
        rw [cL] at z
        exact z
      obtain ⟨m, hn, _⟩ := I6.loc
      have hn : s6.heap.Ns ce.locals m := hn
      rw [cL] at hn
      exact hRR D s3.heap.objs.size s6 m H5 I7 qq hn (I3.fpOk (Nat.le_refl _) nC)
    · have ti := T.item (X.blk s3 H3 scope ce fp) rfl rfl rfl hc i [] s5 _ H5 (fun _ _ => False) I5 (stat I5 n5) st5 go
      refine thnF ti fun r s6 ⟨u, hr, h6⟩ => ?_
      subst hr
      refine thnF h6 fun _ s7 ⟨x, H7, I7, r7, y7, st7, n7⟩ => ?_
      have I7' := I7.pinned (stat I7 n7) (T.obj _ _ st7)
      refine thnF (pg.run _ s7 _ H7 x u _ I7' r7 (step x H7 y7)) fun _ s8 ⟨σ8, H8, I8, hw8, q8⟩ => ?_
      refine thnF (pt.run _ s8 σ8 H8 _ I8 q8) fun b s9 ⟨H9, I9, q9⟩ => ?_
      -- the turn's end
      have fin : ∀ {s' : Shared} {H' : Hp}, Inv (X.blk s3 H3 scope ce fp) ([] ++ pinsAt fp s7.heap) σ8 H' s' → Nx H' → ∃ m, m < n ∧ ∃ i H', Inv (X.blk s3 H3 scope ce fp) [] (wipe σ (own.map (·.2))) H' s' ∧ tn i s'.heap ∧ (∀ b ∈ fp, H' b = none) ∧ W i m H' := fun {s' H'} I' nx => by
        obtain ⟨m', hm, w'⟩ := hNx H' nx
        have pin' : ∀ b ∈ fp, ∀ o, s7.heap.get? b = some o → s'.heap.get? b = some o ∧ H' b = none := fun b hb o e =>
          let z := I'.pin (b, o) (List.mem_append_right _ (List.mem_append_right _ (mem_pinsAt hb e)))
          ⟨z.1, z.2.1⟩
        have hl : (wipe σ (own.map (·.2))).length = σ8.length := by rw [← hw8, wipe_length]
        refine ⟨m', hm, i + 1, H', (I'.unpinned (pins := [])).weak hl (fun j v e => ?_), T.keep _ _ _ st7 fun b hb o e => (pin' b hb o e).1, fun b hb => ?_, w'⟩
        · rw [← hw8] at e
          exact (wipe_some e).1
        · obtain ⟨o, e, _⟩ := T.obj _ _ st7 b hb
          exact (pin' b hb o e).2
      cases b with
      | false =>
        simp only [Bool.false_eq_true, if_false] at q9 ⊢
        exact fin I9 q9
      | true =>
        simp only [if_true] at q9 ⊢
        refine thnF (pk.run _ s9 σ8 H9 _ I9 q9) fun z s10 ⟨yk, H10, I10, r10, q10⟩ => ?_
        refine thnF (pe.run _ s10 σ8 H10 _ I10 q10) fun z2 s11 ⟨yv, H11, I11, r11, kvs, k, bb, ek, hkb, hD11, hz11, nx⟩ => ?_
        subst ek
        exact d_dictSetT (X := X.blk s3 H3 scope ce fp) hu I11 hD11 hkb hz11 r10 r11 fun s12 I12 => fin I12 nx
  exact codeAny_compStart_dict loop (T.self X.A 0 _ _ _ st4 loop)
/-- as a value -/
theorem pe_dcT {kx vx tg iter : Expr} {ifs : List Expr} {scope : Scope} {own : List (Str × Nat)} {pos : Pos} {wi : TI} {g : TG} {tt : TT} {tk tv : TE} (hu : X.A.units + 1 < cLine) (hc : X.calm = true) (hN : X.N.Nodup) (hi : PI X tg iter wi) (ok : BlkOk X.N X.env.scope scope own)
    (hg : ∀ (s : Shared) (H : Hp) (C : Addr) (cl : List (Str × Addr)) (fp : List Addr), PG (X.blk s H scope (compEnvC scope cl C X.env) fp) tg g) (ht : ∀ (s : Shared) (H : Hp) (C : Addr) (cl : List (Str × Addr)) (fp : List Addr), PTs (X.blk s H scope (compEnvC scope cl C X.env) fp) ifs tt)
    (hk : ∀ (s : Shared) (H : Hp) (C : Addr) (cl : List (Str × Addr)) (fp : List Addr), PE (X.blk s H scope (compEnvC scope cl C X.env) fp) kx tk)
    (he : ∀ (s : Shared) (H : Hp) (C : Addr) (cl : List (Str × Addr)) (fp : List Addr), PE (X.blk s H scope (compEnvC scope cl C X.env) fp) vx tv) (hs : ∀ x, foldedSetIterable iter X.env x = pure x := by intro _; rfl) :
    PE X (.DictComp kx vx [⟨tg, iter, ifs, 0⟩] scope pos) (tDcT wi g tt tk tv (own.map (·.2))) := by
  refine ⟨fun pins s σ H Q I h => ?_⟩
  rw [arm_eval_DictComp]
  refine dc_coreT hu hc hN I hi ok hg ht hk he hs h fun D C s' m H' I' q hn f => ⟨m, hn, fun h'' sb => ?_⟩
  obtain ⟨f0, f1, f2, f3, f4, f5⟩ := f
  exact ⟨.ref D, H', I'.turned (t' := s'.toks) (fun b o hb e => (sb.2 b hb).trans e) f0 f1 f3 f4 f5, rfl, q⟩

end
/-- {k: v for gt in ti if tt}, keys tuples -/
def dDcT (ti : DI) (gt : DG) (tt : DT) (tk tv : DE) (vs : List Nat) : DE := fun ρ g Q => ti ρ g fun ds stay g1 => ds.length ≤ sizeLine ∧ ∃ P : Nat → List (List Key × D) → G → Prop, P 0 [] g1 ∧ (∀ i acc g, P i acc g → stay g) ∧
  (∀ i x acc g, ds[i]? = some x → P i acc g → gt x (dwipe ρ vs) g fun ρ2 g2 => tt ρ2 g2 fun b g3 => if b = true then tk ρ2 g3 fun y g4 => tv ρ2 g4 fun z g5 => ∃ es k, y = .tup es ∧ keysOf es = some k ∧ P (i + 1) (putD acc k z) g5 else P (i + 1) acc g3) ∧
  ∀ acc g p, P ds.length acc g → acc.length ≤ ds.length → g p = none → Q (.obj p) (gup g p (.dT acc))
theorem rkv_mono {κ : Type} {K : PySem.W.Frag} {H H' : Hp} (m : Kept K H H') {ds : List (κ × D)} {xs : List (κ × V)} (h : RelKV K H ds xs) : RelKV K H' ds xs := RelKV.mono m _ _ h
theorem putD_length {κ : Type} [DecidableEq κ] (kvs : List (κ × D)) (k : κ) (v : D) : (putD kvs k v).length ≤ kvs.length + 1 := by
  unfold putD
  split
  · rw [List.length_map]; omega
  · rw [List.length_append]; simp
section
variable {K : PySem.W.Frag} {H H1 : Hp} {g g1 : G} {p : Addr} {xs ys : List (List Key × V)}
theorem kept_hidT (h : H p = some (.dT xs)) : Kept K H (upd H p (.dT ys)) := ⟨fun a zs e => by
    have : a ≠ p := fun z => by subst z; rw [h] at e; cases e
    rw [upd_ne this]; exact e, fun a o u e => by
    have : a ≠ p := fun z => by subst z; rw [h] at e; cases e
    rw [upd_ne this]; exact e⟩
theorem Sim.hidT (S : Sim K H g) (n : g p = none) (h : H p = some (.dT xs)) : Sim K (upd H p (.dT ys)) g := fun a o e => by
  obtain ⟨u, hu, r⟩ := S a o e
  have : a ≠ p := fun z => by subst z; rw [n] at e; cases e
  exact ⟨u, by rw [upd_ne this]; exact hu, RelO.mono (kept_hidT h) _ _ r⟩
theorem Sim.laidDT (S : Sim K H g) (h : H p = none) : Sim K (upd H p (.dT xs)) g := fun a o e => by
  obtain ⟨u, hu, r⟩ := S a o e
  have : a ≠ p := fun z => by subst z; rw [h] at hu; cases hu
  refine ⟨u, by rw [upd_ne this]; exact hu, RelO.mono ⟨fun b zs q => ?_, fun b o u q => ?_⟩ _ _ r⟩
  · rw [upd_ne (fun z => by subst z; rw [h] at q; cases q)]; exact q
  · rw [upd_ne (fun z => by subst z; rw [h] at q; cases q)]; exact q
theorem Ext.laidDT (h : H p = none) (n : g p = none) : Ext H g (upd H p (.dT xs)) g := fun a u e q => by
  have : a ≠ p := fun z => by subst z; rw [h] at e; cases e
  rw [upd_ne this]; exact ⟨e, q⟩
end
section
variable {X : Cx} {B : Bs}
theorem ldcT {ti : DI} {gt : DG} {tt : DT} {tk tv : DE} {vs : List Nat} {σ : St} {H : Hp} {Q : VK} (h : LE X.K B (dDcT ti gt tt tk tv vs) σ H Q) : tDcT (LI X.K B ti) (LG X.K B vs gt) (LT X.K B tt) (LE X.K B tk) (LE X.K B tv) vs σ H Q := by
  obtain ⟨ρ, g, Q0, at_, h, p⟩ := h
  refine ⟨ρ, g, _, at_, h, fun ds stay g1 H1 J ⟨hsz, P, h0, hst, hs, hd⟩ e1 s1 wk D hD => ?_⟩
  refine ⟨fun i m H' => ∃ acc accV g', P i acc g' ∧ Sim X.K H' g' ∧ Ext H1 g1 H' g' ∧ H' D = some (.dT accV) ∧ g' D = none ∧ RelKV X.K H' acc accV ∧ acc.length ≤ i ∧ i ≤ ds.length ∧ m = ds.length - i,
    ⟨_, [], [], g1, h0, s1.laidDT hD, Ext.laidDT hD (s1.fresh hD), upd_same, s1.fresh hD, by unfold RelKV; rfl, Nat.le_refl _, Nat.zero_le _, rfl⟩, ?_⟩
  rintro i m H' ⟨acc, accV, g', hP, s', e', hDv, hDg, rs, hl, hi, rfl⟩
  rcases Nat.lt_or_ge i ds.length with hlt | hge
  · refine .inr ?_
    have hd' := List.getElem?_eq_getElem hlt
    obtain ⟨go, yl⟩ := wk.go i H' g' s' (s1.kept e') (hst _ _ _ hP) _ hd'
    refine ⟨go, fun H2 => ∃ acc2 accV2 g2, P (i + 1) acc2 g2 ∧ Sim X.K H2 g2 ∧ Ext H1 g1 H2 g2 ∧ H2 D = some (.dT accV2) ∧ g2 D = none ∧ RelKV X.K H2 acc2 accV2 ∧ acc2.length ≤ i + 1,
      fun H2 ⟨acc2, accV2, g2, a1, a2, a3, a4, a5, a6, a7⟩ => ⟨ds.length - (i + 1), by omega, acc2, accV2, g2, a1, a2, a3, a4, a5, a6, a7, hlt, rfl⟩, fun x H2 y => ?_⟩
    obtain ⟨rx, ex, sx⟩ := yl x H2 y
    have E2 := e1.trans (e'.trans ex)
    have env2 := ((at_.env.ext at_.sim E2).wiped vs)
    refine ⟨_, dwipe ρ vs, g', _, rx, ⟨env2, sx, at_.ext.trans E2⟩, hs i _ acc g' hd' hP, fun ρ2 g2 σ2 H3 q2 e2 s2 v2 o2 => ⟨wipe_of_out o2, ?_⟩⟩
    refine ⟨ρ2, g2, _, ⟨v2, s2, at_.ext.trans (E2.trans e2)⟩, q2, fun b g3 H4 q3 e3 s3 => ?_⟩
    cases b with
    | false =>
      have E4 := ((ex.trans e2).trans e3)
      obtain ⟨n1, n2⟩ := E4 D _ hDv hDg
      exact ⟨acc, accV, g3, q3, s3, e'.trans E4, n1, n2, rkv_mono (s'.kept E4) rs, by omega⟩
    | true =>
      refine ⟨ρ2, g3, _, ⟨v2.ext s2 e3, s3, at_.ext.trans ((E2.trans e2).trans e3)⟩, q3, fun dk g4 v H5 q4 e4 s4 r4 => ?_⟩
      refine ⟨ρ2, g4, _, ⟨(v2.ext s2 e3).ext s3 e4, s4, at_.ext.trans (((E2.trans e2).trans e3).trans e4)⟩, q4, fun dv g5 z H6 ⟨es, k, ek, hk, q5⟩ e5 s5 r5 => ?_⟩
      subst ek
      obtain ⟨bb, ys, rfl, hb, rb⟩ := rel_tup r4
      cases keysOf_rel hk rb
      have E5 := (((ex.trans e2).trans e3).trans e4).trans e5
      obtain ⟨n1, n2⟩ := E5 D _ hDv hDg
      have rl := rkv_mono (s'.kept E5) rs
      have ll : accV.length < sizeLine := by rw [← rkv_length rs]; omega
      have hb' := (s4.kept e5).tup _ _ hb
      refine ⟨accV, k, bb, rfl, hb', n1, ll, putD acc k dv, putK accV k z, g5, q5, s5.hidT n2 n1, (e'.trans E5).hid hD, upd_same, n2, rkv_mono (kept_hidT n1) (rkv_put rl r5), by have := putD_length acc k dv; omega⟩
  · refine .inl ⟨wk.stop i H' g' s' (s1.kept e') (hst _ _ _ hP) hge, ?_⟩
    have : i = ds.length := Nat.le_antisymm hi hge
    subst this
    refine p _ _ _ _ (hd acc g' D hP hl hDg) (e1.trans (e'.tell hD)) (s'.tell hDv ⟨_, rfl, rs⟩) (by unfold Rel; rfl)
theorem je_dcT {kx vx tg iter : Expr} {ifs : List Expr} {scope : Scope} {own : List (Str × Nat)} {pos : Pos} {ti : DI} {gt : DG} {tt : DT} {tk tv : DE} (hu : X.A.units + 1 < cLine) (hc : X.calm = true) (hN : X.N.Nodup) (hi : JI X B tg iter ti) (ok : BlkOk X.N X.env.scope scope own)
    (hg : ∀ (s : Shared) (H : Hp) (C : Addr) (cl : List (Str × Addr)) (fp : List Addr), JG (X.blk s H scope (compEnvC scope cl C X.env) fp) B (own.map (·.2)) tg gt)
    (ht : ∀ (s : Shared) (H : Hp) (C : Addr) (cl : List (Str × Addr)) (fp : List Addr), JTs (X.blk s H scope (compEnvC scope cl C X.env) fp) B ifs tt)
    (hk : ∀ (s : Shared) (H : Hp) (C : Addr) (cl : List (Str × Addr)) (fp : List Addr), JE (X.blk s H scope (compEnvC scope cl C X.env) fp) B kx tk)
    (he : ∀ (s : Shared) (H : Hp) (C : Addr) (cl : List (Str × Addr)) (fp : List Addr), JE (X.blk s H scope (compEnvC scope cl C X.env) fp) B vx tv) (hs : ∀ x, foldedSetIterable iter X.env x = pure x := by intro _; rfl) :
    JE X B (.DictComp kx vx [⟨tg, iter, ifs, 0⟩] scope pos) (dDcT ti gt tt tk tv (own.map (·.2))) :=
  pe_imp (pe_dcT hu hc hN hi ok hg ht hk he hs) fun σ H Q h => ldcT h
theorem sw_trueD {kx vx : Expr} {gs : List Comprehension} {scope : Scope} {pos py : Pos} {y : Str} {l : Nat} {env : Env} (hk : env.scope.kind = .function) (hy : env.scope.names.lookup y = some .local) (hl : (py.line == pos.line) = true)
    (ha : (scope.names.any fun (n, k) => n == y && (k == .local || k == .cell)) = false) : swapsWith (.DictComp kx vx gs scope pos) (some (.Name y py)) l env = pure true := by
  have ky : env.kindOf y = some .local := hy
  have hb : env.blockKind = .function := by unfold Env.blockKind; rw [hk]; rfl
  unfold swapsWith
  show pure (env.blockKind == .function && env.kindOf y == some .local && py.line == pos.line && !(scope.names.any fun (n, k) => n == y && (k == .local || k == .cell))) = _
  rw [hb, ky, hl, ha]
  rfl
theorem ps_setDcT {i : Nat} {y : Str} {py : Pos} {kx vx tg iter : Expr} {ifs : List Expr} {scope : Scope} {own : List (Str × Nat)} {pos spos : Pos} {wi : TI} {g : TG} {tt : TT} {tk tv : TE} (hu : X.A.units + 1 < cLine) (hc : X.calm = true) (hN : X.N.Nodup) (hy : X.N[i]? = some y) (hyl : X.env.scope.names.lookup y = some .local)
    (hsw : swapsWith (.DictComp kx vx [⟨tg, iter, ifs, 0⟩] scope pos) (some (.Name y py)) spos.line X.env = pure true) (hi : PI X tg iter wi) (ok : BlkOk X.N X.env.scope scope own)
    (hg : ∀ (s : Shared) (H : Hp) (C : Addr) (cl : List (Str × Addr)) (fp : List Addr), PG (X.blk s H scope (compEnvC scope cl C X.env) fp) tg g) (ht : ∀ (s : Shared) (H : Hp) (C : Addr) (cl : List (Str × Addr)) (fp : List Addr), PTs (X.blk s H scope (compEnvC scope cl C X.env) fp) ifs tt)
    (hk : ∀ (s : Shared) (H : Hp) (C : Addr) (cl : List (Str × Addr)) (fp : List Addr), PE (X.blk s H scope (compEnvC scope cl C X.env) fp) kx tk)
    (he : ∀ (s : Shared) (H : Hp) (C : Addr) (cl : List (Str × Addr)) (fp : List Addr), PE (X.blk s H scope (compEnvC scope cl C X.env) fp) vx tv) (hs : ∀ x, foldedSetIterable iter X.env x = pure x := by intro _; rfl) :
    PS X (.Assign [.Name y py] (.DictComp kx vx [⟨tg, iter, ifs, 0⟩] scope pos) spos) (tAsg (tDcT wi g tt tk tv (own.map (·.2))) (gName i)) := by
  refine ⟨fun pins s σ H D I h => ?_⟩
  rw [exec_Assign_Name_used _ _ _ _ hsw]
  refine wpAny_bind (wpAny_standAt (wpAny_bind ?_))
  show wpAny _ X.A (do let _ ← comprehension (.DictComp kx vx [⟨tg, iter, ifs, 0⟩] scope pos) scope X.env (firstIterPos [⟨tg, iter, ifs, 0⟩] pos) newDict false (eval iter X.env) (some (assign (.Name y py) X.env))) _ _ s
  have h : tDcT wi g tt tk tv (own.map (·.2)) σ H (fun x H1 => gName i x σ H1 D.nx) := h
  refine wpAny_bind (thn (dc_coreT (Qf := fun _ s' => SP X pins D .next s') hu hc hN I hi ok hg ht hk he hs h fun L C s' m H' I' q hn f => ?_) fun _ s' hq => wpAny_pure (wpAny_pure hq))
  show wpAny _ _ (assign (.Name y py) X.env (.ref L)) _ _ _
  refine wpAny_assign_Name (store_ok2 (v := V.ref L) I' hN hy (.inl hyl) rfl (fun s2 I2 ⟨a, sb, ha⟩ => ?_) (.inr hyl))
  obtain ⟨f0, f1, f2, f3, f4, f5⟩ := f
  have haC : C ≠ a := by
    rcases ha with z | z
    · rw [z]; exact f1
    · exact fun e => f4 y a z e.symm
  refine ⟨m, hn.sameBut sb haC, fun h3 sb3 => ?_⟩
  exact ⟨_, H', I2.turned (t' := s2.toks) (fun b o hb e => (sb3.2 b hb).trans e) f0 f1 f3 f4 f5, q⟩
theorem js_setDcT {i : Nat} {y : Str} {py : Pos} {kx vx tg iter : Expr} {ifs : List Expr} {scope : Scope} {own : List (Str × Nat)} {pos spos : Pos} {ti : DI} {gt : DG} {tt : DT} {tk tv : DE} (hu : X.A.units + 1 < cLine) (hc : X.calm = true) (hN : X.N.Nodup) (hy : X.N[i]? = some y) (hyl : X.env.scope.names.lookup y = some .local)
    (hsw : swapsWith (.DictComp kx vx [⟨tg, iter, ifs, 0⟩] scope pos) (some (.Name y py)) spos.line X.env = pure true) (hi : JI X B tg iter ti) (ok : BlkOk X.N X.env.scope scope own)
    (hg : ∀ (s : Shared) (H : Hp) (C : Addr) (cl : List (Str × Addr)) (fp : List Addr), JG (X.blk s H scope (compEnvC scope cl C X.env) fp) B (own.map (·.2)) tg gt)
    (ht : ∀ (s : Shared) (H : Hp) (C : Addr) (cl : List (Str × Addr)) (fp : List Addr), JTs (X.blk s H scope (compEnvC scope cl C X.env) fp) B ifs tt)
    (hk : ∀ (s : Shared) (H : Hp) (C : Addr) (cl : List (Str × Addr)) (fp : List Addr), JE (X.blk s H scope (compEnvC scope cl C X.env) fp) B kx tk)
    (he : ∀ (s : Shared) (H : Hp) (C : Addr) (cl : List (Str × Addr)) (fp : List Addr), JE (X.blk s H scope (compEnvC scope cl C X.env) fp) B vx tv) (hs : ∀ x, foldedSetIterable iter X.env x = pure x := by intro _; rfl) :
    JS X B (.Assign [.Name y py] (.DictComp kx vx [⟨tg, iter, ifs, 0⟩] scope pos) spos) (dSet i (dDcT ti gt tt tk tv (own.map (·.2)))) :=
  ps_imp (ps_setDcT hu hc hN hy hyl hsw hi ok hg ht hk he hs) fun D σ H ⟨ρ, g, d, at_, h, p⟩ => ldcT ⟨ρ, g, _, at_, h, fun x g1 v H1 h1 e1 s1 r1 => p.nx _ _ _ _ h1 e1 s1 ((at_.env.ext at_.sim e1).set r1 i)⟩
end
end L2.DL

/-! DL11: the own defs by name. -/
namespace L2.DL
open PySem PySem.Spec PyProof.Rows
/-- the module's x is a def that keeps r, at call depth k -/
structure Own (P : Program) (w : World) (K : PySem.W.Frag) (mg : Str → Option Value) (base : Heap) (x : Str) (ps : List Str) (k : Nat) (r : DN) : Prop where
  ex : ∃ f fd, FnOk P w K mg base CX0 k f fd ps (spD K ps.length r) ∧ mg x = some (.ref f) ∧ PySem.W.keepIn K (.ref f) = true ∧ Binds K fd ps [] ∧ KBn K fd ps 0 ps (fun _ ws => ws) (fun _ zs => zs)
section
variable {P : Program} {w : World} {K : PySem.W.Frag} {mg : Str → Option Value} {base : Heap} {x qual : Str} {ps : List Str} {k : Nat} {r r' : DN}
theorem Own.mono {j : Nat} (o : Own P w K mg base x ps j r) (h : j ≤ k) : Own P w K mg base x ps k r := by
  obtain ⟨f, fd, h1, h2⟩ := o.ex
  exact ⟨f, fd, h1.mono h, h2⟩
theorem Own.imp (o : Own P w K mg base x ps k r) (h : ∀ ds g Q, r' ds g Q → r ds g Q) : Own P w K mg base x ps k r' := by
  obtain ⟨f, fd, h1, h2⟩ := o.ex
  exact ⟨f, fd, h1.imp fun vs H Q E ⟨ds, g, Q0, a, b, c, d, e⟩ => ⟨ds, g, Q0, a, b, c, h _ _ _ d, e⟩, h2⟩
/-- the text of a def -/
structure Tx (K : PySem.W.Frag) (mg : Str → Option Value) (x qual : Str) (st : Stmt) (ps : List Str) : Prop where
  ex : ∃ f fd, Fun K x qual st f fd ∧ mg x = some (.ref f) ∧ Binds K fd ps [] ∧ KBn K fd ps 0 ps (fun _ ws => ws) (fun _ zs => zs)
theorem tx_mk {st : Stmt} {f : Addr} {oc : Value} {od an : Option Addr} {osl : Array (Option Value)} {kV doc pm cdv ct : Value} {h : Heap} (X : K.In h) (G : h.Ns mainGlobals mg) (a : PySem.W.nsIn K mainGlobals x = some (some (.ref f)))
    (l : K.lookup f = some ⟨oc, od, .func (PySem.W.fnOf x qual (defArgs st) (defBody st) (defScope st) .none kV doc pm an cdv ct), osl⟩)
    (c : PySem.W.codeIn K cdv qual = true) (k : PySem.W.keepIn K (.ref f) = true)
    (hb : ∀ (kV doc pm : Value) (an : Option Addr) (cdv ct : Value) (us : List Value), us.length = ps.length → bindArgs (PySem.W.fnOf x qual (defArgs st) (defBody st) (defScope st) .none kV doc pm an cdv ct) ⟨us, []⟩ = pure (ps.zip us))
    (hw : ∀ (kV doc pm : Value) (an : Option Addr) (cdv ct : Value) (us : List Value), us.length = ps.length → bindArgs (PySem.W.fnOf x qual (defArgs st) (defBody st) (defScope st) .none kV doc pm an cdv ct) ⟨[], ps.zip us⟩ = pure (ps.zip us)) : Tx K mg x qual st ps :=
  ⟨f, _, fun_mk l c k, PySem.W.mg_of X G a, (fun_mk l c k).binds hb, ⟨fun s us ws _ hu hw' => by
    have : us = [] := List.eq_nil_of_length_eq_zero hu
    subst this
    exact .of_eq (hw _ _ _ _ _ _ ws hw'), fun _ r => r⟩⟩
/-- a def by its walk and its plain law -/
theorem Tx.own {st : Stmt} {N : List Str} (T : Tx K mg x qual st ps) (t : DS) (S : FnScope N ps (defScope st))
    (hw : ∀ (f : Addr) (cdv : Value) (A : Around) (outer : List Env) (s : Shared) (H : Hp) (E : XK) (B : Bs), Room k (A.deeper (envOfC qual (defScope st) s.heap.objs.size f cdv)) → JSs (cxOf CX0 P w K mg base N qual (defScope st) f cdv A outer s H E).nox B (defBody st) t)
    (hp : ∀ (ds : List D) (g : G) (Q : D → G → Prop), ds.length = ps.length → r ds g Q → t { nx := fun _ g' => Q .non g', rt := Q } (dstart N.length ds) g) : Own P w K mg base x ps (k + 1) r := by
  obtain ⟨f, fd, F, h2, h3, h4⟩ := T.ex
  exact ⟨f, fd, okD t F S rfl (hw f) hp, h2, F.kp, h3, h4⟩
/-- nothing is promised -/
theorem Tx.none {st : Stmt} (T : Tx K mg x qual st ps) : Own P w K mg base x ps k (fun _ _ _ => False) := by
  obtain ⟨f, fd, F, h2, h3, h4⟩ := T.ex
  exact ⟨f, fd, ⟨fun vs H Q E h => by obtain ⟨ds, g, Q0, a, b, c, d, e⟩ := h; exact d.elim, fun A outer s H args us vs Q E hr he hb hv h => by obtain ⟨ds, g, Q0, a, b, c, d, e⟩ := h; exact d.elim⟩, h2, F.kp, h3, h4⟩
end
theorem hu64 {A : Around} {k : Nat} (hr : Room k A) : A.units + 64 < cLine := Nat.lt_of_le_of_lt (Nat.add_le_add_left (by omega : 64 ≤ 16 * k + 200) _) (by have := hr.un; omega)
section
variable {X : Cx} {B : Bs} {x : Str} {p pos : Pos} {e : Expr} {es : List Expr} {ts : DA} {r : DN} {j k : Nat} {ps : List Str} {n : Nat}
theorem je_own (o : Own X.prog X.w X.K X.mg X.base x ps j r) (hn : ps.length = n) (h : j ≤ k) (hr : Room k X.A) (hg : Gl X x) (ha : JA X B (e :: es) ts)
    (hdb : (x == ("__debug__" : Str)) = false := by decide) (he : starEach (e :: es) X.env = (false, eval e X.env) :: starEach es X.env := by rfl) (hpl : (backTo pos (starEach es X.env)).any (·.1) = false := by rfl) : JE X B (.Call (.Name x p) (e :: es) [] pos) (dCall n r ts) := by
  subst hn
  obtain ⟨f, fd, h1, h2, h3, h4, h5⟩ := (o.mono h).ex
  exact je_call h1 hr hg h2 h3 h4 ha hdb he hpl
theorem je_own0 (o : Own X.prog X.w X.K X.mg X.base x ps j r) (hn : ps.length = n) (h : j ≤ k) (hr : Room k X.A) (hg : Gl X x) (hdb : (x == ("__debug__" : Str)) = false := by decide) : JE X B (.Call (.Name x p) [] [] pos) (dCall n r dNil) := by
  subst hn
  obtain ⟨f, fd, h1, h2, h3, h4, h5⟩ := (o.mono h).ex
  exact je_call0 h1 hr hg h2 h3 h4 hdb
theorem je_ownK {kws : List Keyword} {tk : DA} (o : Own X.prog X.w X.K X.mg X.base x ps j r) (hn : ps.length = n) (h : j ≤ k) (hr : Room k X.A) (hg : Gl X x) (hkw : JK X B kws tk)
    (hall : (backToKw pos (keywordEach kws X.env)).all (·.1.isSome) = true := by rfl) (hks : (backToKw pos (keywordEach kws X.env)).filterMap (·.1) = ps := by rfl)
    (hdb : (x == ("__debug__" : Str)) = false := by decide) (hpl : ((backTo pos (starEach [] X.env)).any (·.1) || (backToKw pos (keywordEach kws X.env)).any (·.1.isNone)) = false := by rfl) :
    JE X B (.Call (.Name x p) [] kws pos) (dCallK n n id r tk) := by
  subst hn
  obtain ⟨f, fd, h1, h2, h3, h4, h5⟩ := (o.mono h).ex
  exact je_callK (gD := id) (gg := fun ws => ws) (gV := fun zs => zs) h1 hr hg h2 h3 h5 (fun _ _ _ r => r) hkw hall hks hdb hpl
end
end L2.DL

/-! DL12: an own exception's __init__ that says super().__init__(..): the first statement, then the def. -/
namespace L2.DL
open PySem PySem.Spec PyProof.Rows
/-- what the text says of the class at C and its __init__ at f -/
structure SupF (P : Program) (K : PySem.W.Frag) (mg : Str → Option Value) (C f cc cda : Addr) (fd : FuncData) (ar : Str) : Prop where
  cls : OexC K C
  sup : PySem.W.ks_superIn K C C "__init__" = some (some (.builtin "ValueError.__init__"))
  ve : PySem.W.subIn K (.ref C) (.type "ValueError") = some true
  op : PySem.W.nsIn K cStatics "thirdparty.any" = some none
  mro : PySem.W.mroIn K C (.ref C) = some true
  fn : ∃ oc od osl, K.lookup f = some ⟨oc, od, .func fd, osl⟩
  par : ∃ a : Arg, (fd.params.posonlyargs ++ fd.params.args).head? = some a ∧ a.arg = ar
  cell : ∃ cl cld csl, K.lookup cc = some ⟨cl, cld, .cell (some (.ref C)), csl⟩
  code : ∃ ccl cdd ccs vs file tf, K.lookup cda = some ⟨ccl, cdd, .fields vs, ccs⟩ ∧ vs[2]? = some (.str file tf) ∧ ((P.main.file : Str) == file) = true
  msup : mg "super" = none
  top : (P.main.scope.names.lookup ("super" : Str)).isSome = false
section
variable {X : Cx} {pins : List (Addr × Obj)} {σ : St} {H : Hp} {s : Shared} {a C f cc cda : Addr} {fd : FuncData} {ar : Str} {e : Expr} {es : List Expr} {ta : TA} {p0 p1 p2 pos pos2 : Pos} {body : List Stmt} {pl : Sem Bool}
theorem sup_first (T : SupF X.prog X.K X.mg C f cc cda fd ar) (hks : X.env.kindOf "super" = some .globalImplicit) (hkc : X.env.kindOf "__class__" = some .free) (hka : X.env.kindOf ar = some .local)
    (hcl : X.env.cells.lookup ("__class__" : Str) = some cc) (hfu : X.env.func = some f) (hco : X.env.code = .ref cda) (I : Inv X pins σ H s) (he : H a = some (exo a C none)) (h0 : X.N[0]? = some ar) (hσ : σ[0]? = some (some (.ref a)))
    (ha : PA X (e :: es) ta) (h : ta σ H fun vs H1 => H1 = H ∧ vs.length ≤ 1000)
    (hc : eval (.Call (.Attribute (.Call (.Name "super" p0) [] [] p1) "__init__" p2) (e :: es) [] pos) X.env = (do
      let ov ← attributeBase (.Call (.Name "super" p0) [] [] p1) "__init__" X.env (eval (.Call (.Name "super" p0) [] [] p1) X.env)
      standAt p2.atName
      let (f, first) ← holding [ov] (getMethod ov "__init__" pl)
      callWith pos f first (backTo pos (starEach (e :: es) X.env)) []) := by rfl)
    (hst : starEach (e :: es) X.env = (false, eval e X.env) :: starEach es X.env := by rfl) (hpl : (backTo pos (starEach es X.env)).any (·.1) = false := by rfl) :
    _root_.PySem.wpAt (model X.prog X.w) X.A (.func body X.env) (exec (.Expr (.Call (.Attribute (.Call (.Name "super" p0) [] [] p1) "__init__" p2) (e :: es) [] pos) pos2) X.env)
      (fun fl s' => fl = .next ∧ Inv X pins σ H s') X.xe s := by
  obtain ⟨nm, q, N, bs, bm, sn, sub, ab, col, dd, k0, k1, k2, k3, k5, hC, hbm⟩ := T.cls.cls
  obtain ⟨oc, od, osl, lf⟩ := T.fn
  obtain ⟨arg, hpar, rfl⟩ := T.par
  obtain ⟨cl, cld, csl, lc⟩ := T.cell
  obtain ⟨ccl, cdd, ccs, vs, file, tf, lcd, hvs, hfile⟩ := T.code
  obtain ⟨t1, ho⟩ := exo_at I.hok he
  obtain ⟨m, hn, hl⟩ := I.loc
  obtain ⟨mb, hmb, hbt⟩ := I.mod.blt
  have hself : m arg.arg = some (.ref a) := by
    obtain ⟨u, ru, lk⟩ := hl 0 arg.arg (.ref a) h0 hσ (.inl hka)
    cases ru
    rcases lk with ⟨_, z⟩ | ⟨z, _⟩
    · exact z
    · rw [hka] at z; rcases z with z | z <;> cases z
  obtain ⟨hp, g, d, t, os⟩ := s
  have KX := I.kIn
  refine ks_wpAt_Expr_any ?_ I.quiet rfl
  refine ks_wpAt_MethodCall (pl := pl) ?_ hc
  refine ks_wpAt_super_base (env := X.env) hks hkc (by decide) hfu (KX _ _ lf) rfl hpar hco (KX _ _ lcd) rfl hvs hfile T.top ?_
  refine PySem.W.ks_loadName_global I.ok.kind hks (Calls.loadGlobal_builtin (mg := X.mg) (mb := mb) (v := .type "super") (by rw [I.ok.glob]; exact I.mod.glob.keeps I.bk) T.msup (by rw [I.ok.blt]; exact hmb.keeps I.bk) ((hbt "super" (by decide)).trans (by decide +kernel)) ⟨rfl, ?_⟩)
  refine wpAny_loadName_free I.ok.kind hkc hcl ⟨_, KX _ _ lc, rfl⟩ ?_
  refine wpAny_loadName_local I.ok.kind hka hn hself ?_
  refine ks_wpAny_isType_cls (KX _ _ hC) rfl ⟨rfl, ?_⟩
  refine ks_wpAny_call_super (KX _ _ hC) rfl ho rfl (fun c z => by cases z) (PySem.W.looks_mroIn KX T.mro) fun h1 hso k1 => ?_
  have J := I.kept (h' := h1) (t' := t) k1
  have ho1 := k1 _ _ ho
  have hI : PySem.W.Looks (model X.prog X.w) h1 (isInstance (.ref a) (.type "ValueError")) true := (PySem.W.InstAt.type (ox := { cls := .ref C, dict := none, data := .fields #[.ref t1, .none, .none, .none, .bool false, .none] }) (od := none) ⟨ho1, rfl, rfl, trivial⟩).andThen (PySem.W.looks_subIn J.kIn T.ve)
  have hal := T.sup
  cases hcd : PySem.W.clsIn X.K C with
  | none => unfold PySem.W.ks_superIn at hal; rw [hcd] at hal; cases hal
  | some cd =>
  unfold PySem.W.ks_superIn at hal
  rw [hcd] at hal
  have haC : a ≠ C := fun z => by
    have := KX _ _ hC
    rw [← z] at this
    rw [show hp.get? a = _ from ho] at this
    cases this
  refine PySem.W.kxs_getMethod PySem.W.kxs_ValueError hso (PySem.W.looks_opaque J.kIn T.op) (l₀ := cd.mro) (fun A Q E s k q => wpAny_bind ((PySem.W.looks_clsIn J.kIn hcd) A _ E s k (wpAny_pure q))) rfl J.kIn hal hI haC (by decide) ?_
  have kp : ∀ b o, h1.get? b = some o → (h1.push (PySem.W.kxs_mw "ValueError.__init__" a)).get? b = some o := fun b o z => Heap.get?_push_of_some _ z
  have J2 := J.kept (h' := h1.push (PySem.W.kxs_mw "ValueError.__init__" a)) (t' := t + 1) kp
  have J3 : Inv X ((h1.objs.size, PySem.W.kxs_mw "ValueError.__init__" a) :: pins) σ H ⟨h1.push (PySem.W.kxs_mw "ValueError.__init__" a), g, d, t + 1, os⟩ := by
    refine J2.pins_of fun p hp => ?_
    rcases List.mem_cons.mp hp with rfl | hp
    · exact ⟨Heap.get?_push_at rfl rfl, J.hok.fresh (Nat.le_refl _), Nat.ne_of_gt J.lt, J.nofs (Nat.le_refl _), fun v z => by cases z⟩
    · exact J2.pin p (List.mem_append_right _ hp)
  have run := ha.run pos _ _ σ H _ J3 h
  rw [hst] at run ⊢
  refine PySem.W.kxs_callWith (i := "ValueError.__init__") (x := a) (by show (false || (backTo pos (starEach es X.env)).any (·.1)) = false; rw [hpl]; rfl) (Calls.evalArgs_plain (thn run fun us s2 ⟨vs2, H2, I2, r2, e2, l2⟩ => ?_))
  subst e2
  have hu := (I2.pin (h1.objs.size, PySem.W.kxs_mw "ValueError.__init__" a) (List.mem_append_right _ (List.mem_cons_self ..))).1
  refine ⟨hu, ?_⟩
  show wpAny _ _ (call (.ref h1.objs.size) us) _ _ _
  obtain ⟨t2, ho2⟩ := exo_at I2.hok he
  obtain ⟨hp2, g2, d2, tk2, os2⟩ := s2
  have hus : us.length ≤ sizeLine := by
    rw [← Paired.length r2]
    exact Nat.le_of_lt (small1000 l2)
  refine wpAny_call (codeAny_of_tree ?_)
  show wpAny _ X.A.in1 (callAny (.ref h1.objs.size) ⟨us, []⟩) _ _ _
  simp only [callAny]
  refine wpAny_bind (wpAny_load hu ?_)
  simp only [PySem.W.kxs_mw, show (Value.type "method-wrapper" == Value.type "method" || Value.type "method-wrapper" == Value.type "builtin_function_or_method" || Value.type "method-wrapper" == Value.type "method-wrapper") = true by decide, if_true]
  refine PySem.W.KFB.if_so (by decide) ?_
  refine wpAny_bind (PySem.W.check_bound_init F.excBase_ValueError.toExcCallFacts (I2.kIn _ _ hC) ho2 rfl ?_)
  refine wpAny_bind (wpAny_pure (wpAny_pure ?_))
  refine ⟨plainId_quiet F.excBase_ValueError.init.plain _, codeAny_builtin F.excBase_ValueError.initEntry ?_⟩
  refine PySem.W.exc_init_tree (cls := .ref C) (t0 := t2) (dv := none) (c2 := .none) (c3 := .none) (b4 := .bool false) ho2 hus fun h3 k3 hx3 ht3 => ?_
  have J4 := I2.write (t' := tk2) (x := a) (e := a) (o := exo a C none) (by rw [he]; exact True.intro) (.inl rfl) k3 ⟨_, hx3⟩ (exo_ok hx3)
  have eu : upd H2 a (exo a C none) = H2 := by
    funext b
    by_cases hb : b = a
    · rw [hb, upd_same, he]
    · rw [upd_ne hb]
  rw [eu] at J4
  exact ⟨by first | rfl | trivial, J4.pins_of fun p hp => J4.pin p (List.mem_append_right _ (List.mem_cons_of_mem _ hp))⟩
end
end L2.DL

/-! DL13: the def __init__ of an own exception, by super().__init__(..) and self.f = .. -/
namespace L2.DL
open PySem PySem.Spec PyProof.Rows
structure FnScopeS (N P : List Str) (sc : Scope) : Prop where
  kind : sc.kind = .function
  co : sc.isCoroutine = false
  gen : sc.isGenerator = false
  nd : N.Nodup
  pre : N.take P.length = P
  par : ∀ x ∈ P, sc.names.lookup x = some .local
  nocell : ∀ y ∈ sc.names, y.2 ≠ .cell
  sup : sc.names.lookup ("super" : Str) = some .globalImplicit
  cls : sc.names.lookup ("__class__" : Str) = some .free
  only : ∀ y ∈ sc.names, y.2 = .free → y.1 = "__class__"
/-- the context of such a body, at its entry -/
def cxI (CX : CXT) (P : Program) (w : World) (K : PySem.W.Frag) (mg : Str → Option Value) (base : Heap) (N : List Str) (qual : Str) (scope : Scope) (f cda cc : Addr) (A : Around) (outer : List Env) (s : Shared) (H : Hp) (E : XK) : Cx where
  prog := P
  w := w
  K := K
  mg := mg
  base := base
  A := A.deeper (PySem.W.ksEnv qual scope s.heap.objs.size f (.ref cda) cc)
  N := N
  s_0 := s
  H_0 := H
  env := PySem.W.ksEnv qual scope s.heap.objs.size f (.ref cda) cc
  outer := outer
  stack := PySem.W.ksEnv qual scope s.heap.objs.size f (.ref cda) cc :: outer
  ex := []
  calm := true
  fn := fun _ => false
  pn := []
  xe := fun e s' => wpAny (model P w) (A.deeper (PySem.W.ksEnv qual scope s.heap.objs.size f (.ref cda) cc)) (leaving (PySem.W.ksEnv qual scope s.heap.objs.size f (.ref cda) cc) e) (fun _ s'' => CX outer H s E e s'') (fun e' s'' => CX outer H s E e' s'') s'
theorem lookup1 {y z : Str} {c c' : Addr} (h : ([(z, c)] : List (Str × Addr)).lookup y = some c') : y = z ∧ c' = c := by
  rw [List.lookup_cons] at h
  by_cases e : y = z
  · subst e
    simp at h
    exact ⟨rfl, h.symm⟩
  · rw [show (y == z) = false from beq_eq_false_iff_ne.mpr e] at h
    cases h
theorem rev_zip_lookup {ps : List Str} {us : List Value} {i : Nat} {y : Str} {u : Value} (nd : ps.Nodup) (hp : ps[i]? = some y) (hu : us[i]? = some u) : (ps.zip us).reverse.lookup y = some u := by
  induction ps generalizing us i with
  | nil => simp at hp
  | cons p ps ih =>
    cases us with
    | nil => simp at hu
    | cons v us =>
      rw [List.zip_cons_cons, List.reverse_cons]
      cases i with
      | zero =>
        simp at hp hu
        subst hp; subst hu
        rw [List.lookup_append]
        have : ((ps.zip us).reverse.lookup p) = none := by
          rw [List.lookup_eq_none_iff]
          intro q hq
          have hq := List.mem_reverse.mp hq
          have hm := (List.of_mem_zip (a := q.1) (b := q.2) hq).1
          have : p ≠ q.1 := fun z => (List.nodup_cons.mp nd).1 (z ▸ hm)
          simp [this]
        rw [this]
        simp
      | succ i =>
        have := ih (us := us) (i := i) (List.nodup_cons.mp nd).2 (by simpa using hp) (by simpa using hu)
        rw [List.lookup_append, this]
        rfl
section
variable {CX : CXT} {P : Program} {w : World} {K : PySem.W.Frag} {mg : Str → Option Value} {base : Heap} {N ps : List Str} {qual : Str} {scope : Scope} {f cda cc C : Addr} {A : Around} {outer : List Env} {s : Shared} {H : Hp} {E : XK} {us : List Value} {vs : List V}
theorem inv_startI {h1 : Heap} {tk : Nat} {cl : Value} {cld : Option Addr} {csl : Array (Option Value)} (S : FnScopeS N ps scope) (hd : A.handled = none) (e0 : Env0 P w K mg base A outer s H) (hl : vs.length = ps.length) (r : Vals vs us) (lc : K.lookup cc = some ⟨cl, cld, .cell (some (.ref C)), csl⟩)
    (hns : h1.Ns s.heap.objs.size (fun x => (ps.zip us).reverse.lookup x)) (hk : ∀ b o, s.heap.get? b = some o → h1.get? b = some o) :
    Inv (cxI CX P w K mg base N qual scope f cda cc A outer s H E) [] (start N vs) H { s with heap := h1, toks := tk } := by
  have hpl : ps.length ≤ N.length := by have := congrArg List.length S.pre; rw [List.length_take] at this; omega
  have KX : K.In s.heap := e0.mod.kin.keeps fun b o e => (e0.bs b o e).1
  have noA : ∀ b : Addr, b ∉ (cxI CX P w K mg base N qual scope f cda cc A outer s H E).ex := fun b z => absurd (show b ∈ ([] : List Addr) from z) (by simp)
  refine ⟨⟨e0.mod, S.kind, rfl, rfl, Nat.le_refl _, fun y z c h1 h2 => ?_, fun y hy => ?_, fun y c z h => ?_, fun _ => hd, Around.frames_deeper e0.frames, .inr ⟨rfl, rfl⟩, fun b z => absurd z (noA b), e0.bs, e0.bsz, fun b _ _ => noA b, fun b z => absurd z (noA b), e0.funs, e0.frf⟩,
    rfl, e0.bare, Un.kept hk, ⟨_, hns, fun i y v h1 h2 h3 => ?_⟩, fun y c h => ?_, e0.hok.fresh (Nat.le_refl _), fun y c h => ?_, fun p hp => absurd (show p ∈ ([] : List (Addr × Obj)) from hp) (by simp), e0.hok.kept hk, ?_⟩
  · exact (lookup1 h1).1.trans (lookup1 h2).1.symm
  · have hy : scope.names.lookup y = some .cell ∨ scope.names.lookup y = some .free := hy
    rcases hy with hy | hy
    · exact absurd rfl (S.nocell _ (PySem.mem_of_lookup hy))
    · have := S.only _ (PySem.mem_of_lookup hy) rfl
      refine ⟨cc, ?_⟩
      show ([("__class__", cc)] : List (Str × Addr)).lookup y = some cc
      rw [show y = "__class__" from this]
      rw [List.lookup_cons]; simp
  · exact absurd (show false = true from z) (by decide)
  · have hi : i < vs.length := by
      unfold start at h2
      by_cases hi : i < vs.length
      · exact hi
      · rw [List.getElem?_append_right (by simpa using hi)] at h2
        rw [List.getElem?_replicate] at h2
        split at h2 <;> cases h2
    have ha : vs[i]? = some v := by
      unfold start at h2
      rw [List.getElem?_append_left (by simpa using hi), List.getElem?_map] at h2
      cases e : vs[i]? with
      | none => rw [e] at h2; cases h2
      | some a => rw [e] at h2; cases h2; rfl
    obtain ⟨u, hu, rv⟩ := r.get ha
    have hp : ps[i]? = some y := by
      rw [← S.pre, List.getElem?_take_of_lt (by omega)]; exact h1
    have ndP : ps.Nodup := by rw [← S.pre]; exact S.nd.sublist (List.take_sublist _ _)
    exact ⟨u, rv, .inl ⟨S.par y (List.mem_of_getElem? hp), rev_zip_lookup ndP hp hu⟩⟩
  · obtain ⟨_, rfl⟩ := lookup1 h
    exact ⟨_, _, hk _ _ (KX _ _ lc), rfl⟩
  · obtain ⟨_, rfl⟩ := lookup1 h
    exact (e0.bs _ _ (e0.mod.kin _ _ lc)).2
  · unfold start
    show _ = N.length
    rw [List.length_append, List.length_map, List.length_replicate]
    omega
end
/-- THE RULE: such a def -/
theorem sup_ok {CX : CXT} {P : Program} {w : World} {K : PySem.W.Frag} {mg : Str → Option Value} {base : Heap} {k : Nat} {f C cc cda : Addr} {name qual : Str} {params : Arguments} {scope : Scope} {dV kV doc pm ct : Value} {an : Option Addr}
    {N ps : List Str} {sp : Sp} {e : Expr} {es : List Expr} {rest : List Stmt} {p0 p1 p2 pos pos2 : Pos} {ar : Str}
    (T : SupF P K mg C f cc cda (PySem.W.ksFn name qual params (.Expr (.Call (.Attribute (.Call (.Name "super" p0) [] [] p1) "__init__" p2) (e :: es) [] pos) pos2 :: rest) scope dV kV doc pm an (.ref cda) ct cc) ar) (hcd : PySem.W.codeIn K (.ref cda) qual = true) (S : FnScopeS N ps scope) (h0 : N[0]? = some ar) (hps : ps[0]? = some ar)
    (len : ∀ vs H Q E, sp vs H Q E → vs.length = ps.length)
    (hst : ∀ env, starEach (e :: es) env = (false, eval e env) :: starEach es env) (hpl : ∀ env, (backTo pos (starEach es env)).any (·.1) = false)
    (hc : ∀ env, ∃ pl, eval (.Call (.Attribute (.Call (.Name "super" p0) [] [] p1) "__init__" p2) (e :: es) [] pos) env = (do
      let ov ← attributeBase (.Call (.Name "super" p0) [] [] p1) "__init__" env (eval (.Call (.Name "super" p0) [] [] p1) env)
      standAt p2.atName
      let (f, first) ← holding [ov] (getMethod ov "__init__" pl)
      callWith pos f first (backTo pos (starEach (e :: es) env)) []))
    (hbody : ∀ (A : Around) (outer : List Env) (s : Shared) (H : Hp) (vs : List V) (Q : VK) (E : XK), Room k (A.deeper (PySem.W.ksEnv qual scope s.heap.objs.size f (.ref cda) cc)) → sp vs H Q E →
      ∃ (a : Addr) (ta : TA) (t : TS), vs[0]? = some (.ref a) ∧ H a = some (exo a C none) ∧ PA (cxI CX P w K mg base N qual scope f cda cc A outer s H E) (e :: es) ta ∧ ta (start N vs) H (fun ws H1 => H1 = H ∧ ws.length ≤ 1000) ∧
        PSs (cxI CX P w K mg base N qual scope f cda cc A outer s H E) rest t ∧ t { nx := fun _ H' => Q .non H', rt := Q } (start N vs) H) :
    FnOk P w K mg base CX (k + 1) f (PySem.W.ksFn name qual params (.Expr (.Call (.Attribute (.Call (.Name "super" p0) [] [] p1) "__init__" p2) (e :: es) [] pos) pos2 :: rest) scope dV kV doc pm an (.ref cda) ct cc) ps sp := by
  refine ⟨len, fun A outer s H args us vs Q E hr e0 hb r hsp => ?_⟩
  have hl := len _ _ _ _ hsp
  have KX : K.In s.heap := e0.mod.kin.keeps fun b o e => (e0.bs b o e).1
  have lim : s.heap.NoLimit := e0.mod.nolimit.keeps fun b o e => (e0.bs b o e).1
  obtain ⟨oc, od, osl, lf⟩ := T.fn
  obtain ⟨cl, cld, csl, lc⟩ := T.cell
  obtain ⟨a, ta, t, hv0, he, ha, hta, ht, hq⟩ := hbody A outer s H vs Q E (hr.deeper _) hsp
  refine ks_codeAny_call_defAt (fd := PySem.W.ksFn name qual params (.Expr (.Call (.Attribute (.Call (.Name "super" p0) [] [] p1) "__init__" p2) (e :: es) [] pos) pos2 :: rest) scope dV kV doc pm an (.ref cda) ct cc) (binds := ps.zip us) hr.depth (KX _ _ lf) rfl lim (PySem.W.codeRec_of KX hcd) rfl hb S.nocell
    (fun y hy => S.par _ (List.of_mem_zip (a := y.1) (b := y.2) hy).1) (fun h1 hns hk => ?_) S.co S.gen S.kind
  have I := inv_startI (CX := CX) (N := N) (qual := qual) (f := f) (cda := cda) (E := E) (tk := s.toks + (ps.zip us).length) S hr.hd e0 hl r lc hns hk
  obtain ⟨pl, hc'⟩ := hc (PySem.W.ksEnv qual scope s.heap.objs.size f (.ref cda) cc)
  have hσ : (start N vs)[0]? = some (some (.ref a)) := by
    unfold start
    have : 0 < vs.length := by
      cases vs with
      | nil => simp at hv0
      | cons _ _ => simp
    rw [List.getElem?_append_left (by simpa using this), List.getElem?_map, hv0]
    rfl
  have hpar : scope.names.lookup ar = some .local := S.par _ (List.mem_of_getElem? hps)
  have first := sup_first (X := cxI CX P w K mg base N qual scope f cda cc A outer s H E) (body := .Expr (.Call (.Attribute (.Call (.Name "super" p0) [] [] p1) "__init__" p2) (e :: es) [] pos) pos2 :: rest) (pos2 := pos2) T S.sup S.cls hpar (by show ([("__class__", cc)] : List (Str × Addr)).lookup _ = _; rw [List.lookup_cons]; simp) rfl rfl I he h0 hσ ha hta hc' (hst _) (hpl _)
  refine ks_wpAt_execs_cons (ks_wpAt_mono first (fun fl s1 h1 => ?_) fun _ _ z => z)
  obtain ⟨rfl, I1⟩ := h1
  refine wpAt_of_wpAny (wpAny_mono (ht.run [] s1 (start N vs) H _ I1 hq) (fun fl s' hs => ?_) fun e s' hs => hs)
  have fin : ∀ {σ' : St} {H' : Hp} {v : V} {u : Value}, Inv (cxI CX P w K mg base N qual scope f cda cc A outer s H E) [] σ' H' s' → RelV v u → Q v H' → CE outer P w H s Q u s' :=
    fun {σ' H' v u} J rv q => ⟨v, H', J.os, J.bare, J.base, J.hok, rv, q⟩
  cases fl with
  | ret u =>
    obtain ⟨v, σ', H', J, rv, q⟩ := hs
    exact fin J rv q
  | next =>
    obtain ⟨σ', H', J, q⟩ := hs
    exact fin (v := V.non) (u := Value.none) J rfl q
  | brk =>
    obtain ⟨_, _, _, q⟩ := hs
    exact False.elim q
  | cont =>
    obtain ⟨_, _, _, q⟩ := hs
    exact False.elim q
end L2.DL

/-! DL14: raise of an own exception, calls that let one out, try .. except X as e, e.f. -/
namespace L2.DL
open PySem PySem.Spec PyProof.Rows
/-- a wish about an exception: its class, its dict, the slots, the objects -/
abbrev XW := Addr → Addr → Rho → G → Prop
def LX (K : PySem.W.Frag) (B : Bs) (W : XW) : WX := fun cls d σ H => ∃ C dd ρ g, cls = .ref C ∧ d = some dd ∧ At K B H σ ρ g ∧ W C dd ρ g
abbrev DNX := List D → G → (D → G → Prop) → (Addr → Addr → G → Prop) → Prop
def spDX (K : PySem.W.Frag) (n : Nat) (r : DNX) : Sp := fun vs H Q E => ∃ ds g Q0 E0, vs.length = n ∧ Rels K H ds vs ∧ Sim K H g ∧ r ds g Q0 E0 ∧ PostE K H g Q0 Q ∧ ∀ C dd g' H', E0 C dd g' → Ext H g H' g' → Sim K H' g' → E (.ref C) (some dd) H'
/-- __init__ of such a class -/
def spIN (C : Addr) (mk : List V → Option (List (Str × V))) : Sp := fun vs H Q _ => ∃ a ws fs, vs = .ref a :: ws ∧ mk ws = some fs ∧ H a = some (exo a C none) ∧ ∀ dx, H dx = none → dx ≠ a → Q .non (upd (upd H dx (exd dx fs)) a (exo a C (some dx)))
/-- the class x at C: made with values, its fields -/
structure ExcOwn (P : Program) (w : World) (K : PySem.W.Frag) (mg : Str → Option Value) (base : Heap) (x : Str) (C : Addr) (k : Nat) (mkD : List D → Option (List (Str × D))) : Prop where
  oex : OexC K C
  xf : XfC K C
  at_ : mg x = some (.ref C)
  exm : PySem.W.exmOne K (.ref C) (.ref C) = some true
  init : ∃ fI fd ps mk, PySem.W.findIn K (.ref C) "__init__" = some (some (.ref fI)) ∧ PySem.W.typeIn K (.ref fI) = some (.type "function") ∧ FnOk P w K mg base CX0 k fI fd ps (spIN C mk) ∧ Binds K fd ps [] ∧
    ∀ (H : Hp) (ds : List D) (vs : List V) (fs : List (Str × D)), mkD ds = some fs → Rels K H ds vs → ∃ fsV, mk vs = some fsV ∧ RelKV K H fs fsV ∧ vs.length ≤ 1000
theorem lookup_cons_ite {α : Type} {n k : Str} {d : α} {l : List (Str × α)} : ((k, d) :: l).lookup n = if n = k then some d else l.lookup n := by
  rw [List.lookup_cons]
  by_cases e : n = k
  · rw [if_pos e]; subst e; simp
  · rw [if_neg e, show (n == k) = false from beq_eq_false_iff_ne.mpr e]
theorem rkv_lookup {K : PySem.W.Frag} {H : Hp} {n : Str} {v : D} : ∀ {fs : List (Str × D)} {fsV : List (Str × V)}, RelKV K H fs fsV → fs.lookup n = some v → ∃ vV, fsV.lookup n = some vV ∧ Rel K H v vV
  | [], fsV, r, h => by cases h
  | (k, d) :: fs, fsV, r, h => by
    obtain ⟨x, q, rfl, r1, r2⟩ := rkv_cons r
    rw [lookup_cons_ite] at h ⊢
    by_cases e : n = k
    · rw [if_pos e] at h ⊢
      cases h
      exact ⟨x, rfl, r1⟩
    · rw [if_neg e] at h ⊢
      exact rkv_lookup r2 h
/-! ### raise -/
def dRaise (mkD : List D → Option (List (Str × D))) (C : Addr) (W : XW) (ts : DA) : DS := fun _ ρ g => ts ρ g fun ds g1 => ∃ fs, mkD ds = some fs ∧ ∀ dd, g1 dd = none → W C dd ρ (gup g1 dd (.xd fs))
section
variable {X : Cx} {B : Bs} {x n : Str} {p pos pos' np : Pos} {e : Expr} {es : List Expr} {ts : DA} {te : DE} {W : XW} {C : Addr} {j k m : Nat} {mkD : List D → Option (List (Str × D))} {ps : List Str} {r : DNX}
theorem js_raise (o : ExcOwn X.prog X.w X.K X.mg X.base x C j mkD) (h : j + 1 ≤ k) (hr : Room k X.A) (hc : X.calm = true) (tk : Takes X (LX X.K B W)) (hg : Gl X x) (ha : JA X B (e :: es) ts)
    (hdb : (x == ("__debug__" : Str)) = false := by decide) (he : starEach (e :: es) X.env = (false, eval e X.env) :: starEach es X.env := by rfl) (hpl : (backTo pos (starEach es X.env)).any (·.1) = false := by rfl) :
    JS X B (.Raise (some (.Call (.Name x p) (e :: es) [] pos)) none pos') (dRaise mkD C W ts) := by
  obtain ⟨fI, fd, ps, mk, iC, tI, F1, hb, hR⟩ := o.init
  refine ps_imp (ps_raise hc tk (pmk_oex o.oex iC tI F1 (hr.mono h) hb .nil pass0 hg o.at_ ha hdb he hpl)) fun D σ H ⟨ρ, g, d, at_, h, P⟩ => ?_
  refine ⟨ρ, g, _, at_, h, fun ds g1 vs H1 ⟨fs, hmk, hw⟩ e1 s1 r1 => ?_⟩
  obtain ⟨fsV, h2, h3, h4⟩ := hR H1 ds vs fs hmk r1
  refine ⟨h4, fun a ha => ?_⟩
  rw [List.append_nil]
  refine ⟨a, vs, fsV, rfl, h2, upd_same, fun dx hdx hne => ?_⟩
  have hdx1 : H1 dx = none := by rw [upd_ne hne] at hdx; exact hdx
  refine ⟨rfl, dx, fsV, upd_same, by rw [upd_ne hne]; exact upd_same, hdx1, ?_⟩
  have eH : upd (L2.del (upd (upd (upd H1 a (exo a C none)) dx (exd dx fsV)) a (exo a C (some dx))) a) dx (.xd fsV) = upd H1 dx (.xd fsV) := by
    funext b
    by_cases hb : b = dx
    · subst hb; rw [upd_same, upd_same]
    · rw [upd_ne hb, upd_ne hb]
      by_cases hba : b = a
      · subst hba; rw [del_same, ha]
      · rw [del_ne hba, upd_ne hba, upd_ne hb, upd_ne hba]
  rw [eH]
  exact ⟨C, dx, ρ, gup g1 dx (.xd fs), rfl, rfl, (at_.go e1 s1).go (Ext.laid hdx1) (s1.laid hdx1 ⟨fsV, rfl, h3⟩), hw dx (s1.fresh hdx1)⟩
/-! ### a call that may let an exception out -/
def dCallX (m : Nat) (r : DNX) (W : XW) (ts : DA) : DE := fun ρ g Q => ts ρ g fun ds g1 => ds.length = m ∧ r ds g1 Q fun C dd g2 => W C dd ρ g2
structure OwnX (P : Program) (w : World) (K : PySem.W.Frag) (mg : Str → Option Value) (base : Heap) (x : Str) (ps : List Str) (k : Nat) (r : DNX) : Prop where
  ex : ∃ f fd, FnOk P w K mg base (L2.CX P w) k f fd ps (spDX K ps.length r) ∧ mg x = some (.ref f) ∧ PySem.W.keepIn K (.ref f) = true ∧ Binds K fd ps [] ∧ KBn K fd ps 0 ps (fun _ ws => ws) (fun _ zs => zs)
theorem OwnX.mono {P : Program} {w : World} {K : PySem.W.Frag} {mg : Str → Option Value} {base : Heap} (o : OwnX P w K mg base x ps j r) (h : j ≤ k) : OwnX P w K mg base x ps k r := by
  obtain ⟨f, fd, h1, h2⟩ := o.ex
  exact ⟨f, fd, h1.mono h, h2⟩
theorem je_ownX (o : OwnX X.prog X.w X.K X.mg X.base x ps j r) (hn : ps.length = m) (h : j ≤ k) (hr : Room k X.A) (tk : Takes X (LX X.K B W)) (hg : Gl X x) (ha : JA X B (e :: es) ts)
    (hdb : (x == ("__debug__" : Str)) = false := by decide) (he : starEach (e :: es) X.env = (false, eval e X.env) :: starEach es X.env := by rfl) (hpl : (backTo pos (starEach es X.env)).any (·.1) = false := by rfl) : JE X B (.Call (.Name x p) (e :: es) [] pos) (dCallX m r W ts) := by
  subst hn
  obtain ⟨f, fd, h1, h2, h3, h4, h5⟩ := (o.mono h).ex
  refine pe_imp (pe_callS h1 hr hg h2 h3 h4 (fun σ => passAt tk σ) ha hdb he hpl) fun σ H Q ⟨ρ, g, Q0, at_, h, P⟩ => ⟨ρ, g, _, at_, h, fun ds g1 vs H1 ⟨hl, h1⟩ e1 s1 r1 => ?_⟩
  exact ⟨ds, g1, Q0, _, by rw [← r1.length]; exact hl, r1, s1, h1, P.ext e1, fun C dd g' H' w e s => ⟨C, dd, ρ, g', rfl, rfl, (at_.go e1 s1).go e s, w⟩⟩
theorem run_fnNS {CX : CXT} {E : St → XK} {f : Addr} {fd : FuncData} {ks : List Str} {sp : Sp} {gg : List Value → List Value → List Value} {gV : List V → List V → List V} {pins : List (Addr × Obj)} {σ : St} {H : Hp} {s : Shared} {Q : VK} {us ws : List Value} {vs zs : List V} {n : Nat} (F : FnOk X.prog X.w X.K X.mg X.base CX k f fd ps sp) (hr : Room k X.A) (hb : KBn X.K fd ps n ks gg gV) (hx : PassesAt CX X σ (E σ))
    (I : Inv X pins σ H s) (r : Vals vs us) (rz : Vals zs ws) (l1 : vs.length = n) (l2 : zs.length = ks.length) (h : sp (gV vs zs) H Q (E σ)) : wpAny (model X.prog X.w) X.A (call (.ref f) us (ks.zip ws)) (EP X pins σ Q) X.xe s := by
  have r2 := hb.rel r rz
  refine wpAny_call (codeAny_mono (F.run X.A X.stack s H ⟨us, ks.zip ws⟩ (gg us ws) (gV vs zs) Q (E σ) hr I.env0 (hb.to s us ws I.kIn (r.length.symm.trans l1) (rz.length.symm.trans l2)) r2 h) fun r s' hq => ?_)
  cases r with
  | error e => exact hx pins H s e s' I hq
  | ok fl =>
    cases fl with
    | ret u => exact I.after hq
    | next => exact False.elim hq
    | brk => exact False.elim hq
    | cont => exact False.elim hq
theorem je_ownXK {kws : List Keyword} {tkw : DA} (o : OwnX X.prog X.w X.K X.mg X.base x ps j r) (hn : ps.length = m) (h : j ≤ k) (hr : Room k X.A) (tk : Takes X (LX X.K B W)) (hg : Gl X x) (hkw : JK X B kws tkw)
    (hall : (backToKw pos (keywordEach kws X.env)).all (·.1.isSome) = true := by rfl) (hks : (backToKw pos (keywordEach kws X.env)).filterMap (·.1) = ps := by rfl)
    (hdb : (x == ("__debug__" : Str)) = false := by decide) (hpl : ((backTo pos (starEach [] X.env)).any (·.1) || (backToKw pos (keywordEach kws X.env)).any (·.1.isNone)) = false := by rfl) :
    JE X B (.Call (.Name x p) [] kws pos) (dCallX m r W tkw) := by
  subst hn
  obtain ⟨f, fd, h1, h2, h3, h4, h5⟩ := (o.mono h).ex
  refine ⟨fun pins s σ H Q I ⟨ρ, g, Q0, at_, h, P⟩ => ?_⟩
  refine wpAny_Call_Name_kw (ld_glob I hg h2 ?_ hdb)
  refine PySem.W.callWith_KW0 (h₀ := X.base) I.ok.mod.kin h3 hall ?_ hpl
  refine thn (hkw.run pos pins s σ H (fun vs H1 => vs.length = ps.length ∧ spDX X.K ps.length r vs H1 Q (WE (LX X.K B W) σ)) I ⟨ρ, g, _, at_, h, fun ds g1 vs H1 ⟨hl, h1⟩ e1 s1 r1 => ⟨by rw [← r1.length]; exact hl, ds, g1, Q0, _, by rw [← r1.length]; exact hl, r1, s1, h1, P.ext e1, fun C dd g' H' w e s => ⟨C, dd, ρ, g', rfl, rfl, (at_.go e1 s1).go e s, w⟩⟩⟩) fun ws s2 ⟨zs, H2, I2, rz, l2, q2⟩ => ⟨I2.kIn, ?_⟩
  rw [hks]
  exact run_fnNS (us := []) (vs := []) (E := WE (LX X.K B W)) h1 hr h5 (passAt tk σ) I2 .nil rz rfl l2 q2
/-! ### try .. except X as n -/
def dTry (C : Addr) (i : Nat) (tb : XW → DS) (ts : Addr → Addr → DS) : DS := fun d ρ g => tb (fun C' dd ρ' g' => C' = C ∧ ∀ a, g' a = none → ts a dd { nx := fun ρ2 g2 => d.nx (ρ2.set i none) g2, rt := d.rt, bk := fun ρ2 g2 => d.bk (ρ2.set i none) g2, ct := fun ρ2 g2 => d.ct (ρ2.set i none) g2 } (ρ'.set i (some (.obj a))) g') d ρ g
theorem js_tryAs {body suite : List Stmt} {b₀ : Stmt} {i : Nat} {tb : XW → DS} {ts : Addr → Addr → DS} (hs : X.stack = X.env :: X.outer) (hf : X.env.frame = some X.env.locals) (hN : X.N.Nodup) (hi : X.N[i]? = some n) (hln : X.env.kindOf n = some .local) (hc : Names X x (.ref C)) (hex : PySem.W.exmOne X.K (.ref C) (.ref C) = some true)
    (hb : ∀ (B : Bs) (W : XW) (pn : List (Addr × Obj)) (xe : Value → Shared → Prop), Takes (X.tr pn xe) (LX X.K B W) → PassesOwn (model X.prog X.w) X.A X.env xe → JSs (X.tr pn xe) B body (tb W))
    (hsu : ∀ (B : Bs) (a : Addr) (oe : Obj) (dd : Addr) (pn : List (Addr × Obj)), Zc (.ref C) (some dd) oe → (∃ vs, oe.data = .fields vs) → JSs (X.suite a ((a, oe) :: pn)) B (b₀ :: suite) (ts a dd)) :
    JS X B (.Try body [.ExceptHandler (some (.Name x np)) (some n) (b₀ :: suite) pos'] [] [] pos) (dTry C i tb ts) := by
  refine ps_imp (ps_try_as (Wout := fun _ _ _ _ => False) (tb := fun W D σ H => ∃ B' WD, (∀ c d σ H, LX X.K B' WD c d σ H → W c d σ H) ∧ LS X.K B' (tb WD) D σ H)
    (ts := fun a cls d D σ H => ∃ dd, cls = .ref C ∧ d = some dd ∧ ∃ B', LS X.K B' (ts a dd) D σ H) hs hf hN hi hln hc takes0 (fun W pn xe tk po => ⟨fun pins s σ H D I ⟨B', WD, hw, q⟩ => ?_⟩) (fun a oe cls d pn hz hv => ⟨fun pins s σ H D I ⟨dd, e1, e2, B', q⟩ => ?_⟩)) fun D σ H ⟨ρ, g, d, at_, h, P⟩ => ?_
  · exact (hb B' WD pn xe (tk.imp hw) po).run pins s σ H D I q
  · subst e1; subst e2
    exact (hsu B' a oe dd pn hz hv).run pins s σ H D I q
  · refine ⟨⟨H, g⟩, (fun C' dd ρ' g' => C' = C ∧ ∀ a, g' a = none → ts a dd { nx := fun ρ2 g2 => d.nx (ρ2.set i none) g2, rt := d.rt, bk := fun ρ2 g2 => d.bk (ρ2.set i none) g2, ct := fun ρ2 g2 => d.ct (ρ2.set i none) g2 } (ρ'.set i (some (.obj a))) g'), fun cls dx σ1 H1 z => ?_, ρ, g, d, ⟨at_.env, at_.sim, Ext.refl⟩, h, P⟩
    obtain ⟨C', dd, ρ1, g1, e1, e2, at1, hC, hw⟩ := z
    subst hC
    subst e1; subst e2
    refine ⟨true, hex, fun _ a ha => ⟨dd, rfl, rfl, ⟨H1, g1⟩, _, g1, _, ⟨at1.env.set obj_rel i, at1.sim, Ext.refl⟩, hw a (at1.sim.fresh ha), ?_⟩, fun z => by cases z⟩
    have P1 := P.ext at1.ext
    exact ⟨fun ρ' g' σ' H' q e s v => P1.nx _ _ _ _ q e s (v.unset i), P1.rt, fun ρ' g' σ' H' q e s v => P1.bk _ _ _ _ q e s (v.unset i), fun ρ' g' σ' H' q e s v => P1.ct _ _ _ _ q e s (v.unset i)⟩
/-! ### e.f in the suite -/
def dXf (a dd : Addr) (n : Str) (te : DE) : DE := fun ρ g Q => te ρ g fun x g1 => x = .obj a ∧ ∃ fs v, g1 dd = some (.xd fs) ∧ fs.lookup n = some v ∧ Q v g1
theorem je_xf {a dd : Addr} {oe : Obj} {pn : List (Addr × Obj)} (T : XfC X.K C) (hno : PySem.W.findIn X.K (.ref C) n = some none) (hz : Zc (.ref C) (some dd) oe) (hf : ∃ vs, oe.data = .fields vs) (he : JE (X.suite a ((a, oe) :: pn)) B e te)
    (hb : attributeBase e n X.env (eval e X.env) = eval e X.env := by rfl) : JE (X.suite a ((a, oe) :: pn)) B (.Attribute e n pos) (dXf a dd n te) := by
  refine pe_imp (pe_xf T hno hz hf he hb) fun σ H Q ⟨ρ, g, Q0, at_, h, P⟩ => ⟨ρ, g, _, at_, h, fun x g1 v H1 ⟨hx, fs, w, hg, hl, q⟩ e1 s1 r1 => ?_⟩
  subst hx
  cases rel_obj r1
  obtain ⟨u, hu, xs, rfl, rs⟩ := s1 dd _ hg
  obtain ⟨vV, h2, r2⟩ := rkv_lookup rs hl
  exact ⟨rfl, rfl, dd, xs, vV, rfl, hu, h2, P _ _ _ _ q e1 s1 r2⟩
end
/-! ### a def that may raise -/
section
variable {P : Program} {w : World} {K : PySem.W.Frag} {mg : Str → Option Value} {base : Heap} {x qual : Str} {ps : List Str} {k : Nat} {r : DNX}
theorem Tx.ownX {st : Stmt} {N : List Str} (T : Tx K mg x qual st ps) (t : XW → DS) (S : FnScope N ps (defScope st))
    (hw : ∀ (f : Addr) (cdv : Value) (A : Around) (outer : List Env) (s : Shared) (H : Hp) (E : XK) (B : Bs) (W : XW), Room k (A.deeper (envOfC qual (defScope st) s.heap.objs.size f cdv)) →
      Takes (cxOf (L2.CX P w) P w K mg base N qual (defScope st) f cdv A outer s H E) (LX K B W) → JSs (cxOf (L2.CX P w) P w K mg base N qual (defScope st) f cdv A outer s H E) B (defBody st) (t W))
    (hp : ∀ (ds : List D) (g : G) (Q : D → G → Prop) (E0 : Addr → Addr → G → Prop), ds.length = ps.length → r ds g Q E0 → t (fun C dd _ g' => E0 C dd g') { nx := fun _ g' => Q .non g', rt := Q } (dstart N.length ds) g) : OwnX P w K mg base x ps (k + 1) r := by
  obtain ⟨f, fd, F, h2, h3, h4⟩ := T.ex
  refine ⟨f, fd, F.okX S (fun vs H Q E h => ?_) (fun cdv A outer s H vs Q E hr h => ?_), h2, F.kp, h3, h4⟩
  · obtain ⟨ds, g, Q0, E0, hl, _⟩ := h
    exact hl
  · obtain ⟨ds, g, Q0, E0, hl, rs, S0, h, P0, P1⟩ := h
    have tk : Takes (cxOf (L2.CX P w) P w K mg base N qual (defScope st) f cdv A outer s H E) (LX K ⟨H, g⟩ fun C dd _ g' => E0 C dd g') :=
      (takes_of (X := cxOf (L2.CX P w) P w K mg base N qual (defScope st) f cdv A outer s H E) rfl rfl rfl rfl).imp fun cls d σ H' ⟨C, dd, ρ, g', e1, e2, at', q⟩ => by
        subst e1; subst e2
        exact P1 C dd g' H' q at'.ext at'.sim
    refine ⟨_, hw f cdv A outer s H E ⟨H, g⟩ _ hr tk, dstart N.length ds, g, _, ⟨rs.envR, S0, Ext.refl⟩, hp ds g Q0 E0 (by rw [rs.length]; exact hl) h, ?_⟩
    exact ⟨fun ρ' g' σ' H' q e s v => P0 _ _ _ _ q e s non_rel, P0, fun ρ' g' σ' H' q => q.elim, fun ρ' g' σ' H' q => q.elim⟩
end
end L2.DL

/-! DL15: own exceptions of one field. -/
namespace L2.DL
open PySem PySem.Spec PyProof.Rows
/-- one text, not long, as field n -/
def mkS (n : Str) : List D → Option (List (Str × D))
  | [.str y] => if y.length ≤ 1000 then some [(n, .str y)] else none
  | _ => none
def mkSV (n : Str) : List V → Option (List (Str × V))
  | [.str y] => if y.length ≤ 1000 then some [(n, .str y)] else none
  | _ => none
theorem mkS_rel {n : Str} {K : PySem.W.Frag} (H : Hp) (ds : List D) (vs : List V) (fs : List (Str × D)) (h : mkS n ds = some fs) (r : Rels K H ds vs) : ∃ fsV, mkSV n vs = some fsV ∧ RelKV K H fs fsV ∧ vs.length ≤ 1000 := by
  unfold mkS at h
  split at h
  · rename_i y
    split at h
    · rename_i hy
      cases h
      obtain ⟨v, rfl, rv⟩ := rels1 r
      cases rel_str rv
      exact ⟨[(n, .str y)], by show (if y.length ≤ 1000 then _ else _) = _; rw [if_pos hy], rkv_mk rv (by unfold RelKV; rfl), by simp⟩
    · cases h
  · cases h
abbrev exBody (n cst : Str) (p0 p1 p2 p3 p4 p5 p6 p7 p8 p9 q0 q1 : Pos) (kk : Nat) : List Stmt :=
  [.Expr (.Call (.Attribute (.Call (.Name "super" p0) [] [] p1) "__init__" p2) [.JoinedStr [.Constant (.str cst) kk p3, .FormattedValue (.Name n p4) (-1) none p5] p6] [] p7) p8,
    .Assign [.Attribute (.Name "self" p9) n q0] (.Name n q1) p8]
section
variable {P : Program} {w : World} {K : PySem.W.Frag} {mg : Str → Option Value} {base : Heap} {x qual n cst : Str} {C fI cc cda : Addr} {params : Arguments} {scope : Scope} {dV kV doc pm ct : Value} {an : Option Addr} {p0 p1 p2 p3 p4 p5 p6 p7 p8 p9 q0 q1 : Pos} {kk : Nat}
theorem ok_exc1 (T : SupF P K mg C fI cc cda (PySem.W.ksFn "__init__" qual params (exBody n cst p0 p1 p2 p3 p4 p5 p6 p7 p8 p9 q0 q1 kk) scope dV kV doc pm an (.ref cda) ct cc) "self") (hcd : PySem.W.codeIn K (.ref cda) qual = true)
    (S : FnScopeS ["self", n] ["self", n] scope) (hno : PySem.W.findIn K (.ref C) n = some none) (hl : cst.length ≤ 1000) (hd : (n == ("__debug__" : Str)) = false) (hcd2 : (n == ("__classdict__" : Str)) = false)
    (hc : ∀ env, ∃ pl, eval (.Call (.Attribute (.Call (.Name "super" p0) [] [] p1) "__init__" p2) [.JoinedStr [.Constant (.str cst) kk p3, .FormattedValue (.Name n p4) (-1) none p5] p6] [] p7) env = (do
      let ov ← attributeBase (.Call (.Name "super" p0) [] [] p1) "__init__" env (eval (.Call (.Name "super" p0) [] [] p1) env)
      standAt p2.atName
      let (f, first) ← holding [ov] (getMethod ov "__init__" pl)
      callWith p7 f first (backTo p7 (starEach [.JoinedStr [.Constant (.str cst) kk p3, .FormattedValue (.Name n p4) (-1) none p5] p6] env)) [])) :
    FnOk P w K mg base CX0 1 fI (PySem.W.ksFn "__init__" qual params (exBody n cst p0 p1 p2 p3 p4 p5 p6 p7 p8 p9 q0 q1 kk) scope dV kV doc pm an (.ref cda) ct cc) ["self", n] (spIN C (mkSV n)) := by
  refine sup_ok (N := ["self", n]) (k := 0) T hcd S rfl rfl (fun vs H Q E h => ?_) (fun _ => rfl) (fun _ => rfl) hc (fun A outer s H vs Q E hr h => ?_)
  · obtain ⟨a, ws, fs, rfl, h1, _⟩ := h
    unfold mkSV at h1
    split at h1
    · rfl
    · cases h1
  · obtain ⟨a, ws, fs, rfl, h1, h2, h3⟩ := h
    unfold mkSV at h1
    split at h1
    · rename_i y
      split at h1
      · rename_i hy
        cases h1
        have v0 : ∀ {B : XK}, PE (cxI CX0 P w K mg base ["self", n] qual scope fI cda cc A outer s H E) (.Name "self" p9) (tVar 0) := pe_var rfl (.inl (S.par _ (List.mem_cons_self ..))) (by decide) (by decide)
        have v1 : ∀ p, PE (cxI CX0 P w K mg base ["self", n] qual scope fI cda cc A outer s H E) (.Name n p) (tVar 1) := fun p => pe_var rfl (.inl (S.par _ (List.mem_cons_of_mem _ (List.mem_cons_self ..)))) hd hcd2
        refine ⟨a, _, _, rfl, h2, pa_cons (pe_joined (.cons (pe_str (x := cst)) (.cons (pe_fmt (v1 _)) .nil))) pa_nil rfl, ?_, pss_one (ps_ost (v0 (B := E)) (v1 _) rfl), ?_⟩
        · refine ⟨cst, rfl, ?_, .str y, rfl, .inl ⟨y, rfl, ?_, y, rfl, ?_, rfl, by simp⟩⟩
          · rw [PySem.Str.length_append]; exact Nat.le_of_lt (small1000 (by show 0 + _ ≤ _; omega))
          · exact Nat.le_of_lt (small1000 hy)
          · rw [PySem.Str.length_append, PySem.Str.length_append, sizeLine_eq]
            have : (Str.empty).length = 0 := rfl
            omega
        · exact ⟨.str y, rfl, .ref a, rfl, a, C, rfl, T.cls, hno, .inl ⟨h2, fun dx hdx hne => h3 dx hdx hne⟩⟩
      · cases h1
    · cases h1
theorem exc1 (T : SupF P K mg C fI cc cda (PySem.W.ksFn "__init__" qual params (exBody n cst p0 p1 p2 p3 p4 p5 p6 p7 p8 p9 q0 q1 kk) scope dV kV doc pm an (.ref cda) ct cc) "self") (hcd : PySem.W.codeIn K (.ref cda) qual = true)
    (S : FnScopeS ["self", n] ["self", n] scope) (hno : PySem.W.findIn K (.ref C) n = some none) (hl : cst.length ≤ 1000) (hd : (n == ("__debug__" : Str)) = false) (hcd2 : (n == ("__classdict__" : Str)) = false)
    (hc : ∀ env, ∃ pl, eval (.Call (.Attribute (.Call (.Name "super" p0) [] [] p1) "__init__" p2) [.JoinedStr [.Constant (.str cst) kk p3, .FormattedValue (.Name n p4) (-1) none p5] p6] [] p7) env = (do
      let ov ← attributeBase (.Call (.Name "super" p0) [] [] p1) "__init__" env (eval (.Call (.Name "super" p0) [] [] p1) env)
      standAt p2.atName
      let (f, first) ← holding [ov] (getMethod ov "__init__" pl)
      callWith p7 f first (backTo p7 (starEach [.JoinedStr [.Constant (.str cst) kk p3, .FormattedValue (.Name n p4) (-1) none p5] p6] env)) []))
    (hb : ∀ us : List Value, us.length = 2 → bindArgs (PySem.W.ksFn "__init__" qual params (exBody n cst p0 p1 p2 p3 p4 p5 p6 p7 p8 p9 q0 q1 kk) scope dV kV doc pm an (.ref cda) ct cc) ⟨us, []⟩ = pure ((["self", n] : List Str).zip us))
    (iC : PySem.W.findIn K (.ref C) "__init__" = some (some (.ref fI))) (tI : PySem.W.typeIn K (.ref fI) = some (.type "function")) (xf : XfC K C) (hm : mg x = some (.ref C)) (exm : PySem.W.exmOne K (.ref C) (.ref C) = some true) : ExcOwn P w K mg base x C 1 (mkS n) :=
  ⟨T.cls, xf, hm, exm, fI, _, _, _, iC, tI, ok_exc1 T hcd S hno hl hd hcd2 hc, .all hb, mkS_rel⟩
end
end L2.DL

/-! W: the readings from the front: one rule a step. -/
namespace L2.DL
open PySem PySem.Spec PyProof.Rows
abbrev subD : D2 := intD CAny fun i j => i - j
abbrev modD : D2 := intD CPos fun i j => i % j
abbrev fdivD : D2 := intD CDiv fun i j => i / j
abbrev powD : D2 := intD CPow fun i j => i ^ j.toNat
abbrev ltD : D2 := intB fun i j => decide (i < j)
abbrev leI : D2 := intB fun i j => decide (i ≤ j)
abbrev gtI : D2 := intB fun i j => decide (j < i)
abbrev geI : D2 := intB fun i j => decide (j ≤ i)
section
variable {ρ : Rho} {g : G} {Q : D → G → Prop} {QA : List D → G → Prop} {QT : Bool → G → Prop} {d : DEnds} {i j : Nat} {ta tb tc te to : DE} {ts tr : DA} {t u : DT} {s1 s2 : DS} {x y : D} {r r' : D2} {rn : DN}
theorem w_seq (h : s1 { d with nx := s2 d } ρ g) : dSeq s1 s2 d ρ g := h
theorem w_set (h : te ρ g fun x g1 => d.nx (ρ.set i (some x)) g1) : dSet i te d ρ g := h
theorem w_ret (h : te ρ g d.rt) : dRet te d ρ g := h
theorem w_retN (h : d.rt .non g) : dRetN d ρ g := h
theorem w_drop (h : te ρ g fun _ g1 => d.nx ρ g1) : dDrop te d ρ g := h
theorem w_nx (h : d.nx ρ g) : dNext d ρ g := h
theorem w_if (h : t ρ g fun c g1 => if c = true then s1 d ρ g1 else s2 d ρ g1) : dIf t s1 s2 d ρ g := h
theorem w_ifE (h : t ρ g fun c g1 => if c = true then ta ρ g1 Q else tb ρ g1 Q) : dIfE t ta tb ρ g Q := h
theorem w_op (h : ta ρ g fun x g1 => tb ρ g1 fun y g2 => r x y g2 Q) : dOp r ta tb ρ g Q := h
theorem w_un {r : D → G → (D → G → Prop) → Prop} (h : ta ρ g fun x g1 => r x g1 Q) : dUn r ta ρ g Q := h
theorem w_c (h : Q x g) : dC x ρ g Q := h
theorem w_var (e : ρ[i]? = some (some x)) (h : Q x g) : dVar i ρ g Q := by unfold dVar; rw [e]; exact h
theorem w_nil (h : QA [] g) : dNil ρ g QA := h
theorem w_cons (h : ta ρ g fun x g1 => tr ρ g1 fun xs g2 => QA (x :: xs) g2) : dCons ta tr ρ g QA := h
theorem w_cb (h : ts ρ g fun ds g1 => rn ds g1 Q) : dCB rn ts ρ g Q := h
theorem w_tup (h : ts ρ g fun ds g1 => ds.length ≤ sizeLine ∧ Q (.tup ds) g1) : dTup ts ρ g Q := h
theorem w_lst (h : ts ρ g fun ds g1 => ds.length ≤ sizeLine ∧ ∀ p, g1 p = none → Q (.obj p) (gup g1 p (.lst ds))) : dLst ts ρ g Q := h
theorem w_call {n : Nat} (h : ts ρ g fun ds g1 => ds.length = n ∧ rn ds g1 Q) : dCall n rn ts ρ g Q := h
theorem w_callK {n m : Nat} {gD : List D → List D} (h : ts ρ g fun ds g1 => ds.length = m ∧ (gD ds).length = n ∧ rn (gD ds) g1 Q) : dCallK n m gD rn ts ρ g Q := h
theorem w_callX {n : Nat} {rx : DNX} {W : XW} (h : ts ρ g fun ds g1 => ds.length = n ∧ rx ds g1 Q fun C dd g2 => W C dd ρ g2) : dCallX n rx W ts ρ g Q := h
theorem w_B (h : te ρ g fun d g' => ∃ b, d = .bl b ∧ QT b g') : dB te ρ g QT := by
  have : (fun d g' => ∃ b, d = D.bl b ∧ QT b g') = (fun d g' => match d with | .bl b => QT b g' | _ => False) := by
    funext d g'
    apply propext
    cases d <;> simp
  unfold dB
  exact Eq.mp (congrArg (te ρ g) this) h
theorem w_and (h : t ρ g fun c g1 => if c = true then u ρ g1 QT else QT false g1) : dAnd t u ρ g QT := h
theorem w_or (h : t ρ g fun c g1 => if c = true then QT true g1 else u ρ g1 QT) : dOr t u ρ g QT := h
theorem w_not (h : t ρ g fun c g1 => QT (!c) g1) : dNot t ρ g QT := h
theorem w_yes (h : QT true g) : dYes ρ g QT := h
theorem w_sl {tl th : DO} (h : te ρ g fun x g1 => tl ρ g1 fun l g2 => th ρ g2 fun u g3 => slD x l u g3 Q) : dSl te tl th ρ g Q := h
theorem w_nop {QO : Option Int → G → Prop} (h : QO none g) : dNoP ρ g QO := h
theorem w_p {QO : Option Int → G → Prop} (h : te ρ g fun d g1 => ∃ k, d = .int k ∧ QO (some k) g1) : dP te ρ g QO := by
  have : (fun d g' => ∃ k, d = D.int k ∧ QO (some k) g') = (fun d g' => match d with | .int k => QO (some k) g' | _ => False) := by
    funext d g'
    apply propext
    cases d <;> simp
  unfold dP
  exact Eq.mp (congrArg (te ρ g) this) h
theorem w_store {ti : DE} {st : DSt} (h : te ρ g fun v g1 => to ρ g1 fun o g2 => ti ρ g2 fun i g3 => st o i v g3 fun g4 => d.nx ρ g4) : dStore te to ti st d ρ g := h
theorem w_augS {ti : DE} (h : to ρ g fun o g1 => ti ρ g1 fun i g2 => gtD o i g2 fun x g3 => te ρ g3 fun y g4 => r x y g4 fun z g5 => stD o i z g5 fun g6 => d.nx ρ g6) : dAugS to ti te r d ρ g := h
theorem w_aug (e : ρ[i]? = some (some x)) (h : te ρ g fun y g1 => r x y g1 fun z g2 => d.nx (ρ.set i (some z)) g2) : dAug i te r d ρ g := by unfold dAug; rw [e]; exact h
theorem w_m {T : String} {m : DM} (h : to ρ g fun x g1 => mtD T g1 x = true ∧ ts ρ g1 fun ds g2 => m x ds g2 Q) : dM T m to ts ρ g Q := h
theorem w_andV (h : ta ρ g fun x g1 => ∃ b, x = .bl b ∧ if b = true then tb ρ g1 Q else Q (.bl false) g1) : dAndV ta tb ρ g Q := by
  have : (fun x g1 => ∃ b, x = D.bl b ∧ if b = true then tb ρ g1 Q else Q (.bl false) g1) = (fun x g1 => match x with | .bl true => tb ρ g1 Q | .bl false => Q (.bl false) g1 | _ => False) := by
    funext d g'
    apply propext
    cases d <;> simp
    rename_i b
    cases b <;> simp
  unfold dAndV
  exact Eq.mp (congrArg (ta ρ g) this) h
theorem w_orV (h : ta ρ g fun x g1 => ∃ b, x = .bl b ∧ if b = true then Q (.bl true) g1 else tb ρ g1 Q) : dOrV ta tb ρ g Q := by
  have : (fun x g1 => ∃ b, x = D.bl b ∧ if b = true then Q (.bl true) g1 else tb ρ g1 Q) = (fun x g1 => match x with | .bl true => Q (.bl true) g1 | .bl false => tb ρ g1 Q | _ => False) := by
    funext d g'
    apply propext
    cases d <;> simp
    rename_i b
    cases b <;> simp
  unfold dOrV
  exact Eq.mp (congrArg (ta ρ g) this) h
theorem w_notV (h : ta ρ g fun x g1 => ∃ b, x = .bl b ∧ Q (.bl (!b)) g1) : dNotV ta ρ g Q := by
  have : (fun x g1 => ∃ b, x = D.bl b ∧ Q (.bl (!b)) g1) = (fun x g1 => match x with | .bl c => Q (.bl (!c)) g1 | _ => False) := by
    funext d g'
    apply propext
    cases d <;> simp
  unfold dNotV
  exact Eq.mp (congrArg (ta ρ g) this) h
theorem w_chain {r' : D2} (h : ta ρ g fun x g1 => tb ρ g1 fun y g2 => r x y g2 fun z g3 => ∃ b, z = .bl b ∧ if b = true then tc ρ g3 fun w g4 => r' y w g4 Q else Q (.bl false) g3) : dChain r r' ta tb tc ρ g Q := by
  have : (fun (y : D) z g3 => ∃ b, z = D.bl b ∧ if b = true then tc ρ g3 fun w g4 => r' y w g4 Q else Q (.bl false) g3) = (fun (y : D) z g3 => match z with | .bl true => tc ρ g3 fun w g4 => r' y w g4 Q | .bl false => Q (.bl false) g3 | _ => False) := by
    funext y d g'
    apply propext
    cases d <;> simp
    rename_i b
    cases b <;> simp
  unfold dChain
  have e : (fun x g1 => tb ρ g1 fun y g2 => r x y g2 fun z g3 => ∃ b, z = D.bl b ∧ if b = true then tc ρ g3 fun w g4 => r' y w g4 Q else Q (.bl false) g3) = (fun x g1 => tb ρ g1 fun y g2 => r x y g2 fun z g3 => match z with | .bl true => tc ρ g3 fun w g4 => r' y w g4 Q | .bl false => Q (.bl false) g3 | _ => False) := by
    funext x g1
    congr 1
    funext y g2
    congr 1
    exact congrFun this y
  exact Eq.mp (congrArg (ta ρ g) e) h
theorem w_bl {b : Bool} {A : Bool → Prop} (h : A b) : ∃ c, D.bl b = .bl c ∧ A c := ⟨b, rfl, h⟩
theorem w_in {k : Int} {A : Int → Prop} (h : A k) : ∃ c, D.int k = .int c ∧ A c := ⟨k, rfl, h⟩
theorem w_rfl {α : Type} {a : α} {A : Prop} (h : A) : a = a ∧ A := ⟨rfl, h⟩
/-! values -/
variable {a b : Int} {C : Int → Int → Prop} {f : Int → Int → Int} {fb : Int → Int → Bool} {p q : Str} {A : Addr} {xs ys : List D}
theorem v_add (h : Q (.int (a + b)) g) : addD (.int a) (.int b) g Q := h
theorem v_addS (l : p.length + q.length ≤ sizeLine) (h : Q (.str (p ++ q)) g) : addD (.str p) (.str q) g Q := ⟨l, h⟩
theorem v_addT (l : xs.length + ys.length ≤ sizeLine) (h : Q (.tup (xs ++ ys)) g) : addD (.tup xs) (.tup ys) g Q := ⟨l, h⟩
theorem v_addL {A A' : Addr} (e : g A = some (.lst xs)) (e' : g A' = some (.lst ys)) (l : xs.length + ys.length ≤ sizeLine) (h : ∀ p, g p = none → Q (.obj p) (gup g p (.lst (xs ++ ys)))) : addD (.obj A) (.obj A') g Q := by unfold addD; simp only [e, e']; exact ⟨l, h⟩
theorem v_int (c : C a b) (h : Q (.int (f a b)) g) : intD C f (.int a) (.int b) g Q := ⟨c, h⟩
theorem v_intB (h : Q (.bl (fb a b)) g) : intB fb (.int a) (.int b) g Q := h
theorem v_mul (c : CMul a b) (h : Q (.int (a * b)) g) : mulD (.int a) (.int b) g Q := ⟨c, h⟩
theorem v_mulS (c : 0 ≤ b ∧ b ≤ 1) (h : Q (.str (if b = 1 then p else Str.empty)) g) : mulD (.str p) (.int b) g Q := ⟨c, h⟩
theorem v_neg (h : Q (.int (-a)) g) : negD (.int a) g Q := h
theorem v_eqS {neg : Bool} (h : Q (.bl (neg ^^ decide (p = q))) g) : eqD neg (.str p) (.str q) g Q := h
theorem v_eqI {neg : Bool} (h : Q (.bl (neg ^^ decide (a = b))) g) : eqD neg (.int a) (.int b) g Q := h
theorem v_eqB {neg c e : Bool} (h : Q (.bl (neg ^^ decide (c = e))) g) : eqD neg (.bl c) (.bl e) g Q := h
theorem v_eqN {neg : Bool} (h : Q (.bl (neg ^^ true)) g) : eqD neg .non .non g Q := h
theorem v_is {neg : Bool} (h : Q (.bl (neg ^^ isNon x)) g) : isD neg x .non g Q := h
theorem v_ixL (e : g A = some (.lst xs)) (h1 : atI xs a = some x) (h : Q x g) : ixD (.obj A) (.int a) g Q := ⟨xs, x, by simp only [seqOf, lstOf, e], h1, h⟩
theorem v_ixT (h1 : atI xs a = some x) (h : Q x g) : ixD (.tup xs) (.int a) g Q := ⟨xs, x, rfl, h1, h⟩
theorem v_ixF (h1 : atI xs a = some x) (h : Q x g) : ixD (.fin xs) (.int a) g Q := ⟨xs, x, rfl, h1, h⟩
theorem v_ixO (e : seqOf g y = some xs) (n : ∀ s, y ≠ .str s) (h1 : atI xs a = some x) (h : Q x g) : ixD y (.int a) g Q := by
  cases y <;> first | exact absurd rfl (n _) | exact ⟨xs, x, e, h1, h⟩
theorem v_lenL (e : g A = some (.lst xs)) (h : Q (.int xs.length) g) : lenN [.obj A] g Q := by simp only [lenN, e]; exact h
theorem v_lenK {kvs : List (Key × D)} (e : g A = some (.dK kvs)) (h : Q (.int kvs.length) g) : lenN [.obj A] g Q := by simp only [lenN, e]; exact h
theorem v_lenT (h : Q (.int xs.length) g) : lenN [.tup xs] g Q := ⟨xs, rfl, h⟩
theorem v_lenF (h : Q (.int xs.length) g) : lenN [.fin xs] g Q := ⟨xs, rfl, h⟩
theorem v_lenC {ns : List Int} (h : Q (.int (ns.map D.int).length) g) : lenN [.scr ns] g Q := ⟨_, rfl, h⟩
theorem v_lenO (e : seqOf g y = some xs) (n : ∀ s, y ≠ .str s) (h : Q (.int xs.length) g) : lenN [y] g Q := by
  cases y with
  | str s => exact absurd rfl (n s)
  | obj A =>
    simp only [seqOf, lstOf] at e
    split at e
    · rename_i ds e'; cases e; simp only [lenN, e']; exact h
    · cases e
  | _ => exact ⟨xs, e, h⟩
theorem v_intI (h : Q (.int a) g) : intN [.int a] g Q := h
theorem v_intBl {c : Bool} (h : Q (.int (if c then 1 else 0)) g) : intN [.bl c] g Q := h
theorem v_abs (h : Q (.int (if a < 0 then -a else a)) g) : absN [.int a] g Q := h
theorem v_max2 (h : Q (.int (if b > a then b else a)) g) : maxN [.int a, .int b] g Q := h
theorem v_min2 (h : Q (.int (if b < a then b else a)) g) : minN [.int a, .int b] g Q := h
theorem v_tupL (e : g A = some (.lst xs)) (h : Q (.tup xs) g) : tupN [.obj A] g Q := ⟨xs, by simp only [seqOf, lstOf, e], h⟩
theorem v_finL (e : g A = some (.lst xs)) (h : Q (.fin xs) g) : finN [.obj A] g Q := ⟨xs, by simp only [lstOf, e], h⟩
theorem v_lst (e : seqOf g y = some xs) (h : ∀ p, g p = none → Q (.obj p) (gup g p (.lst xs))) : lstN [y] g Q := ⟨xs, e, h⟩
theorem v_sort (e : srcD g y = some xs) (ok : SortOk xs) (h : ∀ p, g p = none → Q (.obj p) (gup g p (.lst (sortD xs)))) : sortN [y] g Q := ⟨xs, e, ok, h⟩
theorem v_slT {lo hi : Option Int} (h : Q (.tup (cutD xs lo hi)) g) : slD (.tup xs) lo hi g Q := h
theorem v_slL {lo hi : Option Int} (e : g A = some (.lst xs)) (h : ∀ p, g p = none → Q (.obj p) (gup g p (.lst (cutD xs lo hi)))) : slD (.obj A) lo hi g Q := ⟨xs, by simp only [lstOf, e], h⟩
theorem v_slC {ns : List Int} {lo hi : Option Int} (h : ∀ p, g p = none → Q (.obj p) (gup g p (.lst (cutD (ns.map D.int) lo hi)))) : slD (.scr ns) lo hi g Q := ⟨_, rfl, h⟩
theorem v_slF {lo hi : Option Int} (h : ∀ p, g p = none → Q (.obj p) (gup g p (.lst (cutD xs lo hi)))) : slD (.fin xs) lo hi g Q → slD (.fin xs) lo hi g Q := id
theorem v_slS {lo hi : Option Int} (l : p.length ≤ sizeLine) (h : Q (.str (cutS p lo hi)) g) : slD (.str p) lo hi g Q := ⟨l, h⟩
theorem v_gt (e : g A = some (.lst xs)) (h1 : atI xs a = some x) (h : Q x g) : gtD (.obj A) (.int a) g Q := by simp only [gtD, e, h1]; exact h
theorem v_st {k : Nat} {QG : G → Prop} (e : g A = some (.lst xs)) (h1 : ixN xs.length a = some k) (h : QG (gup g A (.lst (xs.set k x)))) : stD (.obj A) (.int a) x g QG := by simp only [stD, e]; exact ⟨a, k, rfl, h1, h⟩
theorem v_stK {kvs : List (Key × D)} {k : Key} {QG : G → Prop} (e : g A = some (.dK kvs)) (h1 : keyOf y = some k) (l : kvs.length < sizeLine) (h : QG (gup g A (.dK (putD kvs k x)))) : stD (.obj A) y x g QG := by simp only [stD, e]; exact ⟨k, h1, l, h⟩
theorem v_stT {kvs : List (List Key × D)} {k : List Key} {es : List D} {QG : G → Prop} (e : g A = some (.dT kvs)) (h1 : keysOf es = some k) (l : kvs.length < sizeLine) (h : QG (gup g A (.dT (putD kvs k x)))) : stD (.obj A) (.tup es) x g QG := by simp only [stD, e]; exact ⟨es, k, rfl, h1, l, h⟩
theorem v_ipA (h : Q (.int (a + b)) g) : ipAdd (.int a) (.int b) g Q := h
theorem v_ipS (h : Q (.int (a - b)) g) : ipSub (.int a) (.int b) g Q := h
theorem v_app (e : g A = some (.lst xs)) (l : xs.length < sizeLine) (h : Q .non (gup g A (.lst (xs ++ [x])))) : appM (.obj A) [x] g Q := by simp only [appM, e]; exact ⟨l, h⟩
theorem v_extT (e : g A = some (.lst xs)) (l : xs.length + ys.length ≤ sizeLine) (h : Q .non (gup g A (.lst (xs ++ ys)))) : extM (.obj A) [.tup ys] g Q := by simp only [extM, e]; exact ⟨l, h⟩
theorem v_mtL (e : g A = some (.lst xs)) {P : Prop} (h : P) : mtD "list" g (.obj A) = true ∧ P := ⟨by simp only [mtD, e]; rfl, h⟩
theorem v_mtS {P : Prop} (h : P) : mtD "str" g (.str p) = true ∧ P := ⟨rfl, h⟩
theorem w_isi {T : Ty} (h : te ρ g fun d g1 => ∃ t, tyD g1 d = some t ∧ Q (.bl (isTy t T)) g1) : dIsi T te ρ g Q := by
  have : (fun d g1 => ∃ t, tyD g1 d = some t ∧ Q (.bl (isTy t T)) g1) = (fun d g1 => match tyD g1 d with | some t => Q (.bl (isTy t T)) g1 | none => False) := by
    funext d g1
    apply propext
    cases h : tyD g1 d <;> simp
  unfold dIsi
  exact Eq.mp (congrArg (te ρ g) this) h
theorem get_ex {α : Type} {o : Option GO} {y : D} {z : D} {Q : D → Prop} : (∃ kvs k, o = some (.dK kvs) ∧ keyOf y = some k ∧ Q ((valD kvs k).getD z)) = (match o with | some (.dK kvs) => ∃ k, keyOf y = some k ∧ Q ((valD kvs k).getD z) | _ => False) := by
  apply propext
  cases o with
  | none => simp
  | some o => cases o <;> simp
theorem w_get1 {ty td : DE} (h : td ρ g fun x g1 => ∃ a, x = .obj a ∧ (∃ kvs, g1 a = some (.dK kvs)) ∧ ty ρ g1 fun y g2 => ∃ kvs k, g2 a = some (.dK kvs) ∧ keyOf y = some k ∧ Q ((valD kvs k).getD .non) g2) : dGet1 td ty ρ g Q := by
  unfold dGet1
  refine Eq.mp (congrArg (td ρ g) ?_) h
  funext x g1
  apply propext
  cases x <;> simp
  rename_i a
  intro _ _
  have : (fun y g2 => ∃ kvs, g2 a = some (.dK kvs) ∧ ∃ k, keyOf y = some k ∧ Q ((valD kvs k).getD .non) g2) = (fun y g2 => match g2 a with | some (.dK kvs) => ∃ k, keyOf y = some k ∧ Q ((valD kvs k).getD .non) g2 | _ => False) := by
    funext y g2
    cases e1 : g2 a with
    | none => simp
    | some o => cases o <;> simp
  exact Iff.of_eq (congrArg (ty ρ g1) this)
theorem w_get2 {ty td tx : DE} (h : td ρ g fun x g1 => ∃ a, x = .obj a ∧ (∃ kvs, g1 a = some (.dK kvs)) ∧ ty ρ g1 fun y g2 => tx ρ g2 fun z g3 => ∃ kvs k, g3 a = some (.dK kvs) ∧ keyOf y = some k ∧ Q ((valD kvs k).getD z) g3) : dGet2 td ty tx ρ g Q := by
  unfold dGet2
  refine Eq.mp (congrArg (td ρ g) ?_) h
  funext x g1
  apply propext
  cases x <;> simp
  rename_i a
  intro _ _
  have : ∀ y, (fun z g2 => ∃ kvs, g2 a = some (.dK kvs) ∧ ∃ k, keyOf y = some k ∧ Q ((valD kvs k).getD z) g2) = (fun z g2 => match g2 a with | some (.dK kvs) => ∃ k, keyOf y = some k ∧ Q ((valD kvs k).getD z) g2 | _ => False) := by
    intro y
    funext z g2
    cases e1 : g2 a with
    | none => simp
    | some o => cases o <;> simp
  have e2 : (fun y g2 => tx ρ g2 fun z g3 => ∃ kvs, g3 a = some (.dK kvs) ∧ ∃ k, keyOf y = some k ∧ Q ((valD kvs k).getD z) g3) = (fun y g2 => tx ρ g2 fun z g3 => match g3 a with | some (.dK kvs) => ∃ k, keyOf y = some k ∧ Q ((valD kvs k).getD z) g3 | _ => False) := by
    funext y g2
    exact congrArg (tx ρ g2) (this y)
  exact Iff.of_eq (congrArg (ty ρ g1) e2)
/-! loops -/
theorem w_rng1 {R : List D → (G → Prop) → G → Prop} (h : ts ρ g fun ds g1 => ∃ n : Int, ds = [.int n] ∧ (-(2 ^ 62) ≤ n ∧ n < 2 ^ 62) ∧ R (rangeD 0 n.toNat) (fun _ => True) g1) : dRng1 ts ρ g R := by
  have : (fun ds g1 => ∃ n : Int, ds = [D.int n] ∧ (-(2 ^ 62) ≤ n ∧ n < 2 ^ 62) ∧ R (rangeD 0 n.toNat) (fun _ => True) g1) = (fun ds g1 => match ds with
    | [.int j] => (-(2 ^ 62) ≤ j ∧ j < 2 ^ 62) ∧ R (rangeD 0 j.toNat) (fun _ => True) g1
    | _ => False) := by
    funext ds g1
    apply propext
    constructor
    · rintro ⟨n, rfl, h⟩; exact h
    · intro h
      split at h
      · exact ⟨_, rfl, h⟩
      · exact h.elim
  unfold dRng1
  exact Eq.mp (congrArg (ts ρ g) this) h
theorem w_for {ti : DI} {gt : DG} {tb : DS} (h : ti ρ g fun ds stay g1 => ∃ P : Nat → Rho → G → Prop, P 0 ρ g1 ∧ (∀ i ρ g, P i ρ g → stay g) ∧
  (∀ i x ρ g, ds[i]? = some x → P i ρ g → gt x ρ g fun ρ2 g2 => tb { d with nx := P (i + 1), ct := P (i + 1), bk := d.nx } ρ2 g2) ∧ ∀ ρ g, P ds.length ρ g → d.nx ρ g) : dFor ti gt tb d ρ g := h
def itD (R : List D → (G → Prop) → G → Prop) (d : D) (g1 : G) : Prop := match d with
  | .tup ds => R ds (fun _ => True) g1
  | .obj a => match g1 a with
    | some (.lst ds) => R ds (fun g' => g' a = some (.lst ds)) g1
    | _ => False
  | .scr ns => R (ns.map D.int) (fun _ => True) g1
  | .fin ds => R ds (fun _ => True) g1
  | _ => False
theorem w_seqI {R : List D → (G → Prop) → G → Prop} (h : te ρ g fun d g1 => itD R d g1) : dSeqI te ρ g R := h
variable {R : List D → (G → Prop) → G → Prop} {QR : Rho → G → Prop}
theorem v_itT (h : R xs (fun _ => True) g) : itD R (.tup xs) g := h
theorem v_itF (h : R xs (fun _ => True) g) : itD R (.fin xs) g := h
theorem v_itC {ns : List Int} (h : R (ns.map D.int) (fun _ => True) g) : itD R (.scr ns) g := h
theorem v_itL (e : g A = some (.lst xs)) (h : R xs (fun g' => g' A = some (.lst xs)) g) : itD R (.obj A) g := by simp only [itD, e]; exact h
theorem w_gn (h : QR (ρ.set i (some x)) g) : dgName i x ρ g QR := h
theorem w_gt {n : Nat} {ts : DGs} (h : xs.length = n ∧ ts xs ρ g QR) : dgTup n ts (.tup xs) ρ g QR := h
theorem w_gc {t : DG} {ts : DGs} (h : t x ρ g fun ρ' g' => ts xs ρ' g' QR) : dgCons t ts (x :: xs) ρ g QR := h
theorem w_g0 (h : QR ρ g) : dgNil [] ρ g QR := h
theorem w_lc {ti : DI} {gt : DG} {vs : List Nat} (h : ti ρ g fun ds stay g1 => ds.length ≤ sizeLine ∧ ∃ P : Nat → List D → G → Prop, P 0 [] g1 ∧ (∀ i acc g, P i acc g → stay g) ∧
  (∀ i x acc g, ds[i]? = some x → P i acc g → gt x (dwipe ρ vs) g fun ρ2 g2 => t ρ2 g2 fun b g3 => if b = true then te ρ2 g3 fun y g4 => P (i + 1) (acc ++ [y]) g4 else P (i + 1) acc g3) ∧
  ∀ acc g p, P ds.length acc g → acc.length ≤ ds.length → g p = none → Q (.obj p) (gup g p (.lst acc))) : dLc ti gt t te vs ρ g Q := h
theorem w_len {n : Nat} {A : Prop} (e : xs.length = n) (h : A) : xs.length = n ∧ A := ⟨e, h⟩
theorem w_le {n : Nat} {A : Prop} (e : xs.length ≤ n) (h : A) : xs.length ≤ n ∧ A := ⟨e, h⟩
theorem v_lstL (e : g A = some (.lst xs)) (h : ∀ p, g p = none → Q (.obj p) (gup g p (.lst xs))) : lstN [.obj A] g Q := ⟨xs, by simp only [seqOf, lstOf, e], h⟩
theorem w_seqK (J : Rho → G → Prop) (h2 : ∀ ρ' g', J ρ' g' → s2 d ρ' g') (h1 : ∀ K : Rho → G → Prop, (∀ ρ' g', J ρ' g' → K ρ' g') → s1 { d with nx := K } ρ g) : dSeq s1 s2 d ρ g := h1 _ h2
theorem w_ite {c : Prop} [Decidable c] {A B : Prop} (h1 : c → A) (h2 : ¬c → B) : if c then A else B := by
  by_cases h : c
  · rw [if_pos h]; exact h1 h
  · rw [if_neg h]; exact h2 h
theorem w_seq1 (h : dSet i te { d with nx := s2 d } ρ g) : dSeq (dSet i te) s2 d ρ g := h
theorem w_seq2 {o ti : DE} (h : dAugS o ti te r { d with nx := s2 d } ρ g) : dSeq (dAugS o ti te r) s2 d ρ g := h
theorem w_seq3 {ti : DE} {st : DSt} (h : dStore te to ti st { d with nx := s2 d } ρ g) : dSeq (dStore te to ti st) s2 d ρ g := h
theorem w_seq4 (h : dDrop te { d with nx := s2 d } ρ g) : dSeq (dDrop te) s2 d ρ g := h
theorem w_seq5 (h : dAug i te r { d with nx := s2 d } ρ g) : dSeq (dAug i te r) s2 d ρ g := h
end
theorem atI_get {α : Type} {xs : List α} {i : Int} (h0 : 0 ≤ i) (h1 : i < xs.length) : ∃ x, atI xs i = some x ∧ x ∈ xs ∧ xs[i.toNat]? = some x := by
  have hl : i.toNat < xs.length := by omega
  refine ⟨xs[i.toNat], ?_, List.getElem_mem _, List.getElem?_eq_getElem hl⟩
  unfold atI ixN
  rw [if_pos h0, if_pos h1]
  show xs[i.toNat]? = _
  exact List.getElem?_eq_getElem hl
theorem gup_old {g : G} {p a : Addr} {o u : GO} (h : g p = none) (e : g a = some u) : gup g p o a = some u := by
  rw [gup_ne (fun z => by subst z; rw [h] at e; cases e)]
  exact e
/-- told objects stay -/
def Kp (g g' : G) : Prop := ∀ p o, g p = some o → g' p = some o
theorem Kp.refl {g : G} : Kp g g := fun _ _ h => h
theorem Kp.trans {g g1 g2 : G} (a : Kp g g1) (b : Kp g1 g2) : Kp g g2 := fun p o h => b p o (a p o h)
theorem Kp.new {g : G} {p : Addr} {o : GO} (h : g p = none) : Kp g (gup g p o) := fun _ _ e => gup_old h e
theorem seqOf_kp {g g' : G} {y : D} {xs : List D} (k : Kp g g') (h : seqOf g y = some xs) : seqOf g' y = some xs := by
  cases y with
  | obj a =>
    simp only [seqOf, lstOf] at h ⊢
    split at h
    · rename_i ds e; cases h; rw [k a _ e]
    · cases h
  | _ => exact h
theorem cut_left {xs : List D} {v : Int} (h0 : 0 ≤ v) (h1 : v < xs.length) : cutD xs none (some v) = xs.take v.toNat := by
  unfold cutD
  have : HT.sIx xs.length xs.length (some v) = v.toNat := by
    obtain ⟨k, rfl⟩ := Int.eq_ofNat_of_zero_le h0
    rw [HT.sIx_nat, Int.toNat_natCast]
    omega
  rw [this, HT.sIx_none, List.drop_zero, Nat.sub_zero]
theorem cut_right {xs : List D} {v : Int} (h0 : 0 ≤ v) (h1 : v ≤ xs.length) : cutD xs (some v) none = xs.drop v.toNat := by
  unfold cutD
  have : HT.sIx xs.length 0 (some v) = v.toNat := by
    obtain ⟨k, rfl⟩ := Int.eq_ofNat_of_zero_le h0
    rw [HT.sIx_nat, Int.toNat_natCast]
    omega
  rw [this, HT.sIx_none, List.take_of_length_le (by rw [List.length_drop]; omega)]
theorem cut_mem {xs : List D} {lo hi : Option Int} {z : D} (h : z ∈ cutD xs lo hi) : z ∈ xs := by
  unfold cutD at h
  exact List.mem_of_mem_drop (List.mem_of_mem_take h)
theorem cut_len {xs : List D} {lo hi : Option Int} : (cutD xs lo hi).length ≤ xs.length := by
  unfold cutD
  rw [List.length_take, List.length_drop]
  omega
section
variable {ρ : Rho} {g : G} {Q : D → G → Prop} {d : DEnds} {i j : Nat} {p : Str} {a : Int} {c : Nat} {y : D} {xs : List D} {R : List D → (G → Prop) → G → Prop}
theorem w_par {ta tb : DE} (h : ta ρ g fun x g1 => tb ρ g1 fun y g2 => d.nx ((ρ.set i (some x)).set j (some y)) g2) : dPar i j (dCons ta (dCons tb dNil)) d ρ g := h
theorem v_ixS (h1 : atI p.cps.toList a = some c) (l : p.length ≤ sizeLine) (h : Q (.str ⟨#[c]⟩) g) : ixD (.str p) (.int a) g Q := by simp only [ixD, h1]; exact ⟨l, h⟩
theorem v_itO (e : seqOf g y = some xs) (n : ∀ s, y ≠ .str s) (h : ∀ stay, (∀ g', seqOf g' y = some xs → stay g') → R xs stay g) : itD R y g := by
  cases y with
  | obj A =>
    simp only [seqOf, lstOf] at e
    split at e
    · rename_i ds e'
      cases e
      refine v_itL e' (h _ fun g' hg => ?_)
      simp only [seqOf, lstOf] at hg
      split at hg
      · rename_i ds e2; cases hg; exact e2
      · cases hg
    · cases e
  | tup ds => cases e; exact h _ fun _ _ => trivial
  | fin ds => cases e; exact h _ fun _ _ => trivial
  | scr ns => cases e; exact h _ fun _ _ => trivial
  | _ => cases e
theorem v_join {ys : List Str} {sep : Str} (e : seqOf g y = some (ys.map D.str)) (l : (ys.map (·.length)).sum + ys.length * sep.length ≤ 16777216) (h : Q (.str (Txt.join sep ys)) g) : joinM (.str sep) [y] g Q := ⟨ys, e, l, h⟩
theorem v_rev {te : DE} (h : te ρ g fun d g1 => ∃ ds, lstOf g1 d = some ds ∧ ∀ p, g1 p = none → Q (.obj p) (gup g1 p (.lst ds.reverse))) : dRev te ρ g Q := h
end
def sD (xs : List Str) : D := .tup (xs.map D.str)
theorem ints_of {l : List D} (h : ∀ z ∈ l, ∃ i : Int, z = .int i) : ∃ ns : List Int, l = ns.map D.int ∧ ns.length = l.length := by
  induction l with
  | nil => exact ⟨[], rfl, rfl⟩
  | cons d l ih =>
    obtain ⟨i, rfl⟩ := h d (List.mem_cons_self ..)
    obtain ⟨ns, rfl, e⟩ := ih fun z hz => h z (List.mem_cons_of_mem _ hz)
    exact ⟨i :: ns, rfl, by simp⟩
theorem strs_of {xs : List Str} {l : List D} (h : ∀ z ∈ l, z ∈ xs.map D.str) : ∃ ys : List Str, l = ys.map D.str ∧ ys.length = l.length ∧ ∀ z ∈ ys, z ∈ xs := by
  induction l with
  | nil => exact ⟨[], rfl, rfl, fun _ h => by cases h⟩
  | cons d l ih =>
    obtain ⟨s, hs, rfl⟩ := List.mem_map.mp (h d (List.mem_cons_self ..))
    obtain ⟨ys, rfl, e, m⟩ := ih fun z hz => h z (List.mem_cons_of_mem _ hz)
    refine ⟨s :: ys, rfl, by simp, fun z hz => ?_⟩
    rcases List.mem_cons.mp hz with rfl | hz
    · exact hs
    · exact m z hz
end L2.DL

namespace L2.DL
open PySem PySem.Spec PyProof.Rows

def top (i : Nat) : Stmt := PySem.Challenge.pw_surelyelder_k02_bands_bounds_and_basic_p.main.body.getD i (.Pass ⟨0, 0, 0, 0⟩)
structure Bt (mg : Str → Option Value) : Prop where
  b_abs : mg "abs" = none
  b_bool : mg "bool" = none
  b_int : mg "int" = none
  b_isinstance : mg "isinstance" = none
  b_len : mg "len" = none
  b_list : mg "list" = none
  b_max : mg "max" = none
  b_min : mg "min" = none
  b_range : mg "range" = none
  b_sorted : mg "sorted" = none
  b_str : mg "str" = none
  b_tuple : mg "tuple" = none
  b_zip : mg "zip" = none
abbrev si_UnknownName : Stmt := inClass (top 2) 0
abbrev fields_UnknownName : List Str := ["name"]
abbrev st_bands_of : Stmt := top 4
abbrev N_bands_of : List Str := ["thing", "bands", "row", "k"]
theorem sc_bands_of : FnScope N_bands_of ["thing"] (defScope st_bands_of) := ⟨rfl, rfl, rfl, by decide +kernel, rfl, by decide +kernel, by decide +kernel⟩
theorem nd_bands_of : N_bands_of.Nodup := sc_bands_of.nd
def t_bands_of  : DS := (dSeq (dIf (dB (dOp (eqD false) (dOp ixD (dVar 0) (dC (.int 0))) (dC (.str ("ware" : Str))))) (dRet (dTup (dCons (dOp ixD (dVar 0) (dC (.int 1))) dNil))) dNext)
  (dSeq (dIf (dB (dOp (eqD true) (dOp ixD (dVar 0) (dC (.int 0))) (dC (.str ("series" : Str))))) (dRet (dTup dNil)) dNext)
  (dSeq (dSet 1 (dLst dNil))
  (dSeq (dFor (dSeqI (dOp ixD (dVar 0) (dC (.int 1)))) (dgName 2) (dSeq (dDrop (dM "list" extM (dVar 1) (dCons (dVar 2) dNil)))
  (dFor (dRng1 (dCons (dOp subD (dCB lenN (dCons (dVar 2) dNil)) (dC (.int 1))) dNil)) (dgName 3) (dDrop (dM "list" appM (dVar 1) (dCons (dCB tupN (dCons (dCB sortN (dCons (dOp addD (dOp ixD (dVar 2) (dVar 3)) (dOp ixD (dVar 2) (dOp addD (dVar 3) (dC (.int 1))))) dNil)) dNil)) dNil))))))
  (dRet (dCB tupN (dCons (dVar 1) dNil)))))))
theorem walk_bands_of {P : Program} {w : World} {K : PySem.W.Frag} {mg : Str → Option Value} {base : Heap} (T : Bt mg) {k : Nat} (f : Addr) (cdv : Value) (A : Around) (outer : List Env) (s : Shared) (H : Hp) (E : XK) (B : Bs) (hr : Room k (A.deeper (envOfC "bands_of" (defScope st_bands_of) s.heap.objs.size f cdv))) :
    JSs (cxOf CX0 P w K mg base N_bands_of "bands_of" (defScope st_bands_of) f cdv A outer s H E).nox B (defBody st_bands_of) (t_bands_of ) :=
  (jss_cons (js_if (jt_cmp (oj_eq (hu64 hr)) (je_ix (je_var 0) je_int) je_str) (jss_one (js_ret (je_tup (ja_cons (je_ix (je_var 0) je_int) ja_nil)))) jss_nil)
  (jss_cons (js_if (jt_cmp (oj_ne (hu64 hr)) (je_ix (je_var 0) je_int) je_str) (jss_one (js_ret (je_tup ja_nil))) jss_nil)
  (jss_cons (js_set (i := 1) nd_bands_of rfl (by first | exact Or.inl rfl | exact Or.inr rfl) (je_lst ja_nil))
  (jss_cons (js_for (vs := [2]) PassesOwn.never rfl (ji_seq (je_ix (je_var 0) je_int)) (jg_name (i := 2) (by decide) nd_bands_of rfl (by first | exact Or.inl rfl | exact Or.inr rfl)) (jss_cons (js_expr (je_m PySem.F.plainAttrs_list PySem.F.slot_list_extend rfl mt_ext (je_var 1) (ja_cons (je_var 2) ja_nil)))
  (jss_one (js_for (vs := [3]) PassesOwn.never rfl (ji_range1 rfl T.b_range (ja_cons (je_op oj_sub (je_cb cr_len rfl T.b_len boot_len (ja_cons (je_var 2) ja_nil)) je_int) ja_nil)) (jg_name (i := 3) (by decide) nd_bands_of rfl (by first | exact Or.inl rfl | exact Or.inr rfl)) (jss_one (js_expr (je_m PySem.F.plainAttrs_list PySem.F.slot_list_append rfl mt_app (je_var 1) (ja_cons (je_ct cr_tup rfl T.b_tuple boot_tuple (ja_cons (je_cb (cr_sortN rfl (hu64 hr)) rfl T.b_sorted boot_sorted (ja_cons (je_op oj_add (je_ix (je_var 2) (je_var 3)) (je_ix (je_var 2) (je_op oj_add (je_var 3) je_int))) ja_nil)) ja_nil)) ja_nil))))))))
  (jss_one (js_ret (je_ct cr_tup rfl T.b_tuple boot_tuple (ja_cons (je_var 1) ja_nil))))))))
abbrev st_lows_of : Stmt := top 5
abbrev N_lows_of : List Str := ["dossier", "lows", "thing", "name"]
theorem sc_lows_of : FnScope N_lows_of ["dossier"] (defScope st_lows_of) := ⟨rfl, rfl, rfl, by decide +kernel, rfl, by decide +kernel, by decide +kernel⟩
theorem nd_lows_of : N_lows_of.Nodup := sc_lows_of.nd
def t_lows_of  : DS := (dSeq (dSet 1 dDicK)
  (dSeq (dFor (dSeqI (dOp ixD (dVar 0) (dC (.int 1)))) (dgName 2) (dIf (dAnd (dB (dOp (eqD false) (dOp ixD (dVar 2) (dC (.int 0))) (dC (.str ("years" : Str))))) (dB (dOp (isD true) (dOp ixD (dVar 2) (dC (.int 2))) (dC .non)))) (dFor (dSeqI (dOp ixD (dVar 2) (dC (.int 1)))) (dgName 3) (dStore (dCB maxN (dCons (dOp ixD (dVar 2) (dC (.int 2))) (dCons (dGet2 (dVar 1) (dVar 3) (dOp ixD (dVar 2) (dC (.int 2)))) dNil))) (dVar 1) (dVar 3) stD)) dNext))
  (dRet (dCB tupN (dCons (dLc (dSeqI (dOp ixD (dVar 0) (dC (.int 0)))) (dgName 3) dYes (dGet1 (dVar 1) (dVar 3)) [3]) dNil)))))
theorem walk_lows_of {P : Program} {w : World} {K : PySem.W.Frag} {mg : Str → Option Value} {base : Heap} (T : Bt mg) {k : Nat} (f : Addr) (cdv : Value) (A : Around) (outer : List Env) (s : Shared) (H : Hp) (E : XK) (B : Bs) (hr : Room k (A.deeper (envOfC "lows_of" (defScope st_lows_of) s.heap.objs.size f cdv))) :
    JSs (cxOf CX0 P w K mg base N_lows_of "lows_of" (defScope st_lows_of) f cdv A outer s H E).nox B (defBody st_lows_of) (t_lows_of ) :=
  (jss_cons (js_set (i := 1) nd_lows_of rfl (by first | exact Or.inl rfl | exact Or.inr rfl) je_dicK)
  (jss_cons (js_for (vs := [2]) PassesOwn.never rfl (ji_seq (je_ix (je_var 0) je_int)) (jg_name (i := 2) (by decide) nd_lows_of rfl (by first | exact Or.inl rfl | exact Or.inr rfl)) (jss_one (js_if (jt_w (jw_and (jt_cmp (oj_eq (hu64 hr)) (je_ix (je_var 2) je_int) je_str) (jw_and1 (jt_cmp oj_isnot (je_ix (je_var 2) je_int) je_non)))) (jss_one (js_for (vs := [3]) PassesOwn.never rfl (ji_seq (je_ix (je_var 2) je_int)) (jg_name (i := 3) (by decide) nd_lows_of rfl (by first | exact Or.inl rfl | exact Or.inr rfl)) (jss_one (js_store (je_var 1) (je_var 3) (je_cb (cr_maxD rfl) rfl T.b_max boot_max (ja_cons (je_ix (je_var 2) je_int) (ja_cons (je_get2 (hu_of hr) (je_var 1) (je_var 3) (je_ix (je_var 2) je_int) ⟨rfl, rfl, rfl, rfl⟩) ja_nil))) (ps_st (hu_of hr)))))) jss_nil)))
  (jss_one (js_ret (je_ct cr_tup rfl T.b_tuple boot_tuple (ja_cons (je_lc (own := [("name", 3)]) rfl nd_lows_of (ji_seq (je_ix (je_var 0) je_int)) (blkOk_by (own := [("name", 3)]) (N := N_lows_of) (sc := defScope st_lows_of) (by decide +kernel)) (fun _ _ _ _ _ => (jg_name (i := 3) (by decide) nd_lows_of rfl (by first | exact Or.inl rfl | exact Or.inr rfl))) (fun _ _ _ _ _ => jts_nil) (fun _ _ _ _ _ => (je_get1 (hu_of hr) (je_var 1) (je_var 3) ⟨rfl, rfl, rfl, rfl⟩))) ja_nil))))))
abbrev st_highs_of : Stmt := top 6
abbrev N_highs_of : List Str := ["dossier", "highs", "thing", "name"]
theorem sc_highs_of : FnScope N_highs_of ["dossier"] (defScope st_highs_of) := ⟨rfl, rfl, rfl, by decide +kernel, rfl, by decide +kernel, by decide +kernel⟩
theorem nd_highs_of : N_highs_of.Nodup := sc_highs_of.nd
def t_highs_of  : DS := (dSeq (dSet 1 dDicK)
  (dSeq (dFor (dSeqI (dOp ixD (dVar 0) (dC (.int 1)))) (dgName 2) (dIf (dAnd (dB (dOp (eqD false) (dOp ixD (dVar 2) (dC (.int 0))) (dC (.str ("years" : Str))))) (dB (dOp (isD true) (dOp ixD (dVar 2) (dC (.int 3))) (dC .non)))) (dFor (dSeqI (dOp ixD (dVar 2) (dC (.int 1)))) (dgName 3) (dStore (dCB minN (dCons (dOp ixD (dVar 2) (dC (.int 3))) (dCons (dGet2 (dVar 1) (dVar 3) (dOp ixD (dVar 2) (dC (.int 3)))) dNil))) (dVar 1) (dVar 3) stD)) dNext))
  (dRet (dCB tupN (dCons (dLc (dSeqI (dOp ixD (dVar 0) (dC (.int 0)))) (dgName 3) dYes (dGet1 (dVar 1) (dVar 3)) [3]) dNil)))))
theorem walk_highs_of {P : Program} {w : World} {K : PySem.W.Frag} {mg : Str → Option Value} {base : Heap} (T : Bt mg) {k : Nat} (f : Addr) (cdv : Value) (A : Around) (outer : List Env) (s : Shared) (H : Hp) (E : XK) (B : Bs) (hr : Room k (A.deeper (envOfC "highs_of" (defScope st_highs_of) s.heap.objs.size f cdv))) :
    JSs (cxOf CX0 P w K mg base N_highs_of "highs_of" (defScope st_highs_of) f cdv A outer s H E).nox B (defBody st_highs_of) (t_highs_of ) :=
  (jss_cons (js_set (i := 1) nd_highs_of rfl (by first | exact Or.inl rfl | exact Or.inr rfl) je_dicK)
  (jss_cons (js_for (vs := [2]) PassesOwn.never rfl (ji_seq (je_ix (je_var 0) je_int)) (jg_name (i := 2) (by decide) nd_highs_of rfl (by first | exact Or.inl rfl | exact Or.inr rfl)) (jss_one (js_if (jt_w (jw_and (jt_cmp (oj_eq (hu64 hr)) (je_ix (je_var 2) je_int) je_str) (jw_and1 (jt_cmp oj_isnot (je_ix (je_var 2) je_int) je_non)))) (jss_one (js_for (vs := [3]) PassesOwn.never rfl (ji_seq (je_ix (je_var 2) je_int)) (jg_name (i := 3) (by decide) nd_highs_of rfl (by first | exact Or.inl rfl | exact Or.inr rfl)) (jss_one (js_store (je_var 1) (je_var 3) (je_cb (cr_minD rfl) rfl T.b_min boot_min (ja_cons (je_ix (je_var 2) je_int) (ja_cons (je_get2 (hu_of hr) (je_var 1) (je_var 3) (je_ix (je_var 2) je_int) ⟨rfl, rfl, rfl, rfl⟩) ja_nil))) (ps_st (hu_of hr)))))) jss_nil)))
  (jss_one (js_ret (je_ct cr_tup rfl T.b_tuple boot_tuple (ja_cons (je_lc (own := [("name", 3)]) rfl nd_highs_of (ji_seq (je_ix (je_var 0) je_int)) (blkOk_by (own := [("name", 3)]) (N := N_highs_of) (sc := defScope st_highs_of) (by decide +kernel)) (fun _ _ _ _ _ => (jg_name (i := 3) (by decide) nd_highs_of rfl (by first | exact Or.inl rfl | exact Or.inr rfl))) (fun _ _ _ _ _ => jts_nil) (fun _ _ _ _ _ => (je_get1 (hu_of hr) (je_var 1) (je_var 3) ⟨rfl, rfl, rfl, rfl⟩))) ja_nil))))))
abbrev st_low_of : Stmt := top 7
abbrev N_low_of : List Str := ["dossier", "a"]
theorem sc_low_of : FnScope N_low_of ["dossier", "a"] (defScope st_low_of) := ⟨rfl, rfl, rfl, by decide +kernel, rfl, by decide +kernel, by decide +kernel⟩
theorem nd_low_of : N_low_of.Nodup := sc_low_of.nd
def t_low_of (r_lows_of : DN) (C_UnknownName : Addr) (mk_UnknownName : List D → Option (List (Str × D))) : XW → DS := fun W => (dSeq (dIf (dB (dOp (inD true) (dVar 1) (dOp ixD (dVar 0) (dC (.int 0))))) (dRaise mk_UnknownName C_UnknownName W (dCons (dVar 1) dNil)) dNext)
  (dRet (dOp ixD (dCall 1 r_lows_of (dCons (dVar 0) dNil)) (dIdx (dOp ixD (dVar 0) (dC (.int 0))) (dCons (dVar 1) dNil)))))
theorem walk_low_of {P : Program} {w : World} {K : PySem.W.Frag} {mg : Str → Option Value} {base : Heap} (T : Bt mg) {k : Nat} {C_UnknownName : Addr} {mk_UnknownName : List D → Option (List (Str × D))} {jx_UnknownName : Nat} (x_UnknownName : ExcOwn P w K mg base "UnknownName" C_UnknownName jx_UnknownName mk_UnknownName) (hx_UnknownName : jx_UnknownName + 1 ≤ k) (n_UnknownName : ∀ n ∈ fields_UnknownName, PySem.W.findIn K (.ref C_UnknownName) n = some none) {r_lows_of : DN} {j_lows_of : Nat} (o_lows_of : Own P w K mg base "lows_of" ["dossier"] j_lows_of r_lows_of) (h_lows_of : j_lows_of ≤ k) (f : Addr) (cdv : Value) (A : Around) (outer : List Env) (s : Shared) (H : Hp) (E : XK) (B : Bs) (W : XW) (hr : Room k (A.deeper (envOfC "low_of" (defScope st_low_of) s.heap.objs.size f cdv))) (tk : Takes (cxOf (L2.CX P w) P w K mg base N_low_of "low_of" (defScope st_low_of) f cdv A outer s H E) (LX K B W)) :
    JSs (cxOf (L2.CX P w) P w K mg base N_low_of "low_of" (defScope st_low_of) f cdv A outer s H E) B (defBody st_low_of) (t_low_of r_lows_of C_UnknownName mk_UnknownName W) :=
  (jss_cons (js_if (jt_cmp oj_notin (je_var 1) (je_ix (je_var 0) je_int)) (jss_one (js_raise x_UnknownName hx_UnknownName hr rfl tk rfl (ja_cons (je_var 1) ja_nil))) jss_nil)
  (jss_one (js_ret (je_ix (je_own o_lows_of rfl h_lows_of hr rfl (ja_cons (je_var 0) ja_nil)) (je_idx (je_ix (je_var 0) je_int) (je_var 1))))))
abbrev st_high_of : Stmt := top 8
abbrev N_high_of : List Str := ["dossier", "a"]
theorem sc_high_of : FnScope N_high_of ["dossier", "a"] (defScope st_high_of) := ⟨rfl, rfl, rfl, by decide +kernel, rfl, by decide +kernel, by decide +kernel⟩
theorem nd_high_of : N_high_of.Nodup := sc_high_of.nd
def t_high_of (r_highs_of : DN) (C_UnknownName : Addr) (mk_UnknownName : List D → Option (List (Str × D))) : XW → DS := fun W => (dSeq (dIf (dB (dOp (inD true) (dVar 1) (dOp ixD (dVar 0) (dC (.int 0))))) (dRaise mk_UnknownName C_UnknownName W (dCons (dVar 1) dNil)) dNext)
  (dRet (dOp ixD (dCall 1 r_highs_of (dCons (dVar 0) dNil)) (dIdx (dOp ixD (dVar 0) (dC (.int 0))) (dCons (dVar 1) dNil)))))
theorem walk_high_of {P : Program} {w : World} {K : PySem.W.Frag} {mg : Str → Option Value} {base : Heap} (T : Bt mg) {k : Nat} {C_UnknownName : Addr} {mk_UnknownName : List D → Option (List (Str × D))} {jx_UnknownName : Nat} (x_UnknownName : ExcOwn P w K mg base "UnknownName" C_UnknownName jx_UnknownName mk_UnknownName) (hx_UnknownName : jx_UnknownName + 1 ≤ k) (n_UnknownName : ∀ n ∈ fields_UnknownName, PySem.W.findIn K (.ref C_UnknownName) n = some none) {r_highs_of : DN} {j_highs_of : Nat} (o_highs_of : Own P w K mg base "highs_of" ["dossier"] j_highs_of r_highs_of) (h_highs_of : j_highs_of ≤ k) (f : Addr) (cdv : Value) (A : Around) (outer : List Env) (s : Shared) (H : Hp) (E : XK) (B : Bs) (W : XW) (hr : Room k (A.deeper (envOfC "high_of" (defScope st_high_of) s.heap.objs.size f cdv))) (tk : Takes (cxOf (L2.CX P w) P w K mg base N_high_of "high_of" (defScope st_high_of) f cdv A outer s H E) (LX K B W)) :
    JSs (cxOf (L2.CX P w) P w K mg base N_high_of "high_of" (defScope st_high_of) f cdv A outer s H E) B (defBody st_high_of) (t_high_of r_highs_of C_UnknownName mk_UnknownName W) :=
  (jss_cons (js_if (jt_cmp oj_notin (je_var 1) (je_ix (je_var 0) je_int)) (jss_one (js_raise x_UnknownName hx_UnknownName hr rfl tk rfl (ja_cons (je_var 1) ja_nil))) jss_nil)
  (jss_one (js_ret (je_ix (je_own o_highs_of rfl h_highs_of hr rfl (ja_cons (je_var 0) ja_nil)) (je_idx (je_ix (je_var 0) je_int) (je_var 1))))))
abbrev st_year_pairs : Stmt := top 9
abbrev N_year_pairs : List Str := ["dossier", "finds", "highs", "lows", "a", "high", "b", "low"]
theorem sc_year_pairs : FnScope N_year_pairs ["dossier"] (defScope st_year_pairs) := ⟨rfl, rfl, rfl, by decide +kernel, rfl, by decide +kernel, by decide +kernel⟩
theorem nd_year_pairs : N_year_pairs.Nodup := sc_year_pairs.nd
def t_year_pairs (r_highs_of : DN) (r_lows_of : DN) : DS := (dSeq (dSet 1 (dOp ixD (dVar 0) (dC (.int 0))))
  (dSeq (dSet 2 (dLc (dZip (dCons (dVar 1) (dCons (dCall 1 r_highs_of (dCons (dVar 0) dNil)) dNil))) (dgTup 2 (dgCons (dgName 4) (dgCons (dgName 5) dgNil))) (dB (dOp (isD true) (dVar 5) (dC .non))) (dTup (dCons (dVar 4) (dCons (dVar 5) dNil))) [4, 5]))
  (dSeq (dSet 3 (dLc (dZip (dCons (dVar 1) (dCons (dCall 1 r_lows_of (dCons (dVar 0) dNil)) dNil))) (dgTup 2 (dgCons (dgName 6) (dgCons (dgName 7) dgNil))) (dB (dOp (isD true) (dVar 7) (dC .non))) (dTup (dCons (dVar 6) (dCons (dVar 7) dNil))) [6, 7]))
  (dRet (dLc2 (dSeqI (dVar 2)) (dgTup 2 (dgCons (dgName 4) (dgCons (dgName 5) dgNil))) dYes (dSeqI (dVar 3)) (dgTup 2 (dgCons (dgName 6) (dgCons (dgName 7) dgNil))) (dB (dOp ltD (dVar 5) (dVar 7))) (dTup (dCons (dVar 4) (dCons (dVar 6) dNil))) [4, 5, 6, 7] [6, 7])))))
theorem walk_year_pairs {P : Program} {w : World} {K : PySem.W.Frag} {mg : Str → Option Value} {base : Heap} (T : Bt mg) {k : Nat} {r_highs_of : DN} {r_lows_of : DN} {j_highs_of j_lows_of : Nat} (o_highs_of : Own P w K mg base "highs_of" ["dossier"] j_highs_of r_highs_of) (h_highs_of : j_highs_of ≤ k) (o_lows_of : Own P w K mg base "lows_of" ["dossier"] j_lows_of r_lows_of) (h_lows_of : j_lows_of ≤ k) (f : Addr) (cdv : Value) (A : Around) (outer : List Env) (s : Shared) (H : Hp) (E : XK) (B : Bs) (hr : Room k (A.deeper (envOfC "year_pairs" (defScope st_year_pairs) s.heap.objs.size f cdv))) :
    JSs (cxOf CX0 P w K mg base N_year_pairs "year_pairs" (defScope st_year_pairs) f cdv A outer s H E).nox B (defBody st_year_pairs) (t_year_pairs r_highs_of r_lows_of) :=
  (jss_cons (js_set (i := 1) nd_year_pairs rfl (by first | exact Or.inl rfl | exact Or.inr rfl) (je_ix (je_var 0) je_int))
  (jss_cons (js_setLc (i := 2) (own := [("a", 4), ("high", 5)]) rfl nd_year_pairs rfl rfl (sw_true rfl rfl rfl (by decide +kernel)) (ji_zip rfl T.b_zip (ja_cons (je_var 1) (ja_cons (je_own o_highs_of rfl h_highs_of hr rfl (ja_cons (je_var 0) ja_nil)) ja_nil))) (blkOk_by (own := [("a", 4), ("high", 5)]) (N := N_year_pairs) (sc := defScope st_year_pairs) (by decide +kernel)) (fun _ _ _ _ _ => (jg_tup rfl (jgs_cons (jg_name (i := 4) (by decide) nd_year_pairs rfl (by first | exact Or.inl rfl | exact Or.inr rfl)) (jgs_cons (jg_name (i := 5) (by decide) nd_year_pairs rfl (by first | exact Or.inl rfl | exact Or.inr rfl)) jgs_nil)))) (fun _ _ _ _ _ => (jts_one (jt_cmp oj_isnot (je_var 5) je_non))) (fun _ _ _ _ _ => (je_tup (ja_cons (je_var 4) (ja_cons (je_var 5) ja_nil)))))
  (jss_cons (js_set (i := 3) nd_year_pairs rfl (by first | exact Or.inl rfl | exact Or.inr rfl) (je_lc (own := [("b", 6), ("low", 7)]) rfl nd_year_pairs (ji_zip rfl T.b_zip (ja_cons (je_var 1) (ja_cons (je_own o_lows_of rfl h_lows_of hr rfl (ja_cons (je_var 0) ja_nil)) ja_nil))) (blkOk_by (own := [("b", 6), ("low", 7)]) (N := N_year_pairs) (sc := defScope st_year_pairs) (by decide +kernel)) (fun _ _ _ _ _ => (jg_tup rfl (jgs_cons (jg_name (i := 6) (by decide) nd_year_pairs rfl (by first | exact Or.inl rfl | exact Or.inr rfl)) (jgs_cons (jg_name (i := 7) (by decide) nd_year_pairs rfl (by first | exact Or.inl rfl | exact Or.inr rfl)) jgs_nil)))) (fun _ _ _ _ _ => (jts_one (jt_cmp oj_isnot (je_var 7) je_non))) (fun _ _ _ _ _ => (je_tup (ja_cons (je_var 6) (ja_cons (je_var 7) ja_nil))))))
  (jss_one (js_ret (je_lc2 (own := [("a", 4), ("high", 5), ("b", 6), ("low", 7)]) (vs1 := [6, 7]) rfl nd_year_pairs (ji_seq (je_var 2)) (blkOk_by (own := [("a", 4), ("high", 5), ("b", 6), ("low", 7)]) (N := N_year_pairs) (sc := defScope st_year_pairs) (by decide +kernel)) (by decide) (fun _ _ _ _ _ => (jg_tup rfl (jgs_cons (jg_name (i := 4) (by decide) nd_year_pairs rfl (by first | exact Or.inl rfl | exact Or.inr rfl)) (jgs_cons (jg_name (i := 5) (by decide) nd_year_pairs rfl (by first | exact Or.inl rfl | exact Or.inr rfl)) jgs_nil)))) (fun _ _ _ _ _ => jts_nil) (fun _ _ _ _ _ => (ji_seq (je_var 3))) (fun _ _ _ _ _ => (jg_tup rfl (jgs_cons (jg_name (i := 6) (by decide) nd_year_pairs rfl (by first | exact Or.inl rfl | exact Or.inr rfl)) (jgs_cons (jg_name (i := 7) (by decide) nd_year_pairs rfl (by first | exact Or.inl rfl | exact Or.inr rfl)) jgs_nil)))) (fun _ _ _ _ _ => (jts_one (jt_cmp oj_lt (je_var 5) (je_var 7)))) (fun _ _ _ _ _ => (je_tup (ja_cons (je_var 4) (ja_cons (je_var 6) ja_nil))))))))))
abbrev st_basic_pairs : Stmt := top 10
abbrev N_basic_pairs : List Str := ["dossier", "pairs", "thing", "a", "b", "pair"]
theorem sc_basic_pairs : FnScope N_basic_pairs ["dossier"] (defScope st_basic_pairs) := ⟨rfl, rfl, rfl, by decide +kernel, rfl, by decide +kernel, by decide +kernel⟩
theorem nd_basic_pairs : N_basic_pairs.Nodup := sc_basic_pairs.nd
def t_basic_pairs (r_year_pairs : DN) : DS := (dSeq (dSet 1 (dDcT (dSeqI (dCall 1 r_year_pairs (dCons (dVar 0) dNil))) (dgName 5) dYes (dVar 5) (dC (.bl true)) [5]))
  (dSeq (dFor (dSeqI (dOp ixD (dVar 0) (dC (.int 1)))) (dgName 2) (dIf (dB (dOp (eqD false) (dOp ixD (dVar 2) (dC (.int 0))) (dC (.str ("elder" : Str))))) (dFor (dSeqI (dOp ixD (dVar 2) (dC (.int 1)))) (dgName 3) (dFor (dSeqI (dOp ixD (dVar 2) (dC (.int 2)))) (dgName 4) (dStore (dC (.bl true)) (dVar 1) (dTup (dCons (dVar 3) (dCons (dVar 4) dNil))) stD))) dNext))
  (dRet (dCB tupN (dCons (dCB sortN (dCons (dVar 1) dNil)) dNil)))))
theorem walk_basic_pairs {P : Program} {w : World} {K : PySem.W.Frag} {mg : Str → Option Value} {base : Heap} (T : Bt mg) {k : Nat} {r_year_pairs : DN} {j_year_pairs : Nat} (o_year_pairs : Own P w K mg base "year_pairs" ["dossier"] j_year_pairs r_year_pairs) (h_year_pairs : j_year_pairs ≤ k) (f : Addr) (cdv : Value) (A : Around) (outer : List Env) (s : Shared) (H : Hp) (E : XK) (B : Bs) (hr : Room k (A.deeper (envOfC "basic_pairs" (defScope st_basic_pairs) s.heap.objs.size f cdv))) :
    JSs (cxOf CX0 P w K mg base N_basic_pairs "basic_pairs" (defScope st_basic_pairs) f cdv A outer s H E).nox B (defBody st_basic_pairs) (t_basic_pairs r_year_pairs) :=
  (jss_cons (js_setDcT (i := 1) (own := [("pair", 5)]) (hu_of hr) rfl nd_basic_pairs rfl rfl (sw_trueD rfl rfl rfl (by decide +kernel)) (ji_seq (je_own o_year_pairs rfl h_year_pairs hr rfl (ja_cons (je_var 0) ja_nil))) (blkOk_by (own := [("pair", 5)]) (N := N_basic_pairs) (sc := defScope st_basic_pairs) (by decide +kernel)) (fun _ _ _ _ _ => (jg_name (i := 5) (by decide) nd_basic_pairs rfl (by first | exact Or.inl rfl | exact Or.inr rfl))) (fun _ _ _ _ _ => jts_nil) (fun _ _ _ _ _ => (je_var 5)) (fun _ _ _ _ _ => je_bl))
  (jss_cons (js_for (vs := [2]) PassesOwn.never rfl (ji_seq (je_ix (je_var 0) je_int)) (jg_name (i := 2) (by decide) nd_basic_pairs rfl (by first | exact Or.inl rfl | exact Or.inr rfl)) (jss_one (js_if (jt_cmp (oj_eq (hu64 hr)) (je_ix (je_var 2) je_int) je_str) (jss_one (js_for (vs := [3]) PassesOwn.never rfl (ji_seq (je_ix (je_var 2) je_int)) (jg_name (i := 3) (by decide) nd_basic_pairs rfl (by first | exact Or.inl rfl | exact Or.inr rfl)) (jss_one (js_for (vs := [4]) PassesOwn.never rfl (ji_seq (je_ix (je_var 2) je_int)) (jg_name (i := 4) (by decide) nd_basic_pairs rfl (by first | exact Or.inl rfl | exact Or.inr rfl)) (jss_one (js_store (je_var 1) (je_tup (ja_cons (je_var 3) (ja_cons (je_var 4) ja_nil))) je_bl (ps_st (hu_of hr)))))))) jss_nil)))
  (jss_one (js_ret (je_ct cr_tup rfl T.b_tuple boot_tuple (ja_cons (je_cb (cr_sortN rfl (hu64 hr)) rfl T.b_sorted boot_sorted (ja_cons (je_var 1) ja_nil)) ja_nil))))))
abbrev st__law_mixed : Stmt := top 12
abbrev N__law_mixed : List Str := ["number", "k", "first", "second"]
theorem sc__law_mixed : FnScope N__law_mixed ["number", "k"] (defScope st__law_mixed) := ⟨rfl, rfl, rfl, by decide +kernel, rfl, by decide +kernel, by decide +kernel⟩
theorem nd__law_mixed : N__law_mixed.Nodup := sc__law_mixed.nd
def t__law_mixed  : DS := (dSeq (dSet 2 (dOp modD (dCB intN (dCons (dOp addD (dOp addD (dOp mulD (dVar 0) (dC (.int 48271))) (dOp mulD (dVar 1) (dC (.int 69621)))) (dC (.int 97))) dNil)) (dC (.int 2147483647))))
  (dSeq (dSet 3 (dOp modD (dCB intN (dCons (dOp addD (dOp addD (dOp mulD (dVar 2) (dOp addD (dOp addD (dVar 2) (dOp mulD (dC (.int 2)) (dVar 1))) (dC (.int 1)))) (dOp mulD (dVar 1) (dC (.int 16807)))) (dC (.int 31))) dNil)) (dC (.int 2147483629))))
  (dRet (dOp modD (dCB intN (dCons (dOp addD (dOp mulD (dVar 3) (dC (.int 40692))) (dVar 2)) dNil)) (dC (.int 2147483587))))))
theorem walk__law_mixed {P : Program} {w : World} {K : PySem.W.Frag} {mg : Str → Option Value} {base : Heap} (T : Bt mg) {k : Nat} (f : Addr) (cdv : Value) (A : Around) (outer : List Env) (s : Shared) (H : Hp) (E : XK) (B : Bs) (hr : Room k (A.deeper (envOfC "_law_mixed" (defScope st__law_mixed) s.heap.objs.size f cdv))) :
    JSs (cxOf CX0 P w K mg base N__law_mixed "_law_mixed" (defScope st__law_mixed) f cdv A outer s H E).nox B (defBody st__law_mixed) (t__law_mixed ) :=
  (jss_cons (js_set (i := 2) nd__law_mixed rfl (by first | exact Or.inl rfl | exact Or.inr rfl) (je_op oj_mod (je_ct cr_int rfl T.b_int boot_int (ja_cons (je_op oj_add (je_op oj_add (je_op oj_mul (je_var 0) je_int) (je_op oj_mul (je_var 1) je_int)) je_int) ja_nil)) je_int))
  (jss_cons (js_set (i := 3) nd__law_mixed rfl (by first | exact Or.inl rfl | exact Or.inr rfl) (je_op oj_mod (je_ct cr_int rfl T.b_int boot_int (ja_cons (je_op oj_add (je_op oj_add (je_op oj_mul (je_var 2) (je_op oj_add (je_op oj_add (je_var 2) (je_op oj_mul je_int (je_var 1))) je_int)) (je_op oj_mul (je_var 1) je_int)) je_int) ja_nil)) je_int))
  (jss_one (js_ret (je_op oj_mod (je_ct cr_int rfl T.b_int boot_int (ja_cons (je_op oj_add (je_op oj_mul (je_var 3) je_int) (je_var 2)) ja_nil)) je_int)))))
abbrev st__law_start : Stmt := top 13
abbrev N__law_start : List Str := ["script", "seed", "cell"]
theorem sc__law_start : FnScope N__law_start ["script"] (defScope st__law_start) := ⟨rfl, rfl, rfl, by decide +kernel, rfl, by decide +kernel, by decide +kernel⟩
theorem nd__law_start : N__law_start.Nodup := sc__law_start.nd
def t__law_start (r__law_mixed : DN) : DS := (dSeq (dSet 1 (dCB lenN (dCons (dVar 0) dNil)))
  (dSeq (dFor (dSeqI (dSl (dVar 0) dNoP (dP (dC (.int 63))))) (dgName 2) (dSet 1 (dCall 2 r__law_mixed (dCons (dOp addD (dVar 1) (dVar 2)) (dCons (dC (.int 5)) dNil)))))
  (dRet (dLst (dCons (dC (.int 0)) (dCons (dC (.int 0)) (dCons (dC (.int 0)) (dCons (dVar 1) (dCons (dCB lstN (dCons (dSl (dVar 0) dNoP (dP (dC (.int 63)))) dNil)) (dCons (dC (.int 0)) dNil))))))))))
theorem walk__law_start {P : Program} {w : World} {K : PySem.W.Frag} {mg : Str → Option Value} {base : Heap} (T : Bt mg) {k : Nat} {r__law_mixed : DN} {j__law_mixed : Nat} (o__law_mixed : Own P w K mg base "_law_mixed" ["number", "k"] j__law_mixed r__law_mixed) (h__law_mixed : j__law_mixed ≤ k) (f : Addr) (cdv : Value) (A : Around) (outer : List Env) (s : Shared) (H : Hp) (E : XK) (B : Bs) (hr : Room k (A.deeper (envOfC "_law_start" (defScope st__law_start) s.heap.objs.size f cdv))) :
    JSs (cxOf CX0 P w K mg base N__law_start "_law_start" (defScope st__law_start) f cdv A outer s H E).nox B (defBody st__law_start) (t__law_start r__law_mixed) :=
  (jss_cons (js_set (i := 1) nd__law_start rfl (by first | exact Or.inl rfl | exact Or.inr rfl) (je_cb cr_len rfl T.b_len boot_len (ja_cons (je_var 0) ja_nil)))
  (jss_cons (js_for (vs := [2]) PassesOwn.never rfl (ji_seq (je_slice (je_var 0) jo_none (jo_some je_int))) (jg_name (i := 2) (by decide) nd__law_start rfl (by first | exact Or.inl rfl | exact Or.inr rfl)) (jss_one (js_set (i := 1) nd__law_start rfl (by first | exact Or.inl rfl | exact Or.inr rfl) (je_own o__law_mixed rfl h__law_mixed hr rfl (ja_cons (je_op oj_add (je_var 1) (je_var 2)) (ja_cons je_int ja_nil))))))
  (jss_one (js_ret (je_lst (ja_cons je_int (ja_cons je_int (ja_cons je_int (ja_cons (je_var 1) (ja_cons (je_ct cr_lst rfl T.b_list boot_list (ja_cons (je_slice (je_var 0) jo_none (jo_some je_int)) ja_nil)) (ja_cons je_int ja_nil)))))))))))
abbrev st__law_take : Stmt := top 14
abbrev N__law_take : List Str := ["state", "limit", "cells", "cell", "value"]
theorem sc__law_take : FnScope N__law_take ["state", "limit"] (defScope st__law_take) := ⟨rfl, rfl, rfl, by decide +kernel, rfl, by decide +kernel, by decide +kernel⟩
theorem nd__law_take : N__law_take.Nodup := sc__law_take.nd
def t__law_take (r__law_mixed : DN) : DS := (dSeq (dSet 2 (dOp ixD (dVar 0) (dC (.int 4))))
  (dSeq (dAugS (dVar 0) (dC (.int 2)) (dC (.int 1)) ipAdd)
  (dSeq (dIf (dAnd (dB (dOp (eqD false) (dOp ixD (dVar 0) (dC (.int 0))) (dC (.int 0)))) (dB (dOp ltD (dOp ixD (dVar 0) (dC (.int 1))) (dCB lenN (dCons (dVar 2) dNil))))) (dSeq (dSet 3 (dOp ixD (dVar 2) (dOp ixD (dVar 0) (dC (.int 1)))))
  (dSeq (dAugS (dVar 0) (dC (.int 1)) (dC (.int 1)) ipAdd)
  (dSeq (dIf (dB (dOp ltD (dCB absN (dCons (dVar 3) dNil)) (dOp powD (dC (.int 10)) (dC (.int 18))))) (dRet (dOp modD (dCB intN (dCons (dCall 2 r__law_mixed (dCons (dVar 3) (dCons (dOp ixD (dVar 0) (dC (.int 2))) dNil))) dNil)) (dVar 1))) dNext)
  (dSeq (dStore (dCB absN (dCons (dVar 3) dNil)) (dVar 0) (dC (.int 0)) stD)
  (dStore (dC (.int 60)) (dVar 0) (dC (.int 5)) stD))))) dNext)
  (dSeq (dIf (dB (dOp (eqD false) (dOp ixD (dVar 0) (dC (.int 0))) (dC (.int 0)))) (dRet (dOp modD (dCB intN (dCons (dCall 2 r__law_mixed (dCons (dOp ixD (dVar 0) (dC (.int 3))) (dCons (dOp ixD (dVar 0) (dC (.int 2))) dNil))) dNil)) (dVar 1))) dNext)
  (dSeq (dSet 4 (dOp modD (dCB intN (dCons (dOp ixD (dVar 0) (dC (.int 0))) dNil)) (dVar 1)))
  (dSeq (dAugS (dVar 0) (dC (.int 5)) (dC (.int 1)) ipSub)
  (dSeq (dStore (dOp mulD (dOp fdivD (dOp ixD (dVar 0) (dC (.int 0))) (dVar 1)) (dCB intN (dCons (dOp gtI (dOp ixD (dVar 0) (dC (.int 5))) (dC (.int 0))) dNil))) (dVar 0) (dC (.int 0)) stD)
  (dRet (dVar 4)))))))))
theorem walk__law_take {P : Program} {w : World} {K : PySem.W.Frag} {mg : Str → Option Value} {base : Heap} (T : Bt mg) {k : Nat} {r__law_mixed : DN} {j__law_mixed : Nat} (o__law_mixed : Own P w K mg base "_law_mixed" ["number", "k"] j__law_mixed r__law_mixed) (h__law_mixed : j__law_mixed ≤ k) (f : Addr) (cdv : Value) (A : Around) (outer : List Env) (s : Shared) (H : Hp) (E : XK) (B : Bs) (hr : Room k (A.deeper (envOfC "_law_take" (defScope st__law_take) s.heap.objs.size f cdv))) :
    JSs (cxOf CX0 P w K mg base N__law_take "_law_take" (defScope st__law_take) f cdv A outer s H E).nox B (defBody st__law_take) (t__law_take r__law_mixed) :=
  (jss_cons (js_set (i := 2) nd__law_take rfl (by first | exact Or.inl rfl | exact Or.inr rfl) (je_ix (je_var 0) je_int))
  (jss_cons (js_augS (hu_of hr) (je_var 0) je_int je_int ij_add)
  (jss_cons (js_if (jt_w (jw_and (jt_cmp (oj_eq (hu64 hr)) (je_ix (je_var 0) je_int) je_int) (jw_and1 (jt_cmp oj_lt (je_ix (je_var 0) je_int) (je_cb cr_len rfl T.b_len boot_len (ja_cons (je_var 2) ja_nil)))))) (jss_cons (js_set (i := 3) nd__law_take rfl (by first | exact Or.inl rfl | exact Or.inr rfl) (je_ix (je_var 2) (je_ix (je_var 0) je_int)))
  (jss_cons (js_augS (hu_of hr) (je_var 0) je_int je_int ij_add)
  (jss_cons (js_if (jt_cmp oj_lt (je_cb cr_abs rfl T.b_abs boot_abs (ja_cons (je_var 3) ja_nil)) (je_op oj_pow je_int je_int)) (jss_one (js_ret (je_op oj_mod (je_ct cr_int rfl T.b_int boot_int (ja_cons (je_own o__law_mixed rfl h__law_mixed hr rfl (ja_cons (je_var 3) (ja_cons (je_ix (je_var 0) je_int) ja_nil))) ja_nil)) (je_var 1)))) jss_nil)
  (jss_cons (js_store (je_var 0) je_int (je_cb cr_abs rfl T.b_abs boot_abs (ja_cons (je_var 3) ja_nil)) (ps_st (hu_of hr)))
  (jss_one (js_store (je_var 0) je_int je_int (ps_st (hu_of hr)))))))) jss_nil)
  (jss_cons (js_if (jt_cmp (oj_eq (hu64 hr)) (je_ix (je_var 0) je_int) je_int) (jss_one (js_ret (je_op oj_mod (je_ct cr_int rfl T.b_int boot_int (ja_cons (je_own o__law_mixed rfl h__law_mixed hr rfl (ja_cons (je_ix (je_var 0) je_int) (ja_cons (je_ix (je_var 0) je_int) ja_nil))) ja_nil)) (je_var 1)))) jss_nil)
  (jss_cons (js_set (i := 4) nd__law_take rfl (by first | exact Or.inl rfl | exact Or.inr rfl) (je_op oj_mod (je_ct cr_int rfl T.b_int boot_int (ja_cons (je_ix (je_var 0) je_int) ja_nil)) (je_var 1)))
  (jss_cons (js_augS (hu_of hr) (je_var 0) je_int je_int ij_sub)
  (jss_cons (js_store (je_var 0) je_int (je_op oj_mul (je_op oj_fdiv (je_ix (je_var 0) je_int) (je_var 1)) (je_ct cr_int rfl T.b_int boot_int (ja_cons (je_cmp oj_gt (je_ix (je_var 0) je_int) je_int) ja_nil))) (ps_st (hu_of hr)))
  (jss_one (js_ret (je_var 4))))))))))
abbrev st__law_pick : Stmt := top 15
abbrev N__law_pick : List Str := ["state", "some"]
theorem sc__law_pick : FnScope N__law_pick ["state", "some"] (defScope st__law_pick) := ⟨rfl, rfl, rfl, by decide +kernel, rfl, by decide +kernel, by decide +kernel⟩
theorem nd__law_pick : N__law_pick.Nodup := sc__law_pick.nd
def t__law_pick (r__law_take : DN) : DS := (dRet (dOp ixD (dVar 1) (dCall 2 r__law_take (dCons (dVar 0) (dCons (dCB lenN (dCons (dVar 1) dNil)) dNil)))))
theorem walk__law_pick {P : Program} {w : World} {K : PySem.W.Frag} {mg : Str → Option Value} {base : Heap} (T : Bt mg) {k : Nat} {r__law_take : DN} {j__law_take : Nat} (o__law_take : Own P w K mg base "_law_take" ["state", "limit"] j__law_take r__law_take) (h__law_take : j__law_take ≤ k) (f : Addr) (cdv : Value) (A : Around) (outer : List Env) (s : Shared) (H : Hp) (E : XK) (B : Bs) (hr : Room k (A.deeper (envOfC "_law_pick" (defScope st__law_pick) s.heap.objs.size f cdv))) :
    JSs (cxOf CX0 P w K mg base N__law_pick "_law_pick" (defScope st__law_pick) f cdv A outer s H E).nox B (defBody st__law_pick) (t__law_pick r__law_take) :=
  (jss_one (js_ret (je_ix (je_var 1) (je_own o__law_take rfl h__law_take hr rfl (ja_cons (je_var 0) (ja_cons (je_cb cr_len rfl T.b_len boot_len (ja_cons (je_var 1) ja_nil)) ja_nil))))))
abbrev st__law_shuffled : Stmt := top 16
abbrev N__law_shuffled : List Str := ["state", "some", "left", "found", "k", "at"]
theorem sc__law_shuffled : FnScope N__law_shuffled ["state", "some"] (defScope st__law_shuffled) := ⟨rfl, rfl, rfl, by decide +kernel, rfl, by decide +kernel, by decide +kernel⟩
theorem nd__law_shuffled : N__law_shuffled.Nodup := sc__law_shuffled.nd
def t__law_shuffled (r__law_take : DN) : DS := (dSeq (dSet 2 (dCB lstN (dCons (dVar 1) dNil)))
  (dSeq (dSet 3 (dLst dNil))
  (dSeq (dFor (dRng1 (dCons (dCB lenN (dCons (dVar 1) dNil)) dNil)) (dgName 4) (dSeq (dSet 5 (dCall 2 r__law_take (dCons (dVar 0) (dCons (dCB lenN (dCons (dVar 2) dNil)) dNil))))
  (dSeq (dDrop (dM "list" appM (dVar 3) (dCons (dOp ixD (dVar 2) (dVar 5)) dNil)))
  (dSet 2 (dOp addD (dSl (dVar 2) dNoP (dP (dVar 5))) (dSl (dVar 2) (dP (dOp addD (dVar 5) (dC (.int 1)))) dNoP))))))
  (dRet (dVar 3)))))
theorem walk__law_shuffled {P : Program} {w : World} {K : PySem.W.Frag} {mg : Str → Option Value} {base : Heap} (T : Bt mg) {k : Nat} {r__law_take : DN} {j__law_take : Nat} (o__law_take : Own P w K mg base "_law_take" ["state", "limit"] j__law_take r__law_take) (h__law_take : j__law_take ≤ k) (f : Addr) (cdv : Value) (A : Around) (outer : List Env) (s : Shared) (H : Hp) (E : XK) (B : Bs) (hr : Room k (A.deeper (envOfC "_law_shuffled" (defScope st__law_shuffled) s.heap.objs.size f cdv))) :
    JSs (cxOf CX0 P w K mg base N__law_shuffled "_law_shuffled" (defScope st__law_shuffled) f cdv A outer s H E).nox B (defBody st__law_shuffled) (t__law_shuffled r__law_take) :=
  (jss_cons (js_set (i := 2) nd__law_shuffled rfl (by first | exact Or.inl rfl | exact Or.inr rfl) (je_ct cr_lst rfl T.b_list boot_list (ja_cons (je_var 1) ja_nil)))
  (jss_cons (js_set (i := 3) nd__law_shuffled rfl (by first | exact Or.inl rfl | exact Or.inr rfl) (je_lst ja_nil))
  (jss_cons (js_for (vs := [4]) PassesOwn.never rfl (ji_range1 rfl T.b_range (ja_cons (je_cb cr_len rfl T.b_len boot_len (ja_cons (je_var 1) ja_nil)) ja_nil)) (jg_name (i := 4) (by decide) nd__law_shuffled rfl (by first | exact Or.inl rfl | exact Or.inr rfl)) (jss_cons (js_set (i := 5) nd__law_shuffled rfl (by first | exact Or.inl rfl | exact Or.inr rfl) (je_own o__law_take rfl h__law_take hr rfl (ja_cons (je_var 0) (ja_cons (je_cb cr_len rfl T.b_len boot_len (ja_cons (je_var 2) ja_nil)) ja_nil))))
  (jss_cons (js_expr (je_m PySem.F.plainAttrs_list PySem.F.slot_list_append rfl mt_app (je_var 3) (ja_cons (je_ix (je_var 2) (je_var 5)) ja_nil)))
  (jss_one (js_set (i := 2) nd__law_shuffled rfl (by first | exact Or.inl rfl | exact Or.inr rfl) (je_op oj_add (je_slice (je_var 2) jo_none (jo_some (je_var 5))) (je_slice (je_var 2) (jo_some (je_op oj_add (je_var 5) je_int)) jo_none)))))))
  (jss_one (js_ret (je_var 3))))))
abbrev st__law_same : Stmt := top 17
abbrev N__law_same : List Str := ["told", "due", "k"]
theorem sc__law_same : FnScope N__law_same ["told", "due"] (defScope st__law_same) := ⟨rfl, rfl, rfl, by decide +kernel, rfl, by decide +kernel, by decide +kernel⟩
theorem nd__law_same : N__law_same.Nodup := sc__law_same.nd
def t__law_same (r__law_same : DN) : DS := (dSeq (dIf (dB (dOp (isD false) (dVar 1) (dC .non))) (dRet (dOp (isD false) (dVar 0) (dC .non))) dNext)
  (dSeq (dIf (dB (dIsi .bl (dVar 1))) (dRet (dAndV (dIsi .bl (dVar 0)) (dOp (eqD false) (dVar 0) (dVar 1)))) dNext)
  (dSeq (dIf (dB (dIsi .int (dVar 1))) (dRet (dAndV (dIsi .int (dVar 0)) (dAndV (dNotV (dIsi .bl (dVar 0))) (dOp (eqD false) (dVar 0) (dVar 1))))) dNext)
  (dSeq (dIf (dB (dIsi .str (dVar 1))) (dRet (dAndV (dIsi .str (dVar 0)) (dOp (eqD false) (dVar 0) (dVar 1)))) dNext)
  (dSeq (dIf (dOr (dNot (dB (dIsi .tup (dVar 0)))) (dB (dOp (eqD true) (dCB lenN (dCons (dVar 0) dNil)) (dCB lenN (dCons (dVar 1) dNil))))) (dRet (dC (.bl false))) dNext)
  (dSeq (dFor (dRng1 (dCons (dCB lenN (dCons (dVar 1) dNil)) dNil)) (dgName 2) (dIf (dNot (dB (dCall 2 r__law_same (dCons (dOp ixD (dVar 0) (dVar 2)) (dCons (dOp ixD (dVar 1) (dVar 2)) dNil))))) (dRet (dC (.bl false))) dNext))
  (dRet (dC (.bl true)))))))))
theorem walk__law_same {P : Program} {w : World} {K : PySem.W.Frag} {mg : Str → Option Value} {base : Heap} (T : Bt mg) {k : Nat} {r__law_same : DN} {j__law_same : Nat} (o__law_same : Own P w K mg base "_law_same" ["told", "due"] j__law_same r__law_same) (h__law_same : j__law_same ≤ k) (f : Addr) (cdv : Value) (A : Around) (outer : List Env) (s : Shared) (H : Hp) (E : XK) (B : Bs) (hr : Room k (A.deeper (envOfC "_law_same" (defScope st__law_same) s.heap.objs.size f cdv))) :
    JSs (cxOf CX0 P w K mg base N__law_same "_law_same" (defScope st__law_same) f cdv A outer s H E).nox B (defBody st__law_same) (t__law_same r__law_same) :=
  (jss_cons (js_if (jt_cmp oj_is (je_var 1) je_non) (jss_one (js_ret (je_cmp oj_is (je_var 0) je_non))) jss_nil)
  (jss_cons (js_if (jt_val (je_isi .bl (by decide) rfl T.b_isinstance boot_isinstance (je_var 1) rfl T.b_bool boot_bool)) (jss_one (js_ret (je_and (je_isi .bl (by decide) rfl T.b_isinstance boot_isinstance (je_var 0) rfl T.b_bool boot_bool) (je_one (je_cmp (oj_eq (hu64 hr)) (je_var 0) (je_var 1)))))) jss_nil)
  (jss_cons (js_if (jt_val (je_isi .int (by decide) rfl T.b_isinstance boot_isinstance (je_var 1) rfl T.b_int boot_int)) (jss_one (js_ret (je_and (je_isi .int (by decide) rfl T.b_isinstance boot_isinstance (je_var 0) rfl T.b_int boot_int) (je_and (je_not (je_isi .bl (by decide) rfl T.b_isinstance boot_isinstance (je_var 0) rfl T.b_bool boot_bool)) (je_one (je_cmp (oj_eq (hu64 hr)) (je_var 0) (je_var 1))))))) jss_nil)
  (jss_cons (js_if (jt_val (je_isi .str (by decide) rfl T.b_isinstance boot_isinstance (je_var 1) rfl T.b_str boot_str)) (jss_one (js_ret (je_and (je_isi .str (by decide) rfl T.b_isinstance boot_isinstance (je_var 0) rfl T.b_str boot_str) (je_one (je_cmp (oj_eq (hu64 hr)) (je_var 0) (je_var 1)))))) jss_nil)
  (jss_cons (js_if (jt_w (jw_or (jt_not (jt_val (je_isi .tup (by decide) rfl T.b_isinstance boot_isinstance (je_var 0) rfl T.b_tuple boot_tuple))) (jw_or1 (jt_cmp (oj_ne (hu64 hr)) (je_cb cr_len rfl T.b_len boot_len (ja_cons (je_var 0) ja_nil)) (je_cb cr_len rfl T.b_len boot_len (ja_cons (je_var 1) ja_nil)))))) (jss_one (js_ret je_bl)) jss_nil)
  (jss_cons (js_for (vs := [2]) PassesOwn.never rfl (ji_range1 rfl T.b_range (ja_cons (je_cb cr_len rfl T.b_len boot_len (ja_cons (je_var 1) ja_nil)) ja_nil)) (jg_name (i := 2) (by decide) nd__law_same rfl (by first | exact Or.inl rfl | exact Or.inr rfl)) (jss_one (js_if (jt_not (jt_val (je_own o__law_same rfl h__law_same hr rfl (ja_cons (je_ix (je_var 0) (je_var 2)) (ja_cons (je_ix (je_var 1) (je_var 2)) ja_nil))))) (jss_one (js_ret je_bl)) jss_nil)))
  (jss_one (js_ret je_bl))))))))
abbrev st__law_names : Stmt := top 18
abbrev N__law_names : List Str := ["state", "many", "signs", "word", "start", "found", "k", "cut"]
theorem sc__law_names : FnScope N__law_names ["state", "many"] (defScope st__law_names) := ⟨rfl, rfl, rfl, by decide +kernel, rfl, by decide +kernel, by decide +kernel⟩
theorem nd__law_names : N__law_names.Nodup := sc__law_names.nd
def t__law_names (r__law_take : DN) : DS := (dSeq (dSet 2 (dC (.str ("abcdefghijklmnopqrstuvwxyz0123456789." : Str))))
  (dSeq (dSet 3 (dM "str" joinM (dC (.str ("" : Str))) (dCons (dLc (dRng1 (dCons (dC (.int 10)) dNil)) (dgName 6) dYes (dOp ixD (dVar 2) (dCall 2 r__law_take (dCons (dVar 0) (dCons (dC (.int 37)) dNil)))) [6]) dNil)))
  (dSeq (dSet 4 (dCall 2 r__law_take (dCons (dVar 0) (dCons (dC (.int 37)) dNil))))
  (dSeq (dSet 5 (dLst dNil))
  (dSeq (dFor (dRng1 (dCons (dVar 1) dNil)) (dgName 6) (dSeq (dSet 7 (dCall 2 r__law_take (dCons (dVar 0) (dCons (dC (.int 11)) dNil))))
  (dDrop (dM "list" appM (dVar 5) (dCons (dOp addD (dOp addD (dSl (dVar 3) dNoP (dP (dVar 7))) (dOp ixD (dVar 2) (dOp modD (dCB intN (dCons (dOp addD (dVar 4) (dVar 6)) dNil)) (dC (.int 37))))) (dOp mulD (dOp ixD (dVar 2) (dOp fdivD (dVar 6) (dC (.int 37)))) (dCB intN (dCons (dOp gtI (dVar 1) (dC (.int 37))) dNil)))) dNil)))))
  (dRet (dCB finN (dCons (dCB sortN (dCons (dVar 5) dNil)) dNil))))))))
theorem walk__law_names {P : Program} {w : World} {K : PySem.W.Frag} {mg : Str → Option Value} {base : Heap} (T : Bt mg) {k : Nat} {r__law_take : DN} {j__law_take : Nat} (o__law_take : Own P w K mg base "_law_take" ["state", "limit"] j__law_take r__law_take) (h__law_take : j__law_take ≤ k) (f : Addr) (cdv : Value) (A : Around) (outer : List Env) (s : Shared) (H : Hp) (E : XK) (B : Bs) (hr : Room k (A.deeper (envOfC "_law_names" (defScope st__law_names) s.heap.objs.size f cdv))) :
    JSs (cxOf CX0 P w K mg base N__law_names "_law_names" (defScope st__law_names) f cdv A outer s H E).nox B (defBody st__law_names) (t__law_names r__law_take) :=
  (jss_cons (js_set (i := 2) nd__law_names rfl (by first | exact Or.inl rfl | exact Or.inr rfl) je_str)
  (jss_cons (js_set (i := 3) nd__law_names rfl (by first | exact Or.inl rfl | exact Or.inr rfl) (je_m PySem.F.plainAttrs_str PySem.F.slot_str_join rfl mt_joinD je_str (ja_cons (je_lc (own := [("k", 6)]) rfl nd__law_names (ji_range1 rfl T.b_range (ja_cons je_int ja_nil)) (blkOk_by (own := [("k", 6)]) (N := N__law_names) (sc := defScope st__law_names) (by decide +kernel)) (fun _ _ _ _ _ => (jg_name (i := 6) (by decide) nd__law_names rfl (by first | exact Or.inl rfl | exact Or.inr rfl))) (fun _ _ _ _ _ => jts_nil) (fun _ _ _ _ _ => (je_ix (je_var 2) (je_own o__law_take rfl h__law_take hr rfl (ja_cons (je_var 0) (ja_cons je_int ja_nil)))))) ja_nil)))
  (jss_cons (js_set (i := 4) nd__law_names rfl (by first | exact Or.inl rfl | exact Or.inr rfl) (je_own o__law_take rfl h__law_take hr rfl (ja_cons (je_var 0) (ja_cons je_int ja_nil))))
  (jss_cons (js_set (i := 5) nd__law_names rfl (by first | exact Or.inl rfl | exact Or.inr rfl) (je_lst ja_nil))
  (jss_cons (js_for (vs := [6]) PassesOwn.never rfl (ji_range1 rfl T.b_range (ja_cons (je_var 1) ja_nil)) (jg_name (i := 6) (by decide) nd__law_names rfl (by first | exact Or.inl rfl | exact Or.inr rfl)) (jss_cons (js_set (i := 7) nd__law_names rfl (by first | exact Or.inl rfl | exact Or.inr rfl) (je_own o__law_take rfl h__law_take hr rfl (ja_cons (je_var 0) (ja_cons je_int ja_nil))))
  (jss_one (js_expr (je_m PySem.F.plainAttrs_list PySem.F.slot_list_append rfl mt_app (je_var 5) (ja_cons (je_op oj_add (je_op oj_add (je_slice (je_var 3) jo_none (jo_some (je_var 7))) (je_ix (je_var 2) (je_op oj_mod (je_ct cr_int rfl T.b_int boot_int (ja_cons (je_op oj_add (je_var 4) (je_var 6)) ja_nil)) je_int))) (je_op oj_mul (je_ix (je_var 2) (je_op oj_fdiv (je_var 6) je_int)) (je_ct cr_int rfl T.b_int boot_int (ja_cons (je_cmp oj_gt (je_var 1) je_int) ja_nil)))) ja_nil))))))
  (jss_one (js_ret (je_ct cr_fin rfl T.b_tuple boot_tuple (ja_cons (je_cb (cr_sortN rfl (hu64 hr)) rfl T.b_sorted boot_sorted (ja_cons (je_var 5) ja_nil)) ja_nil)))))))))
abbrev st__law_lot : Stmt := top 19
abbrev N__law_lot : List Str := ["state", "finds", "one", "find"]
theorem sc__law_lot : FnScope N__law_lot ["state", "finds"] (defScope st__law_lot) := ⟨rfl, rfl, rfl, by decide +kernel, rfl, by decide +kernel, by decide +kernel⟩
theorem nd__law_lot : N__law_lot.Nodup := sc__law_lot.nd
def t__law_lot (r__law_pick : DN) (r__law_take : DN) : DS := (dSeq (dSet 2 (dCall 2 r__law_pick (dCons (dVar 0) (dCons (dVar 1) dNil))))
  (dRet (dCB tupN (dCons (dCB sortN (dCons (dLc (dSeqI (dVar 1)) (dgName 3) (dOr (dB (dOp (eqD false) (dVar 3) (dVar 2))) (dB (dOp (eqD false) (dCall 2 r__law_take (dCons (dVar 0) (dCons (dC (.int 3)) dNil))) (dC (.int 0))))) (dVar 3) [3]) dNil)) dNil))))
theorem walk__law_lot {P : Program} {w : World} {K : PySem.W.Frag} {mg : Str → Option Value} {base : Heap} (T : Bt mg) {k : Nat} {r__law_pick : DN} {r__law_take : DN} {j__law_pick j__law_take : Nat} (o__law_pick : Own P w K mg base "_law_pick" ["state", "some"] j__law_pick r__law_pick) (h__law_pick : j__law_pick ≤ k) (o__law_take : Own P w K mg base "_law_take" ["state", "limit"] j__law_take r__law_take) (h__law_take : j__law_take ≤ k) (f : Addr) (cdv : Value) (A : Around) (outer : List Env) (s : Shared) (H : Hp) (E : XK) (B : Bs) (hr : Room k (A.deeper (envOfC "_law_lot" (defScope st__law_lot) s.heap.objs.size f cdv))) :
    JSs (cxOf CX0 P w K mg base N__law_lot "_law_lot" (defScope st__law_lot) f cdv A outer s H E).nox B (defBody st__law_lot) (t__law_lot r__law_pick r__law_take) :=
  (jss_cons (js_set (i := 2) nd__law_lot rfl (by first | exact Or.inl rfl | exact Or.inr rfl) (je_own o__law_pick rfl h__law_pick hr rfl (ja_cons (je_var 0) (ja_cons (je_var 1) ja_nil))))
  (jss_one (js_ret (je_ct cr_tup rfl T.b_tuple boot_tuple (ja_cons (je_cb (cr_sortN rfl (hu64 hr)) rfl T.b_sorted boot_sorted (ja_cons (je_lc (own := [("find", 3)]) rfl nd__law_lot (ji_seq (je_var 1)) (blkOk_by (own := [("find", 3)]) (N := N__law_lot) (sc := defScope st__law_lot) (by decide +kernel)) (fun _ _ _ _ _ => (jg_name (i := 3) (by decide) nd__law_lot rfl (by first | exact Or.inl rfl | exact Or.inr rfl))) (fun _ _ _ _ _ => (jts_one (jt_w (jw_or (jt_cmp (oj_eq (hu64 hr)) (je_var 3) (je_var 2)) (jw_or1 (jt_cmp (oj_eq (hu64 hr)) (je_own o__law_take rfl h__law_take hr rfl (ja_cons (je_var 0) (ja_cons je_int ja_nil))) je_int)))))) (fun _ _ _ _ _ => (je_var 3))) ja_nil)) ja_nil)))))
abbrev st__law_series : Stmt := top 20
abbrev N__law_series : List Str := ["state", "hidden", "many", "turned", "rows", "k", "cuts", "row", "j"]
theorem sc__law_series : FnScope N__law_series ["state", "hidden", "many"] (defScope st__law_series) := ⟨rfl, rfl, rfl, by decide +kernel, rfl, by decide +kernel, by decide +kernel⟩
theorem nd__law_series : N__law_series.Nodup := sc__law_series.nd
def t__law_series (r__law_take : DN) (r__law_shuffled : DN) (r__law_pick : DN) : DS := (dSeq (dSet 3 (dOp (eqD false) (dCall 2 r__law_take (dCons (dVar 0) (dCons (dC (.int 2)) dNil))) (dC (.int 0))))
  (dSeq (dSet 4 (dLst dNil))
  (dSeq (dFor (dRng1 (dCons (dVar 2) dNil)) (dgName 5) (dSeq (dSet 6 (dCB sortN (dCons (dSl (dCall 2 r__law_shuffled (dCons (dVar 0) (dCons (dLstR1 (dOp addD (dCB lenN (dCons (dVar 1) dNil)) (dC (.int 1)))) dNil))) dNoP (dP (dCall 2 r__law_pick (dCons (dVar 0) (dCons (dLst (dCons (dC (.int 3)) (dCons (dC (.int 3)) (dCons (dC (.int 4)) (dCons (dOp addD (dCB lenN (dCons (dVar 1) dNil)) (dC (.int 1))) dNil))))) dNil))))) dNil)))
  (dSeq (dSet 7 (dLc (dRng1 (dCons (dOp subD (dCB lenN (dCons (dVar 6) dNil)) (dC (.int 1))) dNil)) (dgName 8) dYes (dCB tupN (dCons (dCB sortN (dCons (dSl (dVar 1) (dP (dOp ixD (dVar 6) (dVar 8))) (dP (dOp ixD (dVar 6) (dOp addD (dVar 8) (dC (.int 1)))))) dNil)) dNil)) [8]))
  (dDrop (dM "list" appM (dVar 4) (dCons (dIfE (dB (dVar 3)) (dCB tupN (dCons (dRev (dVar 7)) dNil)) (dCB tupN (dCons (dVar 7) dNil))) dNil))))))
  (dRet (dTup (dCons (dC (.str ("series" : Str))) (dCons (dCB tupN (dCons (dVar 4) dNil)) dNil)))))))
theorem walk__law_series {P : Program} {w : World} {K : PySem.W.Frag} {mg : Str → Option Value} {base : Heap} (T : Bt mg) {k : Nat} {r__law_take : DN} {r__law_shuffled : DN} {r__law_pick : DN} {j__law_take j__law_shuffled j__law_pick : Nat} (o__law_take : Own P w K mg base "_law_take" ["state", "limit"] j__law_take r__law_take) (h__law_take : j__law_take ≤ k) (o__law_shuffled : Own P w K mg base "_law_shuffled" ["state", "some"] j__law_shuffled r__law_shuffled) (h__law_shuffled : j__law_shuffled ≤ k) (o__law_pick : Own P w K mg base "_law_pick" ["state", "some"] j__law_pick r__law_pick) (h__law_pick : j__law_pick ≤ k) (f : Addr) (cdv : Value) (A : Around) (outer : List Env) (s : Shared) (H : Hp) (E : XK) (B : Bs) (hr : Room k (A.deeper (envOfC "_law_series" (defScope st__law_series) s.heap.objs.size f cdv))) :
    JSs (cxOf CX0 P w K mg base N__law_series "_law_series" (defScope st__law_series) f cdv A outer s H E).nox B (defBody st__law_series) (t__law_series r__law_take r__law_shuffled r__law_pick) :=
  (jss_cons (js_set (i := 3) nd__law_series rfl (by first | exact Or.inl rfl | exact Or.inr rfl) (je_cmp (oj_eq (hu64 hr)) (je_own o__law_take rfl h__law_take hr rfl (ja_cons (je_var 0) (ja_cons je_int ja_nil))) je_int))
  (jss_cons (js_set (i := 4) nd__law_series rfl (by first | exact Or.inl rfl | exact Or.inr rfl) (je_lst ja_nil))
  (jss_cons (js_for (vs := [5]) PassesOwn.never rfl (ji_range1 rfl T.b_range (ja_cons (je_var 2) ja_nil)) (jg_name (i := 5) (by decide) nd__law_series rfl (by first | exact Or.inl rfl | exact Or.inr rfl)) (jss_cons (js_set (i := 6) nd__law_series rfl (by first | exact Or.inl rfl | exact Or.inr rfl) (je_cb (cr_sortN rfl (hu64 hr)) rfl T.b_sorted boot_sorted (ja_cons (je_slice (je_own o__law_shuffled rfl h__law_shuffled hr rfl (ja_cons (je_var 0) (ja_cons (je_lstR1 rfl rfl T.b_list rfl T.b_range (je_op oj_add (je_cb cr_len rfl T.b_len boot_len (ja_cons (je_var 1) ja_nil)) je_int)) ja_nil))) jo_none (jo_some (je_own o__law_pick rfl h__law_pick hr rfl (ja_cons (je_var 0) (ja_cons (je_lst (ja_cons je_int (ja_cons je_int (ja_cons je_int (ja_cons (je_op oj_add (je_cb cr_len rfl T.b_len boot_len (ja_cons (je_var 1) ja_nil)) je_int) ja_nil))))) ja_nil))))) ja_nil)))
  (jss_cons (js_setLc (i := 7) (own := [("j", 8)]) rfl nd__law_series rfl rfl (sw_true rfl rfl rfl (by decide +kernel)) (ji_range1 rfl T.b_range (ja_cons (je_op oj_sub (je_cb cr_len rfl T.b_len boot_len (ja_cons (je_var 6) ja_nil)) je_int) ja_nil)) (blkOk_by (own := [("j", 8)]) (N := N__law_series) (sc := defScope st__law_series) (by decide +kernel)) (fun _ _ _ _ _ => (jg_name (i := 8) (by decide) nd__law_series rfl (by first | exact Or.inl rfl | exact Or.inr rfl))) (fun _ _ _ _ _ => jts_nil) (fun _ _ _ _ _ => (je_ct cr_tup rfl T.b_tuple boot_tuple (ja_cons (je_cb (cr_sortN rfl (hu64 hr)) rfl T.b_sorted boot_sorted (ja_cons (je_slice (je_var 1) (jo_some (je_ix (je_var 6) (je_var 8))) (jo_some (je_ix (je_var 6) (je_op oj_add (je_var 8) je_int)))) ja_nil)) ja_nil))))
  (jss_one (js_expr (je_m PySem.F.plainAttrs_list PySem.F.slot_list_append rfl mt_app (je_var 4) (ja_cons (je_if (jt_val (je_var 3)) (je_ct cr_tup rfl T.b_tuple boot_tuple (ja_cons (je_rev (je_var 7)) ja_nil)) (je_ct cr_tup rfl T.b_tuple boot_tuple (ja_cons (je_var 7) ja_nil))) ja_nil)))))))
  (jss_one (js_ret (je_tup (ja_cons je_str (ja_cons (je_ct cr_tup rfl T.b_tuple boot_tuple (ja_cons (je_var 4) ja_nil)) ja_nil))))))))
abbrev st__law_years : Stmt := top 21
abbrev N__law_years : List Str := ["state", "hidden", "step", "wide", "lot", "places", "base", "low", "high", "way", "k"]
theorem sc__law_years : FnScope N__law_years ["state", "hidden"] (defScope st__law_years) := ⟨rfl, rfl, rfl, by decide +kernel, rfl, by decide +kernel, by decide +kernel⟩
theorem nd__law_years : N__law_years.Nodup := sc__law_years.nd
def t__law_years (r__law_pick : DN) (r__law_lot : DN) (r__law_take : DN) : DS := (dSeq (dPar 2 3 (dCons (dCall 2 r__law_pick (dCons (dVar 0) (dCons (dLst (dCons (dC (.int 0)) (dCons (dC (.int 10)) (dCons (dC (.int 100)) dNil)))) dNil))) (dCons (dCall 2 r__law_pick (dCons (dVar 0) (dCons (dLst (dCons (dC (.int 0)) (dCons (dC (.int 5)) (dCons (dC (.int 150)) dNil)))) dNil))) dNil)))
  (dSeq (dSet 4 (dCall 2 r__law_lot (dCons (dVar 0) (dCons (dVar 1) dNil))))
  (dSeq (dSet 5 (dLc (dRng1 (dCons (dCB lenN (dCons (dVar 1) dNil)) dNil)) (dgName 10) (dB (dOp (inD false) (dOp ixD (dVar 1) (dVar 10)) (dVar 4))) (dVar 10) [10]))
  (dSeq (dSet 6 (dCall 2 r__law_pick (dCons (dVar 0) (dCons (dLst (dCons (dC (.int 0)) (dCons (dC (.int 0)) (dCons (dC (.int 0)) (dCons (dUn negD (dC (.int 5000))) dNil))))) dNil))))
  (dSeq (dPar 7 8 (dCons (dOp subD (dOp addD (dVar 6) (dOp mulD (dVar 2) (dOp ixD (dVar 5) (dC (.int 0))))) (dVar 3)) (dCons (dOp addD (dOp addD (dVar 6) (dOp mulD (dVar 2) (dOp ixD (dVar 5) (dUn negD (dC (.int 1)))))) (dVar 3)) dNil)))
  (dSeq (dSet 9 (dCall 2 r__law_take (dCons (dVar 0) (dCons (dC (.int 4)) dNil))))
  (dRet (dTup (dCons (dC (.str ("years" : Str))) (dCons (dVar 4) (dCons (dIfE (dB (dOp (eqD false) (dVar 9) (dC (.int 0)))) (dC .non) (dVar 7)) (dCons (dIfE (dB (dOp (eqD false) (dVar 9) (dC (.int 1)))) (dC .non) (dVar 8)) dNil))))))))))))
theorem walk__law_years {P : Program} {w : World} {K : PySem.W.Frag} {mg : Str → Option Value} {base : Heap} (T : Bt mg) {k : Nat} {r__law_pick : DN} {r__law_lot : DN} {r__law_take : DN} {j__law_pick j__law_lot j__law_take : Nat} (o__law_pick : Own P w K mg base "_law_pick" ["state", "some"] j__law_pick r__law_pick) (h__law_pick : j__law_pick ≤ k) (o__law_lot : Own P w K mg base "_law_lot" ["state", "finds"] j__law_lot r__law_lot) (h__law_lot : j__law_lot ≤ k) (o__law_take : Own P w K mg base "_law_take" ["state", "limit"] j__law_take r__law_take) (h__law_take : j__law_take ≤ k) (f : Addr) (cdv : Value) (A : Around) (outer : List Env) (s : Shared) (H : Hp) (E : XK) (B : Bs) (hr : Room k (A.deeper (envOfC "_law_years" (defScope st__law_years) s.heap.objs.size f cdv))) :
    JSs (cxOf CX0 P w K mg base N__law_years "_law_years" (defScope st__law_years) f cdv A outer s H E).nox B (defBody st__law_years) (t__law_years r__law_pick r__law_lot r__law_take) :=
  (jss_cons (js_par (i := 2) (j := 3) rfl nd__law_years rfl rfl (by decide) rfl rfl (ja_cons (je_own o__law_pick rfl h__law_pick hr rfl (ja_cons (je_var 0) (ja_cons (je_lst (ja_cons je_int (ja_cons je_int (ja_cons je_int ja_nil)))) ja_nil))) (ja_cons (je_own o__law_pick rfl h__law_pick hr rfl (ja_cons (je_var 0) (ja_cons (je_lst (ja_cons je_int (ja_cons je_int (ja_cons je_int ja_nil)))) ja_nil))) ja_nil)) rfl)
  (jss_cons (js_set (i := 4) nd__law_years rfl (by first | exact Or.inl rfl | exact Or.inr rfl) (je_own o__law_lot rfl h__law_lot hr rfl (ja_cons (je_var 0) (ja_cons (je_var 1) ja_nil))))
  (jss_cons (js_setLc (i := 5) (own := [("k", 10)]) rfl nd__law_years rfl rfl (sw_true rfl rfl rfl (by decide +kernel)) (ji_range1 rfl T.b_range (ja_cons (je_cb cr_len rfl T.b_len boot_len (ja_cons (je_var 1) ja_nil)) ja_nil)) (blkOk_by (own := [("k", 10)]) (N := N__law_years) (sc := defScope st__law_years) (by decide +kernel)) (fun _ _ _ _ _ => (jg_name (i := 10) (by decide) nd__law_years rfl (by first | exact Or.inl rfl | exact Or.inr rfl))) (fun _ _ _ _ _ => (jts_one (jt_cmp oj_in (je_ix (je_var 1) (je_var 10)) (je_var 4)))) (fun _ _ _ _ _ => (je_var 10)))
  (jss_cons (js_set (i := 6) nd__law_years rfl (by first | exact Or.inl rfl | exact Or.inr rfl) (je_own o__law_pick rfl h__law_pick hr rfl (ja_cons (je_var 0) (ja_cons (je_lst (ja_cons je_int (ja_cons je_int (ja_cons je_int (ja_cons (je_un uj_neg je_int) ja_nil))))) ja_nil))))
  (jss_cons (js_par (i := 7) (j := 8) rfl nd__law_years rfl rfl (by decide) rfl rfl (ja_cons (je_op oj_sub (je_op oj_add (je_var 6) (je_op oj_mul (je_var 2) (je_ix (je_var 5) je_int))) (je_var 3)) (ja_cons (je_op oj_add (je_op oj_add (je_var 6) (je_op oj_mul (je_var 2) (je_ix (je_var 5) (je_un uj_neg je_int)))) (je_var 3)) ja_nil)) rfl)
  (jss_cons (js_set (i := 9) nd__law_years rfl (by first | exact Or.inl rfl | exact Or.inr rfl) (je_own o__law_take rfl h__law_take hr rfl (ja_cons (je_var 0) (ja_cons je_int ja_nil))))
  (jss_one (js_ret (je_tup (ja_cons je_str (ja_cons (je_var 4) (ja_cons (je_if (jt_cmp (oj_eq (hu64 hr)) (je_var 9) je_int) je_non (je_var 7)) (ja_cons (je_if (jt_cmp (oj_eq (hu64 hr)) (je_var 9) je_int) je_non (je_var 8)) ja_nil)))))))))))))
abbrev st__law_thing : Stmt := top 22
abbrev N__law_thing : List Str := ["state", "hidden", "kind", "cut", "first"]
theorem sc__law_thing : FnScope N__law_thing ["state", "hidden"] (defScope st__law_thing) := ⟨rfl, rfl, rfl, by decide +kernel, rfl, by decide +kernel, by decide +kernel⟩
theorem nd__law_thing : N__law_thing.Nodup := sc__law_thing.nd
def t__law_thing (r__law_take : DN) (r__law_lot : DN) (r__law_years : DN) (r__law_series : DN) : DS := (dSeq (dSet 2 (dIfE (dB (dOp gtI (dCB lenN (dCons (dVar 1) dNil)) (dC (.int 1)))) (dCall 2 r__law_take (dCons (dVar 0) (dCons (dC (.int 6)) dNil))) (dOp addD (dC (.int 4)) (dCall 2 r__law_take (dCons (dVar 0) (dCons (dC (.int 2)) dNil))))))
  (dSeq (dIf (dB (dOp ltD (dVar 2) (dC (.int 2)))) (dSeq (dSet 3 (dOp addD (dC (.int 1)) (dCall 2 r__law_take (dCons (dVar 0) (dCons (dOp subD (dCB lenN (dCons (dVar 1) dNil)) (dC (.int 1))) dNil)))))
  (dRet (dTup (dCons (dC (.str ("elder" : Str))) (dCons (dCall 2 r__law_lot (dCons (dVar 0) (dCons (dSl (dVar 1) dNoP (dP (dVar 3))) dNil))) (dCons (dCall 2 r__law_lot (dCons (dVar 0) (dCons (dSl (dVar 1) (dP (dVar 3)) dNoP) dNil))) dNil)))))) dNext)
  (dSeq (dIf (dB (dOp (eqD false) (dVar 2) (dC (.int 5)))) (dRet (dCall 2 r__law_years (dCons (dVar 0) (dCons (dVar 1) dNil)))) dNext)
  (dSeq (dIf (dB (dOp (eqD false) (dVar 2) (dC (.int 2)))) (dRet (dCall 3 r__law_series (dCons (dVar 0) (dCons (dVar 1) (dCons (dOp addD (dC (.int 1)) (dCall 2 r__law_take (dCons (dVar 0) (dCons (dC (.int 2)) dNil)))) dNil))))) dNext)
  (dSeq (dSet 4 (dCall 2 r__law_take (dCons (dVar 0) (dCons (dCB lenN (dCons (dVar 1) dNil)) dNil))))
  (dRet (dTup (dCons (dC (.str ("ware" : Str))) (dCons (dCB tupN (dCons (dCB sortN (dCons (dSl (dVar 1) (dP (dVar 4)) (dP (dOp addD (dOp addD (dVar 4) (dC (.int 1))) (dCall 2 r__law_take (dCons (dVar 0) (dCons (dOp subD (dCB lenN (dCons (dVar 1) dNil)) (dVar 4)) dNil)))))) dNil)) dNil)) dNil)))))))))
theorem walk__law_thing {P : Program} {w : World} {K : PySem.W.Frag} {mg : Str → Option Value} {base : Heap} (T : Bt mg) {k : Nat} {r__law_take : DN} {r__law_lot : DN} {r__law_years : DN} {r__law_series : DN} {j__law_take j__law_lot j__law_years j__law_series : Nat} (o__law_take : Own P w K mg base "_law_take" ["state", "limit"] j__law_take r__law_take) (h__law_take : j__law_take ≤ k) (o__law_lot : Own P w K mg base "_law_lot" ["state", "finds"] j__law_lot r__law_lot) (h__law_lot : j__law_lot ≤ k) (o__law_years : Own P w K mg base "_law_years" ["state", "hidden"] j__law_years r__law_years) (h__law_years : j__law_years ≤ k) (o__law_series : Own P w K mg base "_law_series" ["state", "hidden", "many"] j__law_series r__law_series) (h__law_series : j__law_series ≤ k) (f : Addr) (cdv : Value) (A : Around) (outer : List Env) (s : Shared) (H : Hp) (E : XK) (B : Bs) (hr : Room k (A.deeper (envOfC "_law_thing" (defScope st__law_thing) s.heap.objs.size f cdv))) :
    JSs (cxOf CX0 P w K mg base N__law_thing "_law_thing" (defScope st__law_thing) f cdv A outer s H E).nox B (defBody st__law_thing) (t__law_thing r__law_take r__law_lot r__law_years r__law_series) :=
  (jss_cons (js_set (i := 2) nd__law_thing rfl (by first | exact Or.inl rfl | exact Or.inr rfl) (je_if (jt_cmp oj_gt (je_cb cr_len rfl T.b_len boot_len (ja_cons (je_var 1) ja_nil)) je_int) (je_own o__law_take rfl h__law_take hr rfl (ja_cons (je_var 0) (ja_cons je_int ja_nil))) (je_op oj_add je_int (je_own o__law_take rfl h__law_take hr rfl (ja_cons (je_var 0) (ja_cons je_int ja_nil))))))
  (jss_cons (js_if (jt_cmp oj_lt (je_var 2) je_int) (jss_cons (js_set (i := 3) nd__law_thing rfl (by first | exact Or.inl rfl | exact Or.inr rfl) (je_op oj_add je_int (je_own o__law_take rfl h__law_take hr rfl (ja_cons (je_var 0) (ja_cons (je_op oj_sub (je_cb cr_len rfl T.b_len boot_len (ja_cons (je_var 1) ja_nil)) je_int) ja_nil)))))
  (jss_one (js_ret (je_tup (ja_cons je_str (ja_cons (je_own o__law_lot rfl h__law_lot hr rfl (ja_cons (je_var 0) (ja_cons (je_slice (je_var 1) jo_none (jo_some (je_var 3))) ja_nil))) (ja_cons (je_own o__law_lot rfl h__law_lot hr rfl (ja_cons (je_var 0) (ja_cons (je_slice (je_var 1) (jo_some (je_var 3)) jo_none) ja_nil))) ja_nil))))))) jss_nil)
  (jss_cons (js_if (jt_cmp (oj_eq (hu64 hr)) (je_var 2) je_int) (jss_one (js_ret (je_own o__law_years rfl h__law_years hr rfl (ja_cons (je_var 0) (ja_cons (je_var 1) ja_nil))))) jss_nil)
  (jss_cons (js_if (jt_cmp (oj_eq (hu64 hr)) (je_var 2) je_int) (jss_one (js_ret (je_own o__law_series rfl h__law_series hr rfl (ja_cons (je_var 0) (ja_cons (je_var 1) (ja_cons (je_op oj_add je_int (je_own o__law_take rfl h__law_take hr rfl (ja_cons (je_var 0) (ja_cons je_int ja_nil)))) ja_nil)))))) jss_nil)
  (jss_cons (js_set (i := 4) nd__law_thing rfl (by first | exact Or.inl rfl | exact Or.inr rfl) (je_own o__law_take rfl h__law_take hr rfl (ja_cons (je_var 0) (ja_cons (je_cb cr_len rfl T.b_len boot_len (ja_cons (je_var 1) ja_nil)) ja_nil))))
  (jss_one (js_ret (je_tup (ja_cons je_str (ja_cons (je_ct cr_tup rfl T.b_tuple boot_tuple (ja_cons (je_cb (cr_sortN rfl (hu64 hr)) rfl T.b_sorted boot_sorted (ja_cons (je_slice (je_var 1) (jo_some (je_var 4)) (jo_some (je_op oj_add (je_op oj_add (je_var 4) je_int) (je_own o__law_take rfl h__law_take hr rfl (ja_cons (je_var 0) (ja_cons (je_op oj_sub (je_cb cr_len rfl T.b_len boot_len (ja_cons (je_var 1) ja_nil)) (je_var 4)) ja_nil)))))) ja_nil)) ja_nil)) ja_nil))))))))))
abbrev st__law_dossier : Stmt := top 23
abbrev N__law_dossier : List Str := ["state", "many", "things", "finds", "hidden", "other", "mixed", "found", "k"]
theorem sc__law_dossier : FnScope N__law_dossier ["state", "many", "things"] (defScope st__law_dossier) := ⟨rfl, rfl, rfl, by decide +kernel, rfl, by decide +kernel, by decide +kernel⟩
theorem nd__law_dossier : N__law_dossier.Nodup := sc__law_dossier.nd
def t__law_dossier (r__law_names : DN) (r__law_shuffled : DN) (r__law_take : DN) (r__law_thing : DN) : DS := (dSeq (dSet 3 (dCall 2 r__law_names (dCons (dVar 0) (dCons (dVar 1) dNil))))
  (dSeq (dSet 4 (dCall 2 r__law_shuffled (dCons (dVar 0) (dCons (dVar 3) dNil))))
  (dSeq (dSet 5 (dCall 2 r__law_shuffled (dCons (dVar 0) (dCons (dVar 3) dNil))))
  (dSeq (dSet 6 (dOp (eqD false) (dCall 2 r__law_take (dCons (dVar 0) (dCons (dC (.int 3)) dNil))) (dC (.int 0))))
  (dSeq (dSet 7 (dLst dNil))
  (dSeq (dFor (dRng1 (dCons (dIfE (dB (dOp gtI (dVar 1) (dC (.int 0)))) (dVar 2) (dC (.int 0))) dNil)) (dgName 8) (dDrop (dM "list" appM (dVar 7) (dCons (dCall 2 r__law_thing (dCons (dVar 0) (dCons (dIfE (dAnd (dB (dVar 6)) (dB (dOp (eqD false) (dCall 2 r__law_take (dCons (dVar 0) (dCons (dC (.int 2)) dNil))) (dC (.int 0))))) (dVar 5) (dVar 4)) dNil))) dNil))))
  (dRet (dTup (dCons (dVar 3) (dCons (dCB tupN (dCons (dVar 7) dNil)) dNil))))))))))
theorem walk__law_dossier {P : Program} {w : World} {K : PySem.W.Frag} {mg : Str → Option Value} {base : Heap} (T : Bt mg) {k : Nat} {r__law_names : DN} {r__law_shuffled : DN} {r__law_take : DN} {r__law_thing : DN} {j__law_names j__law_shuffled j__law_take j__law_thing : Nat} (o__law_names : Own P w K mg base "_law_names" ["state", "many"] j__law_names r__law_names) (h__law_names : j__law_names ≤ k) (o__law_shuffled : Own P w K mg base "_law_shuffled" ["state", "some"] j__law_shuffled r__law_shuffled) (h__law_shuffled : j__law_shuffled ≤ k) (o__law_take : Own P w K mg base "_law_take" ["state", "limit"] j__law_take r__law_take) (h__law_take : j__law_take ≤ k) (o__law_thing : Own P w K mg base "_law_thing" ["state", "hidden"] j__law_thing r__law_thing) (h__law_thing : j__law_thing ≤ k) (f : Addr) (cdv : Value) (A : Around) (outer : List Env) (s : Shared) (H : Hp) (E : XK) (B : Bs) (hr : Room k (A.deeper (envOfC "_law_dossier" (defScope st__law_dossier) s.heap.objs.size f cdv))) :
    JSs (cxOf CX0 P w K mg base N__law_dossier "_law_dossier" (defScope st__law_dossier) f cdv A outer s H E).nox B (defBody st__law_dossier) (t__law_dossier r__law_names r__law_shuffled r__law_take r__law_thing) :=
  (jss_cons (js_set (i := 3) nd__law_dossier rfl (by first | exact Or.inl rfl | exact Or.inr rfl) (je_own o__law_names rfl h__law_names hr rfl (ja_cons (je_var 0) (ja_cons (je_var 1) ja_nil))))
  (jss_cons (js_set (i := 4) nd__law_dossier rfl (by first | exact Or.inl rfl | exact Or.inr rfl) (je_own o__law_shuffled rfl h__law_shuffled hr rfl (ja_cons (je_var 0) (ja_cons (je_var 3) ja_nil))))
  (jss_cons (js_set (i := 5) nd__law_dossier rfl (by first | exact Or.inl rfl | exact Or.inr rfl) (je_own o__law_shuffled rfl h__law_shuffled hr rfl (ja_cons (je_var 0) (ja_cons (je_var 3) ja_nil))))
  (jss_cons (js_set (i := 6) nd__law_dossier rfl (by first | exact Or.inl rfl | exact Or.inr rfl) (je_cmp (oj_eq (hu64 hr)) (je_own o__law_take rfl h__law_take hr rfl (ja_cons (je_var 0) (ja_cons je_int ja_nil))) je_int))
  (jss_cons (js_set (i := 7) nd__law_dossier rfl (by first | exact Or.inl rfl | exact Or.inr rfl) (je_lst ja_nil))
  (jss_cons (js_for (vs := [8]) PassesOwn.never rfl (ji_range1 rfl T.b_range (ja_cons (je_if (jt_cmp oj_gt (je_var 1) je_int) (je_var 2) je_int) ja_nil)) (jg_name (i := 8) (by decide) nd__law_dossier rfl (by first | exact Or.inl rfl | exact Or.inr rfl)) (jss_one (js_expr (je_m PySem.F.plainAttrs_list PySem.F.slot_list_append rfl mt_app (je_var 7) (ja_cons (je_own o__law_thing rfl h__law_thing hr rfl (ja_cons (je_var 0) (ja_cons (je_if (jt_w (jw_and (jt_val (je_var 6)) (jw_and1 (jt_cmp (oj_eq (hu64 hr)) (je_own o__law_take rfl h__law_take hr rfl (ja_cons (je_var 0) (ja_cons je_int ja_nil))) je_int)))) (je_var 5) (je_var 4)) ja_nil))) ja_nil)))))
  (jss_one (js_ret (je_tup (ja_cons (je_var 3) (ja_cons (je_ct cr_tup rfl T.b_tuple boot_tuple (ja_cons (je_var 7) ja_nil)) ja_nil)))))))))))
abbrev st__law_bands : Stmt := top 24
abbrev N__law_bands : List Str := ["thing", "found", "row", "k"]
theorem sc__law_bands : FnScope N__law_bands ["thing"] (defScope st__law_bands) := ⟨rfl, rfl, rfl, by decide +kernel, rfl, by decide +kernel, by decide +kernel⟩
theorem nd__law_bands : N__law_bands.Nodup := sc__law_bands.nd
def t__law_bands  : DS := (dSeq (dIf (dB (dOp (eqD false) (dOp ixD (dVar 0) (dC (.int 0))) (dC (.str ("ware" : Str))))) (dRet (dTup (dCons (dOp ixD (dVar 0) (dC (.int 1))) dNil))) dNext)
  (dSeq (dSet 1 (dTup dNil))
  (dSeq (dFor (dSeqI (dIfE (dB (dOp (eqD false) (dOp ixD (dVar 0) (dC (.int 0))) (dC (.str ("series" : Str))))) (dOp ixD (dVar 0) (dC (.int 1))) (dTup dNil))) (dgName 2) (dSet 1 (dOp addD (dOp addD (dVar 1) (dVar 2)) (dCB tupN (dCons (dLc (dRng1 (dCons (dOp subD (dCB lenN (dCons (dVar 2) dNil)) (dC (.int 1))) dNil)) (dgName 3) dYes (dCB tupN (dCons (dCB sortN (dCons (dOp addD (dOp ixD (dVar 2) (dVar 3)) (dOp ixD (dVar 2) (dOp addD (dVar 3) (dC (.int 1))))) dNil)) dNil)) [3]) dNil)))))
  (dRet (dVar 1)))))
theorem walk__law_bands {P : Program} {w : World} {K : PySem.W.Frag} {mg : Str → Option Value} {base : Heap} (T : Bt mg) {k : Nat} (f : Addr) (cdv : Value) (A : Around) (outer : List Env) (s : Shared) (H : Hp) (E : XK) (B : Bs) (hr : Room k (A.deeper (envOfC "_law_bands" (defScope st__law_bands) s.heap.objs.size f cdv))) :
    JSs (cxOf CX0 P w K mg base N__law_bands "_law_bands" (defScope st__law_bands) f cdv A outer s H E).nox B (defBody st__law_bands) (t__law_bands ) :=
  (jss_cons (js_if (jt_cmp (oj_eq (hu64 hr)) (je_ix (je_var 0) je_int) je_str) (jss_one (js_ret (je_tup (ja_cons (je_ix (je_var 0) je_int) ja_nil)))) jss_nil)
  (jss_cons (js_set (i := 1) nd__law_bands rfl (by first | exact Or.inl rfl | exact Or.inr rfl) (je_tup ja_nil))
  (jss_cons (js_for (vs := [2]) PassesOwn.never rfl (ji_seq (je_if (jt_cmp (oj_eq (hu64 hr)) (je_ix (je_var 0) je_int) je_str) (je_ix (je_var 0) je_int) (je_tup ja_nil))) (jg_name (i := 2) (by decide) nd__law_bands rfl (by first | exact Or.inl rfl | exact Or.inr rfl)) (jss_one (js_set (i := 1) nd__law_bands rfl (by first | exact Or.inl rfl | exact Or.inr rfl) (je_op oj_add (je_op oj_add (je_var 1) (je_var 2)) (je_ct cr_tup rfl T.b_tuple boot_tuple (ja_cons (je_lc (own := [("k", 3)]) rfl nd__law_bands (ji_range1 rfl T.b_range (ja_cons (je_op oj_sub (je_cb cr_len rfl T.b_len boot_len (ja_cons (je_var 2) ja_nil)) je_int) ja_nil)) (blkOk_by (own := [("k", 3)]) (N := N__law_bands) (sc := defScope st__law_bands) (by decide +kernel)) (fun _ _ _ _ _ => (jg_name (i := 3) (by decide) nd__law_bands rfl (by first | exact Or.inl rfl | exact Or.inr rfl))) (fun _ _ _ _ _ => jts_nil) (fun _ _ _ _ _ => (je_ct cr_tup rfl T.b_tuple boot_tuple (ja_cons (je_cb (cr_sortN rfl (hu64 hr)) rfl T.b_sorted boot_sorted (ja_cons (je_op oj_add (je_ix (je_var 2) (je_var 3)) (je_ix (je_var 2) (je_op oj_add (je_var 3) je_int))) ja_nil)) ja_nil)))) ja_nil))))))
  (jss_one (js_ret (je_var 1))))))
abbrev st__law_low : Stmt := top 25
abbrev N__law_low : List Str := ["dossier", "a", "lows", "thing", "low"]
theorem sc__law_low : FnScope N__law_low ["dossier", "a"] (defScope st__law_low) := ⟨rfl, rfl, rfl, by decide +kernel, rfl, by decide +kernel, by decide +kernel⟩
theorem nd__law_low : N__law_low.Nodup := sc__law_low.nd
def t__law_low  : DS := (dSeq (dSet 2 (dLc (dSeqI (dOp ixD (dVar 0) (dC (.int 1)))) (dgName 3) (dAnd (dB (dOp (eqD false) (dOp ixD (dVar 3) (dC (.int 0))) (dC (.str ("years" : Str))))) (dB (dOp (inD false) (dVar 1) (dOp ixD (dVar 3) (dC (.int 1)))))) (dOp ixD (dVar 3) (dC (.int 2))) [3]))
  (dSeq (dSet 2 (dLc (dSeqI (dVar 2)) (dgName 4) (dB (dOp (isD true) (dVar 4) (dC .non))) (dVar 4) [4]))
  (dRet (dIfE (dB (dOp (eqD true) (dVar 2) (dLst dNil))) (dCB maxN (dCons (dVar 2) dNil)) (dC .non)))))
theorem walk__law_low {P : Program} {w : World} {K : PySem.W.Frag} {mg : Str → Option Value} {base : Heap} (T : Bt mg) {k : Nat} (f : Addr) (cdv : Value) (A : Around) (outer : List Env) (s : Shared) (H : Hp) (E : XK) (B : Bs) (hr : Room k (A.deeper (envOfC "_law_low" (defScope st__law_low) s.heap.objs.size f cdv))) :
    JSs (cxOf CX0 P w K mg base N__law_low "_law_low" (defScope st__law_low) f cdv A outer s H E).nox B (defBody st__law_low) (t__law_low ) :=
  (jss_cons (js_setLc (i := 2) (own := [("thing", 3)]) rfl nd__law_low rfl rfl (sw_true rfl rfl rfl (by decide +kernel)) (ji_seq (je_ix (je_var 0) je_int)) (blkOk_by (own := [("thing", 3)]) (N := N__law_low) (sc := defScope st__law_low) (by decide +kernel)) (fun _ _ _ _ _ => (jg_name (i := 3) (by decide) nd__law_low rfl (by first | exact Or.inl rfl | exact Or.inr rfl))) (fun _ _ _ _ _ => (jts_one (jt_w (jw_and (jt_cmp (oj_eq (hu64 hr)) (je_ix (je_var 3) je_int) je_str) (jw_and1 (jt_cmp oj_in (je_var 1) (je_ix (je_var 3) je_int))))))) (fun _ _ _ _ _ => (je_ix (je_var 3) je_int)))
  (jss_cons (js_setLc (i := 2) (own := [("low", 4)]) rfl nd__law_low rfl rfl (sw_true rfl rfl rfl (by decide +kernel)) (ji_seq (je_var 2)) (blkOk_by (own := [("low", 4)]) (N := N__law_low) (sc := defScope st__law_low) (by decide +kernel)) (fun _ _ _ _ _ => (jg_name (i := 4) (by decide) nd__law_low rfl (by first | exact Or.inl rfl | exact Or.inr rfl))) (fun _ _ _ _ _ => (jts_one (jt_cmp oj_isnot (je_var 4) je_non))) (fun _ _ _ _ _ => (je_var 4)))
  (jss_one (js_ret (je_if (jt_cmp (oj_ne (hu64 hr)) (je_var 2) (je_lst ja_nil)) (je_cb (cr_maxD rfl) rfl T.b_max boot_max (ja_cons (je_var 2) ja_nil)) je_non)))))
abbrev st__law_high : Stmt := top 26
abbrev N__law_high : List Str := ["dossier", "a", "highs", "thing", "high"]
theorem sc__law_high : FnScope N__law_high ["dossier", "a"] (defScope st__law_high) := ⟨rfl, rfl, rfl, by decide +kernel, rfl, by decide +kernel, by decide +kernel⟩
theorem nd__law_high : N__law_high.Nodup := sc__law_high.nd
def t__law_high  : DS := (dSeq (dSet 2 (dLc (dSeqI (dOp ixD (dVar 0) (dC (.int 1)))) (dgName 3) (dAnd (dB (dOp (eqD false) (dOp ixD (dVar 3) (dC (.int 0))) (dC (.str ("years" : Str))))) (dB (dOp (inD false) (dVar 1) (dOp ixD (dVar 3) (dC (.int 1)))))) (dOp ixD (dVar 3) (dC (.int 3))) [3]))
  (dSeq (dSet 2 (dLc (dSeqI (dVar 2)) (dgName 4) (dB (dOp (isD true) (dVar 4) (dC .non))) (dVar 4) [4]))
  (dRet (dIfE (dB (dOp (eqD true) (dVar 2) (dLst dNil))) (dCB minN (dCons (dVar 2) dNil)) (dC .non)))))
theorem walk__law_high {P : Program} {w : World} {K : PySem.W.Frag} {mg : Str → Option Value} {base : Heap} (T : Bt mg) {k : Nat} (f : Addr) (cdv : Value) (A : Around) (outer : List Env) (s : Shared) (H : Hp) (E : XK) (B : Bs) (hr : Room k (A.deeper (envOfC "_law_high" (defScope st__law_high) s.heap.objs.size f cdv))) :
    JSs (cxOf CX0 P w K mg base N__law_high "_law_high" (defScope st__law_high) f cdv A outer s H E).nox B (defBody st__law_high) (t__law_high ) :=
  (jss_cons (js_setLc (i := 2) (own := [("thing", 3)]) rfl nd__law_high rfl rfl (sw_true rfl rfl rfl (by decide +kernel)) (ji_seq (je_ix (je_var 0) je_int)) (blkOk_by (own := [("thing", 3)]) (N := N__law_high) (sc := defScope st__law_high) (by decide +kernel)) (fun _ _ _ _ _ => (jg_name (i := 3) (by decide) nd__law_high rfl (by first | exact Or.inl rfl | exact Or.inr rfl))) (fun _ _ _ _ _ => (jts_one (jt_w (jw_and (jt_cmp (oj_eq (hu64 hr)) (je_ix (je_var 3) je_int) je_str) (jw_and1 (jt_cmp oj_in (je_var 1) (je_ix (je_var 3) je_int))))))) (fun _ _ _ _ _ => (je_ix (je_var 3) je_int)))
  (jss_cons (js_setLc (i := 2) (own := [("high", 4)]) rfl nd__law_high rfl rfl (sw_true rfl rfl rfl (by decide +kernel)) (ji_seq (je_var 2)) (blkOk_by (own := [("high", 4)]) (N := N__law_high) (sc := defScope st__law_high) (by decide +kernel)) (fun _ _ _ _ _ => (jg_name (i := 4) (by decide) nd__law_high rfl (by first | exact Or.inl rfl | exact Or.inr rfl))) (fun _ _ _ _ _ => (jts_one (jt_cmp oj_isnot (je_var 4) je_non))) (fun _ _ _ _ _ => (je_var 4)))
  (jss_one (js_ret (je_if (jt_cmp (oj_ne (hu64 hr)) (je_var 2) (je_lst ja_nil)) (je_cb (cr_minD rfl) rfl T.b_min boot_min (ja_cons (je_var 2) ja_nil)) je_non)))))
abbrev st__law_basic : Stmt := top 27
abbrev N__law_basic : List Str := ["dossier", "found", "thing", "a", "b", "high", "low"]
theorem sc__law_basic : FnScope N__law_basic ["dossier"] (defScope st__law_basic) := ⟨rfl, rfl, rfl, by decide +kernel, rfl, by decide +kernel, by decide +kernel⟩
theorem nd__law_basic : N__law_basic.Nodup := sc__law_basic.nd
def t__law_basic (r__law_low : DN) (r__law_high : DN) : DS := (dSeq (dSet 1 dDicT)
  (dSeq (dFor (dSeqI (dOp ixD (dVar 0) (dC (.int 1)))) (dgName 2) (dIf (dB (dOp (eqD false) (dOp ixD (dVar 2) (dC (.int 0))) (dC (.str ("elder" : Str))))) (dFor (dSeqI (dOp ixD (dVar 2) (dC (.int 1)))) (dgName 3) (dFor (dSeqI (dOp ixD (dVar 2) (dC (.int 2)))) (dgName 4) (dStore (dC (.bl true)) (dVar 1) (dTup (dCons (dVar 3) (dCons (dVar 4) dNil))) stD))) dNext))
  (dSeq (dFor (dSeqI (dOp ixD (dVar 0) (dC (.int 0)))) (dgName 3) (dFor (dSeqI (dOp ixD (dVar 0) (dC (.int 0)))) (dgName 4) (dSeq (dPar 5 6 (dCons (dCall 2 r__law_high (dCons (dVar 0) (dCons (dVar 3) dNil))) (dCons (dCall 2 r__law_low (dCons (dVar 0) (dCons (dVar 4) dNil))) dNil)))
  (dIf (dAnd (dB (dOp (isD true) (dVar 5) (dC .non))) (dAnd (dB (dOp (isD true) (dVar 6) (dC .non))) (dB (dOp ltD (dVar 5) (dVar 6))))) (dStore (dC (.bl true)) (dVar 1) (dTup (dCons (dVar 3) (dCons (dVar 4) dNil))) stD) dNext))))
  (dRet (dCB tupN (dCons (dCB sortN (dCons (dVar 1) dNil)) dNil))))))
theorem walk__law_basic {P : Program} {w : World} {K : PySem.W.Frag} {mg : Str → Option Value} {base : Heap} (T : Bt mg) {k : Nat} {r__law_low : DN} {r__law_high : DN} {j__law_low j__law_high : Nat} (o__law_low : Own P w K mg base "_law_low" ["dossier", "a"] j__law_low r__law_low) (h__law_low : j__law_low ≤ k) (o__law_high : Own P w K mg base "_law_high" ["dossier", "a"] j__law_high r__law_high) (h__law_high : j__law_high ≤ k) (f : Addr) (cdv : Value) (A : Around) (outer : List Env) (s : Shared) (H : Hp) (E : XK) (B : Bs) (hr : Room k (A.deeper (envOfC "_law_basic" (defScope st__law_basic) s.heap.objs.size f cdv))) :
    JSs (cxOf CX0 P w K mg base N__law_basic "_law_basic" (defScope st__law_basic) f cdv A outer s H E).nox B (defBody st__law_basic) (t__law_basic r__law_low r__law_high) :=
  (jss_cons (js_set (i := 1) nd__law_basic rfl (by first | exact Or.inl rfl | exact Or.inr rfl) je_dicT)
  (jss_cons (js_for (vs := [2]) PassesOwn.never rfl (ji_seq (je_ix (je_var 0) je_int)) (jg_name (i := 2) (by decide) nd__law_basic rfl (by first | exact Or.inl rfl | exact Or.inr rfl)) (jss_one (js_if (jt_cmp (oj_eq (hu64 hr)) (je_ix (je_var 2) je_int) je_str) (jss_one (js_for (vs := [3]) PassesOwn.never rfl (ji_seq (je_ix (je_var 2) je_int)) (jg_name (i := 3) (by decide) nd__law_basic rfl (by first | exact Or.inl rfl | exact Or.inr rfl)) (jss_one (js_for (vs := [4]) PassesOwn.never rfl (ji_seq (je_ix (je_var 2) je_int)) (jg_name (i := 4) (by decide) nd__law_basic rfl (by first | exact Or.inl rfl | exact Or.inr rfl)) (jss_one (js_store (je_var 1) (je_tup (ja_cons (je_var 3) (ja_cons (je_var 4) ja_nil))) je_bl (ps_st (hu_of hr)))))))) jss_nil)))
  (jss_cons (js_for (vs := [3]) PassesOwn.never rfl (ji_seq (je_ix (je_var 0) je_int)) (jg_name (i := 3) (by decide) nd__law_basic rfl (by first | exact Or.inl rfl | exact Or.inr rfl)) (jss_one (js_for (vs := [4]) PassesOwn.never rfl (ji_seq (je_ix (je_var 0) je_int)) (jg_name (i := 4) (by decide) nd__law_basic rfl (by first | exact Or.inl rfl | exact Or.inr rfl)) (jss_cons (js_par (i := 5) (j := 6) rfl nd__law_basic rfl rfl (by decide) rfl rfl (ja_cons (je_own o__law_high rfl h__law_high hr rfl (ja_cons (je_var 0) (ja_cons (je_var 3) ja_nil))) (ja_cons (je_own o__law_low rfl h__law_low hr rfl (ja_cons (je_var 0) (ja_cons (je_var 4) ja_nil))) ja_nil)) rfl)
  (jss_one (js_if (jt_w (jw_and (jt_cmp oj_isnot (je_var 5) je_non) (jw_and (jt_cmp oj_isnot (je_var 6) je_non) (jw_and1 (jt_cmp oj_lt (je_var 5) (je_var 6)))))) (jss_one (js_store (je_var 1) (je_tup (ja_cons (je_var 3) (ja_cons (je_var 4) ja_nil))) je_bl (ps_st (hu_of hr)))) jss_nil))))))
  (jss_one (js_ret (je_ct cr_tup rfl T.b_tuple boot_tuple (ja_cons (je_cb (cr_sortN rfl (hu64 hr)) rfl T.b_sorted boot_sorted (ja_cons (je_var 1) ja_nil)) ja_nil)))))))
abbrev st__law_free_series : Stmt := top 28
abbrev N__law_free_series : List Str := ["state", "finds", "rows", "k", "some", "cuts", "j"]
theorem sc__law_free_series : FnScope N__law_free_series ["state", "finds"] (defScope st__law_free_series) := ⟨rfl, rfl, rfl, by decide +kernel, rfl, by decide +kernel, by decide +kernel⟩
theorem nd__law_free_series : N__law_free_series.Nodup := sc__law_free_series.nd
def t__law_free_series (r__law_pick : DN) (r__law_shuffled : DN) (r__law_take : DN) : DS := (dSeq (dSet 2 (dLst dNil))
  (dSeq (dFor (dRng1 (dCons (dCall 2 r__law_pick (dCons (dVar 0) (dCons (dLst (dCons (dC (.int 1)) (dCons (dC (.int 2)) (dCons (dC (.int 3)) (dCons (dC (.int 5)) (dCons (dC (.int 40)) dNil)))))) dNil))) dNil)) (dgName 3) (dSeq (dSet 4 (dSl (dCall 2 r__law_shuffled (dCons (dVar 0) (dCons (dVar 1) dNil))) dNoP (dP (dOp addD (dC (.int 2)) (dCall 2 r__law_take (dCons (dVar 0) (dCons (dC (.int 6)) dNil)))))))
  (dSeq (dSet 5 (dOp addD (dOp addD (dLst (dCons (dC (.int 0)) dNil)) (dLc (dRng2 (dCons (dC (.int 1)) (dCons (dCB lenN (dCons (dVar 4) dNil)) dNil))) (dgName 6) (dOr (dB (dOp (eqD false) (dVar 6) (dC (.int 1)))) (dB (dOp (eqD false) (dCall 2 r__law_take (dCons (dVar 0) (dCons (dC (.int 2)) dNil))) (dC (.int 0))))) (dVar 6) [6])) (dLst (dCons (dCB lenN (dCons (dVar 4) dNil)) dNil))))
  (dDrop (dM "list" appM (dVar 2) (dCons (dCB tupN (dCons (dLc (dRng1 (dCons (dOp subD (dCB lenN (dCons (dVar 5) dNil)) (dC (.int 1))) dNil)) (dgName 6) dYes (dCB tupN (dCons (dCB sortN (dCons (dSl (dVar 4) (dP (dOp ixD (dVar 5) (dVar 6))) (dP (dOp ixD (dVar 5) (dOp addD (dVar 6) (dC (.int 1)))))) dNil)) dNil)) [6]) dNil)) dNil))))))
  (dRet (dTup (dCons (dC (.str ("series" : Str))) (dCons (dCB tupN (dCons (dVar 2) dNil)) dNil))))))
theorem walk__law_free_series {P : Program} {w : World} {K : PySem.W.Frag} {mg : Str → Option Value} {base : Heap} (T : Bt mg) {k : Nat} {r__law_pick : DN} {r__law_shuffled : DN} {r__law_take : DN} {j__law_pick j__law_shuffled j__law_take : Nat} (o__law_pick : Own P w K mg base "_law_pick" ["state", "some"] j__law_pick r__law_pick) (h__law_pick : j__law_pick ≤ k) (o__law_shuffled : Own P w K mg base "_law_shuffled" ["state", "some"] j__law_shuffled r__law_shuffled) (h__law_shuffled : j__law_shuffled ≤ k) (o__law_take : Own P w K mg base "_law_take" ["state", "limit"] j__law_take r__law_take) (h__law_take : j__law_take ≤ k) (f : Addr) (cdv : Value) (A : Around) (outer : List Env) (s : Shared) (H : Hp) (E : XK) (B : Bs) (hr : Room k (A.deeper (envOfC "_law_free_series" (defScope st__law_free_series) s.heap.objs.size f cdv))) :
    JSs (cxOf CX0 P w K mg base N__law_free_series "_law_free_series" (defScope st__law_free_series) f cdv A outer s H E).nox B (defBody st__law_free_series) (t__law_free_series r__law_pick r__law_shuffled r__law_take) :=
  (jss_cons (js_set (i := 2) nd__law_free_series rfl (by first | exact Or.inl rfl | exact Or.inr rfl) (je_lst ja_nil))
  (jss_cons (js_for (vs := [3]) PassesOwn.never rfl (ji_range1 rfl T.b_range (ja_cons (je_own o__law_pick rfl h__law_pick hr rfl (ja_cons (je_var 0) (ja_cons (je_lst (ja_cons je_int (ja_cons je_int (ja_cons je_int (ja_cons je_int (ja_cons je_int ja_nil)))))) ja_nil))) ja_nil)) (jg_name (i := 3) (by decide) nd__law_free_series rfl (by first | exact Or.inl rfl | exact Or.inr rfl)) (jss_cons (js_set (i := 4) nd__law_free_series rfl (by first | exact Or.inl rfl | exact Or.inr rfl) (je_slice (je_own o__law_shuffled rfl h__law_shuffled hr rfl (ja_cons (je_var 0) (ja_cons (je_var 1) ja_nil))) jo_none (jo_some (je_op oj_add je_int (je_own o__law_take rfl h__law_take hr rfl (ja_cons (je_var 0) (ja_cons je_int ja_nil)))))))
  (jss_cons (js_set (i := 5) nd__law_free_series rfl (by first | exact Or.inl rfl | exact Or.inr rfl) (je_op oj_add (je_op oj_add (je_lst (ja_cons je_int ja_nil)) (je_lc (own := [("j", 6)]) rfl nd__law_free_series (ji_range2 rfl T.b_range (ja_cons je_int (ja_cons (je_cb cr_len rfl T.b_len boot_len (ja_cons (je_var 4) ja_nil)) ja_nil))) (blkOk_by (own := [("j", 6)]) (N := N__law_free_series) (sc := defScope st__law_free_series) (by decide +kernel)) (fun _ _ _ _ _ => (jg_name (i := 6) (by decide) nd__law_free_series rfl (by first | exact Or.inl rfl | exact Or.inr rfl))) (fun _ _ _ _ _ => (jts_one (jt_w (jw_or (jt_cmp (oj_eq (hu64 hr)) (je_var 6) je_int) (jw_or1 (jt_cmp (oj_eq (hu64 hr)) (je_own o__law_take rfl h__law_take hr rfl (ja_cons (je_var 0) (ja_cons je_int ja_nil))) je_int)))))) (fun _ _ _ _ _ => (je_var 6)))) (je_lst (ja_cons (je_cb cr_len rfl T.b_len boot_len (ja_cons (je_var 4) ja_nil)) ja_nil))))
  (jss_one (js_expr (je_m PySem.F.plainAttrs_list PySem.F.slot_list_append rfl mt_app (je_var 2) (ja_cons (je_ct cr_tup rfl T.b_tuple boot_tuple (ja_cons (je_lc (own := [("j", 6)]) rfl nd__law_free_series (ji_range1 rfl T.b_range (ja_cons (je_op oj_sub (je_cb cr_len rfl T.b_len boot_len (ja_cons (je_var 5) ja_nil)) je_int) ja_nil)) (blkOk_by (own := [("j", 6)]) (N := N__law_free_series) (sc := defScope st__law_free_series) (by decide +kernel)) (fun _ _ _ _ _ => (jg_name (i := 6) (by decide) nd__law_free_series rfl (by first | exact Or.inl rfl | exact Or.inr rfl))) (fun _ _ _ _ _ => jts_nil) (fun _ _ _ _ _ => (je_ct cr_tup rfl T.b_tuple boot_tuple (ja_cons (je_cb (cr_sortN rfl (hu64 hr)) rfl T.b_sorted boot_sorted (ja_cons (je_slice (je_var 4) (jo_some (je_ix (je_var 5) (je_var 6))) (jo_some (je_ix (je_var 5) (je_op oj_add (je_var 6) je_int)))) ja_nil)) ja_nil)))) ja_nil)) ja_nil)))))))
  (jss_one (js_ret (je_tup (ja_cons je_str (ja_cons (je_ct cr_tup rfl T.b_tuple boot_tuple (ja_cons (je_var 2) ja_nil)) ja_nil)))))))
abbrev st__law_told : Stmt := top 29
abbrev N__law_told : List Str := ["way", "dossier", "a", "by_name", "e"]
theorem sc__law_told : FnScope N__law_told ["way", "dossier", "a", "by_name"] (defScope st__law_told) := ⟨rfl, rfl, rfl, by decide +kernel, rfl, by decide +kernel, by decide +kernel⟩
theorem nd__law_told : N__law_told.Nodup := sc__law_told.nd
def t__law_told (r_low_of : DNX) (r_high_of : DNX) (C_UnknownName : Addr) (mk_UnknownName : List D → Option (List (Str × D))) : DS := (dTry C_UnknownName 4 (fun W => (dSeq (dIf (dB (dOp (eqD false) (dVar 0) (dC (.str ("low" : Str))))) (dRet (dTup (dCons (dC (.str ("told" : Str))) (dCons (dIfE (dB (dVar 3)) (dCallX 2 r_low_of W (dCons (dVar 1) (dCons (dVar 2) dNil))) (dCallX 2 r_low_of W (dCons (dVar 1) (dCons (dVar 2) dNil)))) dNil)))) dNext)
  (dRet (dTup (dCons (dC (.str ("told" : Str))) (dCons (dIfE (dB (dVar 3)) (dCallX 2 r_high_of W (dCons (dVar 1) (dCons (dVar 2) dNil))) (dCallX 2 r_high_of W (dCons (dVar 1) (dCons (dVar 2) dNil)))) dNil)))))) (fun a dd => (dRet (dTup (dCons (dC (.str ("unknown" : Str))) (dCons (dXf a dd "name" (dVar 4)) dNil))))))
theorem walk__law_told {P : Program} {w : World} {K : PySem.W.Frag} {mg : Str → Option Value} {base : Heap} (T : Bt mg) {k : Nat} {C_UnknownName : Addr} {mk_UnknownName : List D → Option (List (Str × D))} {jx_UnknownName : Nat} (x_UnknownName : ExcOwn P w K mg base "UnknownName" C_UnknownName jx_UnknownName mk_UnknownName) (hx_UnknownName : jx_UnknownName + 1 ≤ k) (n_UnknownName : ∀ n ∈ fields_UnknownName, PySem.W.findIn K (.ref C_UnknownName) n = some none) {r_low_of : DNX} {r_high_of : DNX} {j_low_of j_high_of : Nat} (o_low_of : OwnX P w K mg base "low_of" ["dossier", "a"] j_low_of r_low_of) (h_low_of : j_low_of ≤ k) (o_high_of : OwnX P w K mg base "high_of" ["dossier", "a"] j_high_of r_high_of) (h_high_of : j_high_of ≤ k) (f : Addr) (cdv : Value) (A : Around) (outer : List Env) (s : Shared) (H : Hp) (E : XK) (B : Bs) (hr : Room k (A.deeper (envOfC "_law_told" (defScope st__law_told) s.heap.objs.size f cdv))) :
    JSs (cxOf CX0 P w K mg base N__law_told "_law_told" (defScope st__law_told) f cdv A outer s H E).nox B (defBody st__law_told) (t__law_told r_low_of r_high_of C_UnknownName mk_UnknownName) :=
  (jss_one (js_tryAs (i := 4) rfl rfl nd__law_told rfl rfl ⟨rfl, by decide, .inl x_UnknownName.at_⟩ x_UnknownName.exm (fun B W pn xe tk hpo => (jss_cons (js_if (jt_cmp (oj_eq (hu64 hr)) (je_var 0) je_str) (jss_one (js_ret (je_tup (ja_cons je_str (ja_cons (je_if (jt_val (je_var 3)) (je_ownXK o_low_of rfl h_low_of hr tk rfl (jk_cons (je_var 1) (jk_cons (je_var 2) jk_nil))) (je_ownX o_low_of rfl h_low_of hr tk rfl (ja_cons (je_var 1) (ja_cons (je_var 2) ja_nil)))) ja_nil))))) jss_nil)
  (jss_one (js_ret (je_tup (ja_cons je_str (ja_cons (je_if (jt_val (je_var 3)) (je_ownXK o_high_of rfl h_high_of hr tk rfl (jk_cons (je_var 1) (jk_cons (je_var 2) jk_nil))) (je_ownX o_high_of rfl h_high_of hr tk rfl (ja_cons (je_var 1) (ja_cons (je_var 2) ja_nil)))) ja_nil))))))) (fun B a oe dd pn hz hf => (jss_one (js_ret (je_tup (ja_cons je_str (ja_cons (je_xf x_UnknownName.xf (n_UnknownName "name" (by decide)) hz hf (je_var 4)) ja_nil))))))))
abbrev st_law : Stmt := top 30
abbrev N_law : List Str := ["script", "state", "turn", "great", "dossier", "k", "far", "thing", "a", "by_name", "due"]
theorem sc_law : FnScope N_law ["script"] (defScope st_law) := ⟨rfl, rfl, rfl, by decide +kernel, rfl, by decide +kernel, by decide +kernel⟩
theorem nd_law : N_law.Nodup := sc_law.nd
def t_law (r__law_start : DN) (r__law_take : DN) (r__law_dossier : DN) (r__law_years : DN) (r__law_shuffled : DN) (r__law_pick : DN) (r__law_lot : DN) (r__law_free_series : DN) (r__law_same : DN) (r__law_bands : DN) (r_bands_of : DN) (r__law_low : DN) (r__law_told : DN) (r__law_high : DN) (r__law_basic : DN) (r_basic_pairs : DN) : DS := (dSeq (dSet 1 (dCall 1 r__law_start (dCons (dVar 0) dNil)))
  (dSeq (dFor (dRng1 (dCons (dC (.int 3)) dNil)) (dgName 2) (dSeq (dSet 3 (dOp (eqD false) (dCall 2 r__law_take (dCons (dVar 1) (dCons (dC (.int 16)) dNil))) (dC (.int 0))))
  (dSeq (dSet 4 (dCall 3 r__law_dossier (dCons (dVar 1) (dCons (dIfE (dB (dVar 3)) (dC (.int 40)) (dCall 2 r__law_take (dCons (dVar 1) (dCons (dC (.int 8)) dNil)))) (dCons (dIfE (dB (dVar 3)) (dC (.int 4)) (dCall 2 r__law_take (dCons (dVar 1) (dCons (dC (.int 8)) dNil)))) dNil)))))
  (dSeq (dFor (dRng1 (dCons (dIfE (dB (dOp (eqD true) (dOp ixD (dVar 4) (dC (.int 0))) (dTup dNil))) (dCall 2 r__law_take (dCons (dVar 1) (dCons (dC (.int 4)) dNil))) (dC (.int 0))) dNil)) (dgName 5) (dSeq (dSet 4 (dTup (dCons (dOp ixD (dVar 4) (dC (.int 0))) (dCons (dOp addD (dOp ixD (dVar 4) (dC (.int 1))) (dTup (dCons (dCall 2 r__law_years (dCons (dVar 1) (dCons (dCall 2 r__law_shuffled (dCons (dVar 1) (dCons (dOp ixD (dVar 4) (dC (.int 0))) dNil))) dNil))) dNil))) dNil))))
  (dSeq (dSet 6 (dTup (dCons (dC (.str ("years" : Str))) (dCons (dCall 2 r__law_lot (dCons (dVar 1) (dCons (dOp ixD (dVar 4) (dC (.int 0))) dNil))) (dCons (dCall 2 r__law_pick (dCons (dVar 1) (dCons (dLst (dCons (dUn negD (dC (.int 9999))) (dCons (dC (.int 9999)) (dCons (dC (.int 0)) dNil)))) dNil))) (dCons (dCall 2 r__law_pick (dCons (dVar 1) (dCons (dLst (dCons (dC .non) (dCons (dC (.int 9999)) dNil))) dNil))) dNil))))))
  (dSet 4 (dTup (dCons (dOp ixD (dVar 4) (dC (.int 0))) (dCons (dOp addD (dOp ixD (dVar 4) (dC (.int 1))) (dTup (dCons (dOp ixD (dTup (dCons (dVar 6) (dCons (dOp addD (dSl (dVar 6) dNoP (dP (dC (.int 2)))) (dTup (dCons (dC .non) (dCons (dCall 2 r__law_pick (dCons (dVar 1) (dCons (dLst (dCons (dUn negD (dC (.int 9999))) (dCons (dC (.int 0)) (dCons (dC (.int 9999)) dNil)))) dNil))) dNil)))) dNil))) (dCall 2 r__law_take (dCons (dVar 1) (dCons (dC (.int 2)) dNil)))) dNil))) dNil)))))))
  (dSeq (dIf (dB (dOp gtI (dCB lenN (dCons (dOp ixD (dVar 4) (dC (.int 0))) dNil)) (dC (.int 1)))) (dSet 4 (dTup (dCons (dOp ixD (dVar 4) (dC (.int 0))) (dCons (dOp addD (dOp ixD (dVar 4) (dC (.int 1))) (dTup (dCons (dCall 2 r__law_free_series (dCons (dVar 1) (dCons (dOp ixD (dVar 4) (dC (.int 0))) dNil))) dNil))) dNil)))) dNext)
  (dSeq (dFor (dSeqI (dOp ixD (dVar 4) (dC (.int 1)))) (dgName 7) (dIf (dOr (dNot (dB (dCall 2 r__law_same (dCons (dCall 1 r_bands_of (dCons (dVar 7) dNil)) (dCons (dCall 1 r__law_bands (dCons (dVar 7) dNil)) dNil))))) (dNot (dB (dCall 2 r__law_same (dCons (dCallK 1 1 id r_bands_of (dCons (dVar 7) dNil)) (dCons (dCall 1 r__law_bands (dCons (dVar 7) dNil)) dNil)))))) (dRet (dC (.bl false))) dNext))
  (dSeq (dFor (dSeqI (dOp ixD (dVar 4) (dC (.int 0)))) (dgName 8) (dFor (dSeqI (dTup (dCons (dC (.bl true)) (dCons (dC (.bl false)) dNil)))) (dgName 9) (dSeq (dIf (dNot (dB (dCall 2 r__law_same (dCons (dCall 4 r__law_told (dCons (dC (.str ("low" : Str))) (dCons (dVar 4) (dCons (dVar 8) (dCons (dVar 9) dNil))))) (dCons (dTup (dCons (dC (.str ("told" : Str))) (dCons (dCall 2 r__law_low (dCons (dVar 4) (dCons (dVar 8) dNil))) dNil))) dNil))))) (dRet (dC (.bl false))) dNext)
  (dIf (dNot (dB (dCall 2 r__law_same (dCons (dCall 4 r__law_told (dCons (dC (.str ("high" : Str))) (dCons (dVar 4) (dCons (dVar 8) (dCons (dVar 9) dNil))))) (dCons (dTup (dCons (dC (.str ("told" : Str))) (dCons (dCall 2 r__law_high (dCons (dVar 4) (dCons (dVar 8) dNil))) dNil))) dNil))))) (dRet (dC (.bl false))) dNext))))
  (dSeq (dSet 10 (dCall 1 r__law_basic (dCons (dVar 4) dNil)))
  (dSeq (dIf (dOr (dNot (dB (dCall 2 r__law_same (dCons (dCall 1 r_basic_pairs (dCons (dVar 4) dNil)) (dCons (dVar 10) dNil))))) (dNot (dB (dCall 2 r__law_same (dCons (dCallK 1 1 id r_basic_pairs (dCons (dVar 4) dNil)) (dCons (dVar 10) dNil)))))) (dRet (dC (.bl false))) dNext)
  (dFor (dSeqI (dTup (dCons (dC (.str ("a.b.c.d" : Str))) (dCons (dC (.str ("zzzzzzzzzzzz" : Str))) (dCons (dIfE (dB (dOp (eqD true) (dOp ixD (dVar 4) (dC (.int 0))) (dTup dNil))) (dSl (dOp addD (dOp ixD (dOp ixD (dVar 4) (dC (.int 0))) (dC (.int 0))) (dC (.str ("z" : Str)))) dNoP (dP (dC (.int 12)))) (dC (.str ("a" : Str)))) dNil))))) (dgName 8) (dIf (dB (dOp (inD true) (dVar 8) (dOp ixD (dVar 4) (dC (.int 0))))) (dSeq (dIf (dNot (dB (dCall 2 r__law_same (dCons (dCall 4 r__law_told (dCons (dC (.str ("low" : Str))) (dCons (dVar 4) (dCons (dVar 8) (dCons (dC (.bl false)) dNil))))) (dCons (dTup (dCons (dC (.str ("unknown" : Str))) (dCons (dVar 8) dNil))) dNil))))) (dRet (dC (.bl false))) dNext)
  (dIf (dNot (dB (dCall 2 r__law_same (dCons (dCall 4 r__law_told (dCons (dC (.str ("high" : Str))) (dCons (dVar 4) (dCons (dVar 8) (dCons (dC (.bl true)) dNil))))) (dCons (dTup (dCons (dC (.str ("unknown" : Str))) (dCons (dVar 8) dNil))) dNil))))) (dRet (dC (.bl false))) dNext)) dNext)))))))))))
  (dRet (dC (.bl true)))))
theorem walk_law {P : Program} {w : World} {K : PySem.W.Frag} {mg : Str → Option Value} {base : Heap} (T : Bt mg) {k : Nat} {r__law_start : DN} {r__law_take : DN} {r__law_dossier : DN} {r__law_years : DN} {r__law_shuffled : DN} {r__law_pick : DN} {r__law_lot : DN} {r__law_free_series : DN} {r__law_same : DN} {r__law_bands : DN} {r_bands_of : DN} {r__law_low : DN} {r__law_told : DN} {r__law_high : DN} {r__law_basic : DN} {r_basic_pairs : DN} {j__law_start j__law_take j__law_dossier j__law_years j__law_shuffled j__law_pick j__law_lot j__law_free_series j__law_same j__law_bands j_bands_of j__law_low j__law_told j__law_high j__law_basic j_basic_pairs : Nat} (o__law_start : Own P w K mg base "_law_start" ["script"] j__law_start r__law_start) (h__law_start : j__law_start ≤ k) (o__law_take : Own P w K mg base "_law_take" ["state", "limit"] j__law_take r__law_take) (h__law_take : j__law_take ≤ k) (o__law_dossier : Own P w K mg base "_law_dossier" ["state", "many", "things"] j__law_dossier r__law_dossier) (h__law_dossier : j__law_dossier ≤ k) (o__law_years : Own P w K mg base "_law_years" ["state", "hidden"] j__law_years r__law_years) (h__law_years : j__law_years ≤ k) (o__law_shuffled : Own P w K mg base "_law_shuffled" ["state", "some"] j__law_shuffled r__law_shuffled) (h__law_shuffled : j__law_shuffled ≤ k) (o__law_pick : Own P w K mg base "_law_pick" ["state", "some"] j__law_pick r__law_pick) (h__law_pick : j__law_pick ≤ k) (o__law_lot : Own P w K mg base "_law_lot" ["state", "finds"] j__law_lot r__law_lot) (h__law_lot : j__law_lot ≤ k) (o__law_free_series : Own P w K mg base "_law_free_series" ["state", "finds"] j__law_free_series r__law_free_series) (h__law_free_series : j__law_free_series ≤ k) (o__law_same : Own P w K mg base "_law_same" ["told", "due"] j__law_same r__law_same) (h__law_same : j__law_same ≤ k) (o__law_bands : Own P w K mg base "_law_bands" ["thing"] j__law_bands r__law_bands) (h__law_bands : j__law_bands ≤ k) (o_bands_of : Own P w K mg base "bands_of" ["thing"] j_bands_of r_bands_of) (h_bands_of : j_bands_of ≤ k) (o__law_low : Own P w K mg base "_law_low" ["dossier", "a"] j__law_low r__law_low) (h__law_low : j__law_low ≤ k) (o__law_told : Own P w K mg base "_law_told" ["way", "dossier", "a", "by_name"] j__law_told r__law_told) (h__law_told : j__law_told ≤ k) (o__law_high : Own P w K mg base "_law_high" ["dossier", "a"] j__law_high r__law_high) (h__law_high : j__law_high ≤ k) (o__law_basic : Own P w K mg base "_law_basic" ["dossier"] j__law_basic r__law_basic) (h__law_basic : j__law_basic ≤ k) (o_basic_pairs : Own P w K mg base "basic_pairs" ["dossier"] j_basic_pairs r_basic_pairs) (h_basic_pairs : j_basic_pairs ≤ k) (f : Addr) (cdv : Value) (A : Around) (outer : List Env) (s : Shared) (H : Hp) (E : XK) (B : Bs) (hr : Room k (A.deeper (envOfC "law" (defScope st_law) s.heap.objs.size f cdv))) :
    JSs (cxOf CX0 P w K mg base N_law "law" (defScope st_law) f cdv A outer s H E).nox B (defBody st_law) (t_law r__law_start r__law_take r__law_dossier r__law_years r__law_shuffled r__law_pick r__law_lot r__law_free_series r__law_same r__law_bands r_bands_of r__law_low r__law_told r__law_high r__law_basic r_basic_pairs) :=
  (jss_cons (js_set (i := 1) nd_law rfl (by first | exact Or.inl rfl | exact Or.inr rfl) (je_own o__law_start rfl h__law_start hr rfl (ja_cons (je_var 0) ja_nil)))
  (jss_cons (js_for (vs := [2]) PassesOwn.never rfl (ji_range1 rfl T.b_range (ja_cons je_int ja_nil)) (jg_name (i := 2) (by decide) nd_law rfl (by first | exact Or.inl rfl | exact Or.inr rfl)) (jss_cons (js_set (i := 3) nd_law rfl (by first | exact Or.inl rfl | exact Or.inr rfl) (je_cmp (oj_eq (hu64 hr)) (je_own o__law_take rfl h__law_take hr rfl (ja_cons (je_var 1) (ja_cons je_int ja_nil))) je_int))
  (jss_cons (js_set (i := 4) nd_law rfl (by first | exact Or.inl rfl | exact Or.inr rfl) (je_own o__law_dossier rfl h__law_dossier hr rfl (ja_cons (je_var 1) (ja_cons (je_if (jt_val (je_var 3)) je_int (je_own o__law_take rfl h__law_take hr rfl (ja_cons (je_var 1) (ja_cons je_int ja_nil)))) (ja_cons (je_if (jt_val (je_var 3)) je_int (je_own o__law_take rfl h__law_take hr rfl (ja_cons (je_var 1) (ja_cons je_int ja_nil)))) ja_nil)))))
  (jss_cons (js_for (vs := [5]) PassesOwn.never rfl (ji_range1 rfl T.b_range (ja_cons (je_if (jt_cmp (oj_ne (hu64 hr)) (je_ix (je_var 4) je_int) (je_tup ja_nil)) (je_own o__law_take rfl h__law_take hr rfl (ja_cons (je_var 1) (ja_cons je_int ja_nil))) je_int) ja_nil)) (jg_name (i := 5) (by decide) nd_law rfl (by first | exact Or.inl rfl | exact Or.inr rfl)) (jss_cons (js_set (i := 4) nd_law rfl (by first | exact Or.inl rfl | exact Or.inr rfl) (je_tup (ja_cons (je_ix (je_var 4) je_int) (ja_cons (je_op oj_add (je_ix (je_var 4) je_int) (je_tup (ja_cons (je_own o__law_years rfl h__law_years hr rfl (ja_cons (je_var 1) (ja_cons (je_own o__law_shuffled rfl h__law_shuffled hr rfl (ja_cons (je_var 1) (ja_cons (je_ix (je_var 4) je_int) ja_nil))) ja_nil))) ja_nil))) ja_nil))))
  (jss_cons (js_set (i := 6) nd_law rfl (by first | exact Or.inl rfl | exact Or.inr rfl) (je_tup (ja_cons je_str (ja_cons (je_own o__law_lot rfl h__law_lot hr rfl (ja_cons (je_var 1) (ja_cons (je_ix (je_var 4) je_int) ja_nil))) (ja_cons (je_own o__law_pick rfl h__law_pick hr rfl (ja_cons (je_var 1) (ja_cons (je_lst (ja_cons (je_un uj_neg je_int) (ja_cons je_int (ja_cons je_int ja_nil)))) ja_nil))) (ja_cons (je_own o__law_pick rfl h__law_pick hr rfl (ja_cons (je_var 1) (ja_cons (je_lst (ja_cons je_non (ja_cons je_int ja_nil))) ja_nil))) ja_nil))))))
  (jss_one (js_set (i := 4) nd_law rfl (by first | exact Or.inl rfl | exact Or.inr rfl) (je_tup (ja_cons (je_ix (je_var 4) je_int) (ja_cons (je_op oj_add (je_ix (je_var 4) je_int) (je_tup (ja_cons (je_ix (je_tup (ja_cons (je_var 6) (ja_cons (je_op oj_add (je_slice (je_var 6) jo_none (jo_some je_int)) (je_tup (ja_cons je_non (ja_cons (je_own o__law_pick rfl h__law_pick hr rfl (ja_cons (je_var 1) (ja_cons (je_lst (ja_cons (je_un uj_neg je_int) (ja_cons je_int (ja_cons je_int ja_nil)))) ja_nil))) ja_nil)))) ja_nil))) (je_own o__law_take rfl h__law_take hr rfl (ja_cons (je_var 1) (ja_cons je_int ja_nil)))) ja_nil))) ja_nil))))))))
  (jss_cons (js_if (jt_cmp oj_gt (je_cb cr_len rfl T.b_len boot_len (ja_cons (je_ix (je_var 4) je_int) ja_nil)) je_int) (jss_one (js_set (i := 4) nd_law rfl (by first | exact Or.inl rfl | exact Or.inr rfl) (je_tup (ja_cons (je_ix (je_var 4) je_int) (ja_cons (je_op oj_add (je_ix (je_var 4) je_int) (je_tup (ja_cons (je_own o__law_free_series rfl h__law_free_series hr rfl (ja_cons (je_var 1) (ja_cons (je_ix (je_var 4) je_int) ja_nil))) ja_nil))) ja_nil))))) jss_nil)
  (jss_cons (js_for (vs := [7]) PassesOwn.never rfl (ji_seq (je_ix (je_var 4) je_int)) (jg_name (i := 7) (by decide) nd_law rfl (by first | exact Or.inl rfl | exact Or.inr rfl)) (jss_one (js_if (jt_w (jw_or (jt_not (jt_val (je_own o__law_same rfl h__law_same hr rfl (ja_cons (je_own o_bands_of rfl h_bands_of hr rfl (ja_cons (je_var 7) ja_nil)) (ja_cons (je_own o__law_bands rfl h__law_bands hr rfl (ja_cons (je_var 7) ja_nil)) ja_nil))))) (jw_or1 (jt_not (jt_val (je_own o__law_same rfl h__law_same hr rfl (ja_cons (je_ownK o_bands_of rfl h_bands_of hr rfl (jk_cons (je_var 7) jk_nil)) (ja_cons (je_own o__law_bands rfl h__law_bands hr rfl (ja_cons (je_var 7) ja_nil)) ja_nil)))))))) (jss_one (js_ret je_bl)) jss_nil)))
  (jss_cons (js_for (vs := [8]) PassesOwn.never rfl (ji_seq (je_ix (je_var 4) je_int)) (jg_name (i := 8) (by decide) nd_law rfl (by first | exact Or.inl rfl | exact Or.inr rfl)) (jss_one (js_for (vs := [9]) PassesOwn.never rfl (ji_seq (je_tup (ja_cons je_bl (ja_cons je_bl ja_nil)))) (jg_name (i := 9) (by decide) nd_law rfl (by first | exact Or.inl rfl | exact Or.inr rfl)) (jss_cons (js_if (jt_not (jt_val (je_own o__law_same rfl h__law_same hr rfl (ja_cons (je_own o__law_told rfl h__law_told hr rfl (ja_cons je_str (ja_cons (je_var 4) (ja_cons (je_var 8) (ja_cons (je_var 9) ja_nil))))) (ja_cons (je_tup (ja_cons je_str (ja_cons (je_own o__law_low rfl h__law_low hr rfl (ja_cons (je_var 4) (ja_cons (je_var 8) ja_nil))) ja_nil))) ja_nil))))) (jss_one (js_ret je_bl)) jss_nil)
  (jss_one (js_if (jt_not (jt_val (je_own o__law_same rfl h__law_same hr rfl (ja_cons (je_own o__law_told rfl h__law_told hr rfl (ja_cons je_str (ja_cons (je_var 4) (ja_cons (je_var 8) (ja_cons (je_var 9) ja_nil))))) (ja_cons (je_tup (ja_cons je_str (ja_cons (je_own o__law_high rfl h__law_high hr rfl (ja_cons (je_var 4) (ja_cons (je_var 8) ja_nil))) ja_nil))) ja_nil))))) (jss_one (js_ret je_bl)) jss_nil))))))
  (jss_cons (js_set (i := 10) nd_law rfl (by first | exact Or.inl rfl | exact Or.inr rfl) (je_own o__law_basic rfl h__law_basic hr rfl (ja_cons (je_var 4) ja_nil)))
  (jss_cons (js_if (jt_w (jw_or (jt_not (jt_val (je_own o__law_same rfl h__law_same hr rfl (ja_cons (je_own o_basic_pairs rfl h_basic_pairs hr rfl (ja_cons (je_var 4) ja_nil)) (ja_cons (je_var 10) ja_nil))))) (jw_or1 (jt_not (jt_val (je_own o__law_same rfl h__law_same hr rfl (ja_cons (je_ownK o_basic_pairs rfl h_basic_pairs hr rfl (jk_cons (je_var 4) jk_nil)) (ja_cons (je_var 10) ja_nil)))))))) (jss_one (js_ret je_bl)) jss_nil)
  (jss_one (js_for (vs := [8]) PassesOwn.never rfl (ji_seq (je_tup (ja_cons je_str (ja_cons je_str (ja_cons (je_if (jt_cmp (oj_ne (hu64 hr)) (je_ix (je_var 4) je_int) (je_tup ja_nil)) (je_slice (je_op oj_add (je_ix (je_ix (je_var 4) je_int) je_int) je_str) jo_none (jo_some je_int)) je_str) ja_nil))))) (jg_name (i := 8) (by decide) nd_law rfl (by first | exact Or.inl rfl | exact Or.inr rfl)) (jss_one (js_if (jt_cmp oj_notin (je_var 8) (je_ix (je_var 4) je_int)) (jss_cons (js_if (jt_not (jt_val (je_own o__law_same rfl h__law_same hr rfl (ja_cons (je_own o__law_told rfl h__law_told hr rfl (ja_cons je_str (ja_cons (je_var 4) (ja_cons (je_var 8) (ja_cons je_bl ja_nil))))) (ja_cons (je_tup (ja_cons je_str (ja_cons (je_var 8) ja_nil))) ja_nil))))) (jss_one (js_ret je_bl)) jss_nil)
  (jss_one (js_if (jt_not (jt_val (je_own o__law_same rfl h__law_same hr rfl (ja_cons (je_own o__law_told rfl h__law_told hr rfl (ja_cons je_str (ja_cons (je_var 4) (ja_cons (je_var 8) (ja_cons je_bl ja_nil))))) (ja_cons (je_tup (ja_cons je_str (ja_cons (je_var 8) ja_nil))) ja_nil))))) (jss_one (js_ret je_bl)) jss_nil))) jss_nil)))))))))))))
  (jss_one (js_ret je_bl))))
end L2.DL

namespace L2.DL
open PySem PySem.Spec PyProof.Rows
local macro_rules | `(tactic| walk_at "g") => `(tactic| first | assumption | exact gup_same | exact gup_old (by assumption) (by assumption) | exact gup_old (by assumption) (gup_old (by assumption) (by assumption)) | exact gup_old (by assumption) gup_same | exact gup_old (by assumption) (gup_old (by assumption) gup_same) | ((repeat (rw [gup_ne (by first | assumption | (apply Ne.symm; assumption))])); first | exact gup_same | assumption) | rfl)
local macro_rules | `(tactic| walk_at "b") => `(tactic| simp only [Bool.false_xor, Bool.true_xor, decide_eq_true_eq, Bool.not_eq_true', decide_eq_false_iff_not, Bool.and_eq_true, Bool.or_eq_true])
local macro_rules | `(tactic| walk_at "d") => `(tactic| first
  | with_reducible refine' w_seq1 ?_ | with_reducible refine' w_seq2 ?_ | with_reducible refine' w_seq3 ?_ | with_reducible refine' w_seq4 ?_ | with_reducible refine' w_seq5 ?_ | with_reducible refine' w_op ?_ | ((with_reducible refine' w_var ?e ?_); case e => rfl) | with_reducible refine' w_c ?_ | with_reducible refine' w_cons ?_ | with_reducible refine' w_nil ?_
  | with_reducible refine' w_rfl ?_ | ((with_reducible refine' w_len ?e ?_); case e => rfl) | ((with_reducible refine' w_le ?e ?_); case e => (rw [sizeLine_eq]; simp only [List.length_cons, List.length_nil]; omega)) | with_reducible refine' w_set ?_ | with_reducible refine' w_ret ?_ | with_reducible refine' w_if ?_ | with_reducible refine' w_cb ?_ | with_reducible refine' w_call ?_ | with_reducible refine' w_B ?_ | with_reducible refine' w_bl ?_
  | with_reducible refine' w_and ?_ | with_reducible refine' w_or ?_ | with_reducible refine' w_not ?_ | with_reducible refine' w_ifE ?_ | with_reducible refine' w_yes ?_ | with_reducible refine' w_sl ?_ | with_reducible refine' w_nop ?_ | with_reducible refine' w_p ?_ | with_reducible refine' w_in ?_
  | with_reducible refine' w_store ?_ | with_reducible refine' w_augS ?_ | ((with_reducible refine' w_aug ?e ?_); case e => rfl) | with_reducible refine' w_m ?_ | with_reducible refine' w_andV ?_ | with_reducible refine' w_orV ?_ | with_reducible refine' w_notV ?_ | with_reducible refine' w_chain ?_
  | with_reducible refine' w_drop ?_ | with_reducible refine' w_retN ?_ | with_reducible refine' w_nx ?_ | with_reducible refine' w_un ?_ | with_reducible refine' w_tup ?_ | with_reducible refine' w_lst ?_ | with_reducible refine' w_callK ?_ | with_reducible refine' w_callX ?_ | with_reducible refine' w_isi ?_ | with_reducible refine' w_get1 ?_ | with_reducible refine' w_get2 ?_ | with_reducible refine' w_rng1 ?_
  | with_reducible refine' v_add ?_ | with_reducible refine' v_intB ?_ | with_reducible refine' v_neg ?_ | with_reducible refine' v_eqS ?_ | with_reducible refine' v_eqI ?_ | with_reducible refine' v_eqB ?_ | with_reducible refine' v_eqN ?_ | with_reducible refine' v_is ?_ | with_reducible refine' v_intI ?_ | with_reducible refine' v_intBl ?_ | with_reducible refine' v_abs ?_
  | with_reducible refine' v_max2 ?_ | with_reducible refine' v_min2 ?_ | with_reducible refine' v_lenT ?_ | with_reducible refine' v_lenF ?_ | with_reducible refine' v_lenC ?_ | with_reducible refine' v_slT ?_ | with_reducible refine' v_slC ?_ | with_reducible refine' v_ipA ?_ | with_reducible refine' v_ipS ?_ | with_reducible refine' v_mtS ?_
  | with_reducible refine' iteT ?_ | with_reducible refine' iteF ?_
  | ((with_reducible refine' v_mul ?c ?_); case c => (unfold CMul; first | (apply Or.inr; constructor <;> decide) | (apply Or.inl; constructor <;> decide) | (apply Or.inl; constructor <;> omega) | (apply Or.inr; constructor <;> omega)))
  | ((with_reducible refine' v_int ?c ?_); case c => first | exact trivial | (show CPos _ _; first | decide | (show (0:Int) < _; omega)) | (show CDiv _ _; constructor <;> omega) | (show CPow _ _; refine ⟨?_, ?_, ?_⟩ <;> decide))
  | ((with_reducible refine' v_ixT ?c ?_); case c => rfl)
  | ((with_reducible refine' v_ixL ?e ?c ?_); (case e => walk_at "g"); (case c => rfl))
  | ((with_reducible refine' v_lenL ?e ?_); (case e => walk_at "g")) | ((with_reducible refine' v_tupL ?e ?_); (case e => walk_at "g"))
  | ((with_reducible refine' v_gt ?e ?c ?_); (case e => walk_at "g"); (case c => rfl)) | ((with_reducible refine' v_st ?e ?c ?_); (case e => walk_at "g"); (case c => rfl))
  | with_reducible refine' w_for ?_ | with_reducible refine' w_seqI ?_ | with_reducible refine' w_gn ?_ | with_reducible refine' w_gt ?_ | with_reducible refine' w_gc ?_ | with_reducible refine' w_g0 ?_ | with_reducible refine' v_itT ?_ | with_reducible refine' v_itF ?_ | with_reducible refine' v_itC ?_
  | ((with_reducible refine' v_itL ?e ?_); (case e => walk_at "g")) | with_reducible refine' w_lc ?_
  | ((with_reducible refine' v_lstL ?e ?_); (case e => walk_at "g")) | ((with_reducible refine' v_addL ?e ?e2 ?l ?_); (case e => walk_at "g"); (case e2 => walk_at "g"); (case l => (rw [sizeLine_eq]; simp only [List.length_cons, List.length_nil]; omega))) | ((with_reducible refine' v_slL ?e ?_); (case e => walk_at "g")) | ((with_reducible refine' v_mtL ?e ?_); (case e => walk_at "g"))
  | dsimp only
  | with_reducible refine' w_par ?_ | ((with_reducible refine' v_addT ?l ?_); (case l => (rw [sizeLine_eq]; simp only [List.length_cons, List.length_nil]; omega))))
/-! ### the specs -/
def r_mixed : DN := fun ds g Q => ∃ n k, ds = [.int n, .int k] ∧ ∀ v, 0 ≤ v → v < 2147483587 → Q (.int v) g
theorem p_mixed (ds : List D) (g : G) (Q : D → G → Prop) (h : r_mixed ds g Q) : t__law_mixed { nx := fun _ g' => Q .non g', rt := Q } (dstart N__law_mixed.length ds) g := by
  obtain ⟨n, k, rfl, hQ⟩ := h
  show t__law_mixed { nx := fun _ g' => Q .non g', rt := Q } [some (.int n), some (.int k), none, none] g
  unfold t__law_mixed
  repeat walk_at "d"
  exact hQ _ (by omega) (by omega)
theorem w_mixed {n k : Int} {g : G} {Q : D → G → Prop} (h : ∀ v, 0 ≤ v → v < 2147483587 → Q (.int v) g) : r_mixed [.int n, .int k] g Q := ⟨n, k, rfl, h⟩
/-- told objects but st stay -/
def Fr (st : Addr) (g g' : G) : Prop := ∀ p o, p ≠ st → g p = some o → g' p = some o
theorem Fr.refl {st : Addr} {g : G} : Fr st g g := fun _ _ _ h => h
theorem Fr.trans {st : Addr} {g g1 g2 : G} (a : Fr st g g1) (b : Fr st g1 g2) : Fr st g g2 := fun p o n h => b p o n (a p o n h)
theorem Fr.wrote {st : Addr} {g : G} {o : GO} : Fr st g (gup g st o) := fun p o n h => by rw [gup_ne n]; exact h
theorem Fr.new {st p : Addr} {g : G} {o : GO} (h : g p = none) : Fr st g (gup g p o) := fun q u n e => by rw [gup_ne (fun z => by subst z; rw [h] at e; cases e)]; exact e
/-- the state of the draws -/
structure St (g : G) (st cl : Addr) : Prop where
  ex : ∃ (a b c sd f : Int) (ns : List Int), g st = some (.lst [.int a, .int b, .int c, .int sd, .obj cl, .int f]) ∧ g cl = some (.lst (ns.map D.int)) ∧ cl ≠ st ∧ 0 ≤ b
theorem St.kp {st cl : Addr} {g g' : G} (s : St g st cl) (k : Kp g g') : St g' st cl := by
  obtain ⟨a, b, c, sd, f, ns, h1, h2, h3, h4⟩ := s.ex
  exact ⟨a, b, c, sd, f, ns, k _ _ h1, k _ _ h2, h3, h4⟩
theorem St.ne {st cl p : Addr} {g : G} (s : St g st cl) (h : g p = none) : p ≠ st := fun z => by
  obtain ⟨a, b, c, sd, f, ns, h1, h2, h3, h4⟩ := s.ex
  subst z; rw [h] at h1; cases h1
theorem St.nc {st cl p : Addr} {g : G} (s : St g st cl) (h : g p = none) : p ≠ cl := fun z => by
  obtain ⟨a, b, c, sd, f, ns, h1, h2, h3, h4⟩ := s.ex
  subst z; rw [h] at h2; cases h2
theorem St.put {st cl p : Addr} {g : G} {o : GO} (s : St g st cl) (n1 : p ≠ st) (n2 : p ≠ cl) : St (gup g p o) st cl := by
  obtain ⟨a, b, c, sd, f, ns, h1, h2, h3, h4⟩ := s.ex
  exact ⟨a, b, c, sd, f, ns, by rw [gup_ne (Ne.symm n1)]; exact h1, by rw [gup_ne (Ne.symm n2)]; exact h2, h3, h4⟩
theorem Fr.kp {st : Addr} {g g' : G} (k : Kp g g') : Fr st g g' := fun p o _ h => k p o h
theorem Fr.put {st p : Addr} {g g' : G} {o : GO} (f : Fr st g g') (h : g p = none) : Fr st g (gup g' p o) := fun q u n e => by
  rw [gup_ne (fun z => by subst z; rw [h] at e; cases e)]
  exact f q u n e
/-- _law_start -/
def r_start : DN := fun ds g Q => ∃ ns : List Int, ds = [.scr ns] ∧ ∀ st cl g', g st = none → St g' st cl → Fr st g g' → Q (.obj st) g'
theorem w_start {ns : List Int} {g : G} {Q : D → G → Prop} (h : ∀ st cl g', g st = none → St g' st cl → Fr st g g' → Q (.obj st) g') : r_start [.scr ns] g Q := ⟨ns, rfl, h⟩
theorem p_start (ds : List D) (g : G) (Q : D → G → Prop) (h : r_start ds g Q) : t__law_start r_mixed { nx := fun _ g' => Q .non g', rt := Q } (dstart N__law_start.length ds) g := by
  obtain ⟨ns, rfl, hQ⟩ := h
  show t__law_start r_mixed { nx := fun _ g' => Q .non g', rt := Q } [some (.scr ns), none, none] g
  unfold t__law_start
  repeat walk_at "d"
  refine w_seq ?_
  repeat walk_at "d"
  intro p hp
  repeat walk_at "d"
  refine ⟨fun i ρ' g' => g' = gup g p (.lst (cutD (ns.map D.int) none (some 63))) ∧ ∃ (s : Int) (x : Option D), ρ' = [some (.scr ns), some (.int s), x], ⟨rfl, _, _, rfl⟩, fun i ρ' g' h => by rw [h.1]; exact gup_same, fun i x ρ' g' hx h => ?_, fun ρ' g' h => ?_⟩
  · obtain ⟨rfl, s, x0, rfl⟩ := h
    have hm : x ∈ ns.map D.int := by
      have := List.mem_of_getElem? hx
      unfold cutD at this
      exact List.mem_of_mem_drop (List.mem_of_mem_take this)
    obtain ⟨c, _, rfl⟩ := List.mem_map.mp hm
    repeat walk_at "d"
    refine w_mixed fun v _ _ => ?_
    exact ⟨rfl, v, _, rfl⟩
  · obtain ⟨rfl, s, x0, rfl⟩ := h
    repeat walk_at "d"
    intro q hq
    repeat walk_at "d"
    intro r hr
    repeat walk_at "d"
    intro st hst
    have e1 : st ≠ r := fun z => by subst z; rw [gup_same] at hst; cases hst
    rw [gup_ne e1] at hst
    have e2 : st ≠ q := fun z => by subst z; rw [gup_same] at hst; cases hst
    rw [gup_ne e2] at hst
    have e3 : st ≠ p := fun z => by subst z; rw [gup_same] at hst; cases hst
    rw [gup_ne e3] at hst
    have cm : ∃ ms : List Int, cutD (ns.map D.int) none (some 63) = ms.map D.int := by
      unfold cutD
      rw [← List.map_drop, ← List.map_take]
      exact ⟨_, rfl⟩
    obtain ⟨ms, hms⟩ := cm
    refine hQ st r _ hst ⟨0, 0, 0, s, 0, ms, gup_same, ?_, Ne.symm e1, Int.le_refl _⟩ fun p' o n e => ?_
    · rw [gup_ne (Ne.symm e1), gup_same, hms]
    · rw [gup_ne n]
      have f1 : p' ≠ p := fun z => by subst z; rw [hp] at e; cases e
      have f2 : p' ≠ q := fun z => by subst z; rw [gup_ne f1, e] at hq; cases hq
      have f3 : p' ≠ r := fun z => by subst z; rw [gup_ne f2, gup_ne f1, e] at hr; cases hr
      rw [gup_ne f3, gup_ne f2, gup_ne f1]
      exact e
/-- _law_take -/
def r_take : DN := fun ds g Q => ∃ st cl n, ds = [.obj st, .int n] ∧ 0 < n ∧ n < 1073741824 ∧ St g st cl ∧ ∀ v g', 0 ≤ v → v < n → St g' st cl → Fr st g g' → Q (.int v) g'
theorem w_take {st cl : Addr} {n : Int} {g : G} {Q : D → G → Prop} (s : St g st cl) (h0 : 0 < n) (h1 : n < 1073741824) (h : ∀ v g', 0 ≤ v → v < n → St g' st cl → Fr st g g' → Q (.int v) g') : r_take [.obj st, .int n] g Q := ⟨st, cl, n, rfl, h0, h1, s, h⟩
theorem p_take (ds : List D) (g : G) (Q : D → G → Prop) (h : r_take ds g Q) : t__law_take r_mixed { nx := fun _ g' => Q .non g', rt := Q } (dstart N__law_take.length ds) g := by
  obtain ⟨st, cl, n, rfl, h0, h1, ⟨a, b, c, sd, f, ns, e1, e2, e3, e4⟩, hQ⟩ := h
  show t__law_take r_mixed { nx := fun _ g' => Q .non g', rt := Q } [some (.obj st), some (.int n), none, none, none] g
  unfold t__law_take
  repeat walk_at "d"
  refine w_seqK (fun ρ' g' => ∃ (a b c f : Int) (x y : Option D), ρ' = [some (.obj st), some (.int n), some (.obj cl), x, y] ∧ 0 ≤ b ∧ g' st = some (.lst [.int a, .int b, .int c, .int sd, .obj cl, .int f]) ∧ g' cl = some (.lst (ns.map D.int)) ∧ Fr st g g') (fun ρ' g' h => ?_) (fun K hK => ?_)
  · obtain ⟨a, b, c, f, x, y, rfl, e4, e1, e2, hF⟩ := h
    refine w_seq ?_
    repeat walk_at "d"
    refine w_ite (fun ha => ?_) (fun ha => ?_)
    · repeat walk_at "d"
      refine w_mixed fun v _ _ => ?_
      repeat walk_at "d"
      exact hQ _ _ (Int.emod_nonneg _ (by omega)) (Int.emod_lt_of_pos _ h0) ⟨a, b, c, sd, f, ns, e1, e2, e3, e4⟩ hF
    · repeat walk_at "d"
      refine hQ _ _ (Int.emod_nonneg _ (by omega)) (Int.emod_lt_of_pos _ h0) ⟨_, b, c, sd, f - 1, ns, gup_same, ?_, e3, e4⟩ ?_
      · rw [gup_ne e3, gup_ne e3]; exact e2
      · exact hF.trans (Fr.wrote.trans Fr.wrote)
  · repeat walk_at "d"
    have F1 := @Fr.wrote st g (.lst [.int a, .int b, .int (c + 1), .int sd, .obj cl, .int f])
    have c1 : (gup g st (.lst [.int a, .int b, .int (c + 1), .int sd, .obj cl, .int f])) cl = some (.lst (ns.map D.int)) := by rw [gup_ne e3]; exact e2
    refine w_ite (fun ha => ?_) (fun ha => ?_)
    · repeat walk_at "d"
      refine w_ite (fun hb => ?_) (fun hb => ?_)
      · repeat walk_at "d"
        obtain ⟨xc, hx1, hx2, _⟩ := atI_get (xs := ns.map D.int) e4 (by simpa using hb)
        obtain ⟨cc, _, rfl⟩ := List.mem_map.mp hx2
        refine v_ixL c1 hx1 ?_
        repeat walk_at "d"
        refine w_seq ?_
        repeat walk_at "d"
        refine w_ite (fun hc => ?_) (fun hc => ?_)
        · repeat walk_at "d"
          refine w_mixed fun v _ _ => ?_
          repeat walk_at "d"
          refine hQ _ _ (Int.emod_nonneg _ (by omega)) (Int.emod_lt_of_pos _ h0) ⟨a, b + 1, c + 1, sd, f, ns, gup_same, ?_, e3, by omega⟩ (Fr.wrote.trans Fr.wrote)
          rw [gup_ne e3]; exact c1
        · repeat walk_at "d"
          refine hK _ _ ⟨_, b + 1, c + 1, 60, _, _, rfl, by omega, gup_same, ?_, ?_⟩
          · rw [gup_ne e3, gup_ne e3, gup_ne e3]; exact c1
          · exact Fr.wrote.trans (Fr.wrote.trans (Fr.wrote.trans Fr.wrote))
      · repeat walk_at "d"
        exact hK _ _ ⟨a, b, c + 1, f, _, _, rfl, e4, gup_same, c1, F1⟩
    · repeat walk_at "d"
      exact hK _ _ ⟨a, b, c + 1, f, _, _, rfl, e4, gup_same, c1, F1⟩
end L2.DL

/-! P2: sorted lists of ints, texts, pairs of texts. -/
namespace L2.DL
open PySem PySem.Spec PyProof.Rows
theorem sortOk_of {ds : List D} (py : ∀ d ∈ ds, (pyD d).isSome = true) (al : ∀ d ∈ ds, ∀ d' ∈ ds, PySem.W.alike (encD d) (encD d') = true) (so : PySem.W.Sortable (ds.map encD)) (dp : ∀ d ∈ ds, (encD d).depth ≤ 8) : SortOk ds :=
  ⟨py, fun a ha b hb => by
    obtain ⟨x, hx, rfl⟩ := List.mem_map.mp ha
    obtain ⟨y, hy, rfl⟩ := List.mem_map.mp hb
    exact al x hx y hy, so, dp⟩
theorem sortOk_ints (ns : List Int) : SortOk (ns.map D.int) := by
  refine sortOk_of (fun d hd => ?_) (fun d hd d' hd' => ?_) (.inr fun d hd => ?_) (fun d hd => ?_)
  · obtain ⟨x, _, rfl⟩ := List.mem_map.mp hd; rfl
  · obtain ⟨x, _, rfl⟩ := List.mem_map.mp hd
    obtain ⟨y, _, rfl⟩ := List.mem_map.mp hd'
    simp [encD, pyD, PySem.W.alike]
  · rw [List.map_map] at hd
    obtain ⟨x, _, rfl⟩ := List.mem_map.mp hd
    constructor
    · intro h; cases h
    · intro xs h; cases h
  · obtain ⟨x, _, rfl⟩ := List.mem_map.mp hd
    simp [encD, pyD, PyData.depth]
theorem sortOk_strs (ns : List Str) : SortOk (ns.map D.str) := by
  refine sortOk_of (fun d hd => ?_) (fun d hd d' hd' => ?_) (.inr fun d hd => ?_) (fun d hd => ?_)
  · obtain ⟨x, _, rfl⟩ := List.mem_map.mp hd; rfl
  · obtain ⟨x, _, rfl⟩ := List.mem_map.mp hd
    obtain ⟨y, _, rfl⟩ := List.mem_map.mp hd'
    simp [encD, pyD, PySem.W.alike]
  · rw [List.map_map] at hd
    obtain ⟨x, _, rfl⟩ := List.mem_map.mp hd
    constructor
    · intro h; cases h
    · intro xs h; cases h
  · obtain ⟨x, _, rfl⟩ := List.mem_map.mp hd
    simp [encD, pyD, PyData.depth]
def pairD (p : Str × Str) : D := .tup [.str p.1, .str p.2]
theorem enc_pair (p : Str × Str) : encD (pairD p) = .tuple [.str p.1, .str p.2] := by simp [encD, pairD, pyD, pyDs]
theorem sortOk_pairs (ns : List (Str × Str)) : SortOk (ns.map pairD) := by
  refine sortOk_of (fun d hd => ?_) (fun d hd d' hd' => ?_) (.inl fun d hd => ?_) (fun d hd => ?_)
  · obtain ⟨x, _, rfl⟩ := List.mem_map.mp hd; simp [pairD, pyD, pyDs]
  · obtain ⟨x, _, rfl⟩ := List.mem_map.mp hd
    obtain ⟨y, _, rfl⟩ := List.mem_map.mp hd'
    rw [enc_pair, enc_pair]
    simp [PySem.W.alike, PySem.W.alikeAll]
  · rw [List.map_map] at hd
    obtain ⟨x, _, rfl⟩ := List.mem_map.mp hd
    exact ⟨_, _, enc_pair x⟩
  · obtain ⟨x, _, rfl⟩ := List.mem_map.mp hd
    rw [enc_pair]
    simp [PyData.depth, PyData.depthAll]
/-- what is sorted comes out of the same kind -/
theorem sortD_map {α : Type} (f : α → D) (inv : D → Option α) (hi : ∀ a, inv (f a) = some a) (xs : List α) : ∃ ys : List α, sortD (xs.map f) = ys.map f ∧ ys.Perm xs := by
  have hp := sortD_perm (xs.map f)
  refine ⟨(sortD (xs.map f)).filterMap inv, ?_, ?_⟩
  · have : ∀ l : List D, (∀ d ∈ l, ∃ a, d = f a) → l = (l.filterMap inv).map f := by
      intro l
      induction l with
      | nil => intro _; rfl
      | cons d l ih =>
        intro h
        obtain ⟨a, rfl⟩ := h d (List.mem_cons_self ..)
        rw [List.filterMap_cons_some (hi a), List.map_cons, ← ih fun d hd => h d (List.mem_cons_of_mem _ hd)]
    refine this _ fun d hd => ?_
    obtain ⟨a, _, rfl⟩ := List.mem_map.mp (hp.mem_iff.mp hd)
    exact ⟨a, rfl⟩
  · have h2 := hp.filterMap inv
    have : (xs.map f).filterMap inv = xs := by
      rw [List.filterMap_map]
      have e : (inv ∘ f) = some := by funext a; exact hi a
      rw [e, List.filterMap_some]
    rw [this] at h2
    exact h2
def strOf : D → Option Str
  | .str s => some s
  | _ => none
def intOf : D → Option Int
  | .int s => some s
  | _ => none
def pairOf : D → Option (Str × Str)
  | .tup [.str a, .str b] => some (a, b)
  | _ => none
theorem sort_strs (xs : List Str) : ∃ ys : List Str, sortD (xs.map D.str) = ys.map D.str ∧ ys.Perm xs := sortD_map D.str strOf (fun _ => rfl) xs
theorem sort_ints (xs : List Int) : ∃ ys : List Int, sortD (xs.map D.int) = ys.map D.int ∧ ys.Perm xs := sortD_map D.int intOf (fun _ => rfl) xs
theorem sort_pairs (xs : List (Str × Str)) : ∃ ys : List (Str × Str), sortD (xs.map pairD) = ys.map pairD ∧ ys.Perm xs := sortD_map pairD pairOf (fun _ => rfl) xs
/-! the order of pairs -/
abbrev ks (s : Str) : List Nat := s.cps.toList
theorem ks_inj {a b : Str} (h : ks a = ks b) : a = b := by
  cases a with | mk a => cases b with | mk b =>
  congr 1
  exact Array.ext' h
theorem le_cases {a b : List Nat} (h : a ≤ b) : a < b ∨ a = b := by
  by_cases h1 : a < b
  · exact .inl h1
  · exact .inr (List.le_antisymm h (List.not_lt.mp h1))
def leP (p q : Str × Str) : Prop := ks p.1 < ks q.1 ∨ (p.1 = q.1 ∧ ks p.2 ≤ ks q.2)
theorem leD_pair (p q : Str × Str) : leD (pairD p) (pairD q) = true ↔ leP p q := by
  unfold leD
  rw [PySem.W.dataLe_eq]
  show (!PySem.W.dataLt (encD (pairD q)) (encD (pairD p))) = true ↔ _
  rw [enc_pair, enc_pair, PySem.W.dataLt_pair (by simp [PySem.W.alike]) (by simp [PySem.W.alike]), PySem.W.dataLt_str, PySem.W.dataLt_str]
  simp only [PyData.eqv, beq_iff_eq]
  unfold leP
  by_cases h1 : q.1 = p.1
  · rw [if_pos h1]
    by_cases h2 : q.2 = p.2
    · rw [if_pos h2, h1, h2]
      simp [List.lt_irrefl]
    · rw [if_neg h2, h1]
      simp only [Bool.not_eq_true', decide_eq_false_iff_not, List.lt_irrefl, true_and, false_or, List.not_lt]
  · rw [if_neg h1]
    have h1' : ¬ p.1 = q.1 := fun z => h1 z.symm
    simp only [Bool.not_eq_true', decide_eq_false_iff_not, h1', false_and, or_false, List.not_lt]
    constructor
    · intro h
      rcases le_cases h with h | h
      · exact h
      · exact absurd (ks_inj h) h1'
    · exact List.le_of_lt
theorem leP_trans {p q r : Str × Str} (h1 : leP p q) (h2 : leP q r) : leP p r := by
  unfold leP at *
  rcases h1 with h1 | ⟨h1, h1'⟩
  · rcases h2 with h2 | ⟨h2, h2'⟩
    · exact .inl (List.lt_trans h1 h2)
    · rw [← h2]; exact .inl h1
  · rcases h2 with h2 | ⟨h2, h2'⟩
    · rw [h1]; exact .inl h2
    · exact .inr ⟨h1.trans h2, List.le_trans h1' h2'⟩
theorem leP_total (p q : Str × Str) : leP p q ∨ leP q p := by
  unfold leP
  by_cases h1 : ks p.1 < ks q.1
  · exact .inl (.inl h1)
  · by_cases h2 : ks q.1 < ks p.1
    · exact .inr (.inl h2)
    · have e : p.1 = q.1 := ks_inj (List.le_antisymm (List.not_lt.mp h2) (List.not_lt.mp h1))
      rcases List.le_total (ks p.2) (ks q.2) with h | h
      · exact .inl (.inr ⟨e, h⟩)
      · exact .inr (.inr ⟨e.symm, h⟩)
theorem leP_anti {p q : Str × Str} (h1 : leP p q) (h2 : leP q p) : p = q := by
  unfold leP at *
  rcases h1 with h1 | ⟨h1, h1'⟩
  · rcases h2 with h2 | ⟨h2, h2'⟩
    · exact absurd (List.lt_trans h1 h2) (List.lt_irrefl _)
    · rw [h2] at h1; exact absurd h1 (List.lt_irrefl _)
  · rcases h2 with h2 | ⟨h2, h2'⟩
    · rw [h1] at h2; exact absurd h2 (List.lt_irrefl _)
    · exact Prod.ext h1 (ks_inj (List.le_antisymm h1' h2'))
theorem sortD_pairs (xs : List (Str × Str)) : sortD (xs.map pairD) = (xs.mergeSort fun p q => leD (pairD p) (pairD q)).map pairD := (List.map_mergeSort (r := fun p q => leD (pairD p) (pairD q)) (s := leD) (f := pairD) (l := xs) fun _ _ _ _ => rfl).symm
theorem sort_pairs_eq {xs ys : List (Str × Str)} (h : xs.Perm ys) : sortD (xs.map pairD) = sortD (ys.map pairD) := by
  rw [sortD_pairs, sortD_pairs]
  have tr : ∀ a b c : Str × Str, leD (pairD a) (pairD b) = true → leD (pairD b) (pairD c) = true → leD (pairD a) (pairD c) = true := fun a b c h1 h2 => (leD_pair a c).mpr (leP_trans ((leD_pair a b).mp h1) ((leD_pair b c).mp h2))
  have to : ∀ a b : Str × Str, (leD (pairD a) (pairD b) || leD (pairD b) (pairD a)) = true := fun a b => by
    rcases leP_total a b with h | h
    · rw [(leD_pair a b).mpr h]; rfl
    · rw [(leD_pair b a).mpr h, Bool.or_true]
  congr 1
  refine List.Perm.eq_of_pairwise (le := fun p q => leD (pairD p) (pairD q) = true) (fun a b _ _ h1 h2 => leP_anti ((leD_pair a b).mp h1) ((leD_pair b a).mp h2)) (List.pairwise_mergeSort tr to xs) (List.pairwise_mergeSort tr to ys) ?_
  exact (List.mergeSort_perm xs _).trans (h.trans (List.mergeSort_perm ys _).symm)
end L2.DL

namespace L2.DL
open PySem PySem.Spec PyProof.Rows
local macro_rules | `(tactic| walk_at "g") => `(tactic| first | assumption | exact gup_same | exact gup_old (by assumption) (by assumption) | exact gup_old (by assumption) (gup_old (by assumption) (by assumption)) | exact gup_old (by assumption) gup_same | exact gup_old (by assumption) (gup_old (by assumption) gup_same) | ((repeat (rw [gup_ne (by first | assumption | (apply Ne.symm; assumption))])); first | exact gup_same | assumption) | rfl)
local macro_rules | `(tactic| walk_at "b") => `(tactic| simp only [Bool.false_xor, Bool.true_xor, decide_eq_true_eq, Bool.not_eq_true', decide_eq_false_iff_not, Bool.and_eq_true, Bool.or_eq_true])
local macro_rules | `(tactic| walk_at "d") => `(tactic| first
  | with_reducible refine' w_seq1 ?_ | with_reducible refine' w_seq2 ?_ | with_reducible refine' w_seq3 ?_ | with_reducible refine' w_seq4 ?_ | with_reducible refine' w_seq5 ?_ | with_reducible refine' w_op ?_ | ((with_reducible refine' w_var ?e ?_); case e => rfl) | with_reducible refine' w_c ?_ | with_reducible refine' w_cons ?_ | with_reducible refine' w_nil ?_
  | with_reducible refine' w_rfl ?_ | ((with_reducible refine' w_len ?e ?_); case e => rfl) | ((with_reducible refine' w_le ?e ?_); case e => (rw [sizeLine_eq]; simp only [List.length_cons, List.length_nil]; omega)) | with_reducible refine' w_set ?_ | with_reducible refine' w_ret ?_ | with_reducible refine' w_if ?_ | with_reducible refine' w_cb ?_ | with_reducible refine' w_call ?_ | with_reducible refine' w_B ?_ | with_reducible refine' w_bl ?_
  | with_reducible refine' w_and ?_ | with_reducible refine' w_or ?_ | with_reducible refine' w_not ?_ | with_reducible refine' w_ifE ?_ | with_reducible refine' w_yes ?_ | with_reducible refine' w_sl ?_ | with_reducible refine' w_nop ?_ | with_reducible refine' w_p ?_ | with_reducible refine' w_in ?_
  | with_reducible refine' w_store ?_ | with_reducible refine' w_augS ?_ | ((with_reducible refine' w_aug ?e ?_); case e => rfl) | with_reducible refine' w_m ?_ | with_reducible refine' w_andV ?_ | with_reducible refine' w_orV ?_ | with_reducible refine' w_notV ?_ | with_reducible refine' w_chain ?_
  | with_reducible refine' w_drop ?_ | with_reducible refine' w_retN ?_ | with_reducible refine' w_nx ?_ | with_reducible refine' w_un ?_ | with_reducible refine' w_tup ?_ | with_reducible refine' w_lst ?_ | with_reducible refine' w_callK ?_ | with_reducible refine' w_callX ?_ | with_reducible refine' w_isi ?_ | with_reducible refine' w_get1 ?_ | with_reducible refine' w_get2 ?_ | with_reducible refine' w_rng1 ?_
  | with_reducible refine' v_add ?_ | with_reducible refine' v_intB ?_ | with_reducible refine' v_neg ?_ | with_reducible refine' v_eqS ?_ | with_reducible refine' v_eqI ?_ | with_reducible refine' v_eqB ?_ | with_reducible refine' v_eqN ?_ | with_reducible refine' v_is ?_ | with_reducible refine' v_intI ?_ | with_reducible refine' v_intBl ?_ | with_reducible refine' v_abs ?_
  | with_reducible refine' v_max2 ?_ | with_reducible refine' v_min2 ?_ | with_reducible refine' v_lenT ?_ | with_reducible refine' v_lenF ?_ | with_reducible refine' v_lenC ?_ | with_reducible refine' v_slT ?_ | with_reducible refine' v_slC ?_ | with_reducible refine' v_ipA ?_ | with_reducible refine' v_ipS ?_ | with_reducible refine' v_mtS ?_
  | with_reducible refine' iteT ?_ | with_reducible refine' iteF ?_
  | ((with_reducible refine' v_mul ?c ?_); case c => (unfold CMul; first | (apply Or.inr; constructor <;> decide) | (apply Or.inl; constructor <;> decide) | (apply Or.inl; constructor <;> omega) | (apply Or.inr; constructor <;> omega)))
  | ((with_reducible refine' v_int ?c ?_); case c => first | exact trivial | (show CPos _ _; first | decide | (show (0:Int) < _; omega)) | (show CDiv _ _; constructor <;> omega) | (show CPow _ _; refine ⟨?_, ?_, ?_⟩ <;> decide))
  | ((with_reducible refine' v_ixT ?c ?_); case c => rfl)
  | ((with_reducible refine' v_ixL ?e ?c ?_); (case e => walk_at "g"); (case c => rfl))
  | ((with_reducible refine' v_lenL ?e ?_); (case e => walk_at "g")) | ((with_reducible refine' v_tupL ?e ?_); (case e => walk_at "g"))
  | ((with_reducible refine' v_gt ?e ?c ?_); (case e => walk_at "g"); (case c => rfl)) | ((with_reducible refine' v_st ?e ?c ?_); (case e => walk_at "g"); (case c => rfl))
  | with_reducible refine' w_for ?_ | with_reducible refine' w_seqI ?_ | with_reducible refine' w_gn ?_ | with_reducible refine' w_gt ?_ | with_reducible refine' w_gc ?_ | with_reducible refine' w_g0 ?_ | with_reducible refine' v_itT ?_ | with_reducible refine' v_itF ?_ | with_reducible refine' v_itC ?_
  | ((with_reducible refine' v_itL ?e ?_); (case e => walk_at "g")) | with_reducible refine' w_lc ?_
  | ((with_reducible refine' v_lstL ?e ?_); (case e => walk_at "g")) | ((with_reducible refine' v_addL ?e ?e2 ?l ?_); (case e => walk_at "g"); (case e2 => walk_at "g"); (case l => (rw [sizeLine_eq]; simp only [List.length_cons, List.length_nil]; omega))) | ((with_reducible refine' v_slL ?e ?_); (case e => walk_at "g")) | ((with_reducible refine' v_mtL ?e ?_); (case e => walk_at "g"))
  | dsimp only
  | with_reducible refine' w_par ?_ | ((with_reducible refine' v_addT ?l ?_); (case l => (rw [sizeLine_eq]; simp only [List.length_cons, List.length_nil]; omega))))
/-- _law_pick -/
def r_pick : DN := fun ds g Q => ∃ st cl y xs, ds = [.obj st, y] ∧ seqOf g y = some xs ∧ (∀ s, y ≠ .str s) ∧ xs ≠ [] ∧ xs.length ≤ 1000 ∧ St g st cl ∧ (∀ g', Fr st g g' → seqOf g' y = some xs) ∧ ∀ x g', x ∈ xs → St g' st cl → Fr st g g' → Q x g'
theorem w_pick {st cl : Addr} {y : D} {xs : List D} {g : G} {Q : D → G → Prop} (e : seqOf g y = some xs) (n : ∀ s, y ≠ .str s) (h0 : xs ≠ []) (h1 : xs.length ≤ 1000) (s : St g st cl) (k : ∀ g', Fr st g g' → seqOf g' y = some xs) (h : ∀ x g', x ∈ xs → St g' st cl → Fr st g g' → Q x g') : r_pick [.obj st, y] g Q :=
  ⟨st, cl, y, xs, rfl, e, n, h0, h1, s, k, h⟩
theorem p_pick (ds : List D) (g : G) (Q : D → G → Prop) (h : r_pick ds g Q) : t__law_pick r_take { nx := fun _ g' => Q .non g', rt := Q } (dstart N__law_pick.length ds) g := by
  obtain ⟨st, cl, y, xs, rfl, e, n, h0, h1, s, k, hQ⟩ := h
  show t__law_pick r_take { nx := fun _ g' => Q .non g', rt := Q } [some (.obj st), some y] g
  unfold t__law_pick
  repeat walk_at "d"
  refine v_lenO e n ?_
  repeat walk_at "d"
  have hl : 0 < xs.length := List.length_pos_iff.mpr h0
  refine w_take s (by omega) (by omega) fun v g' v0 v1 s' f' => ?_
  obtain ⟨x, e1, e2, _⟩ := atI_get (xs := xs) v0 v1
  exact v_ixO (k g' f') n e1 (hQ x g' e2 s' f')
/-- _law_shuffled -/
def r_shuf : DN := fun ds g Q => ∃ st cl y xs, ds = [.obj st, y] ∧ seqOf g y = some xs ∧ (∀ s, y ≠ .str s) ∧ xs.length ≤ 1000 ∧ St g st cl ∧ ∀ p ys g', g p = none → g' p = some (.lst ys) → ys.length = xs.length → (∀ z ∈ ys, z ∈ xs) → St g' st cl → Fr st g g' → Q (.obj p) g'
theorem w_shuf {st cl : Addr} {y : D} {xs : List D} {g : G} {Q : D → G → Prop} (e : seqOf g y = some xs) (n : ∀ s, y ≠ .str s) (h1 : xs.length ≤ 1000) (s : St g st cl) (h : ∀ p ys g', g p = none → g' p = some (.lst ys) → ys.length = xs.length → (∀ z ∈ ys, z ∈ xs) → St g' st cl → Fr st g g' → Q (.obj p) g') : r_shuf [.obj st, y] g Q :=
  ⟨st, cl, y, xs, rfl, e, n, h1, s, h⟩
theorem p_shuf (ds : List D) (g : G) (Q : D → G → Prop) (h : r_shuf ds g Q) : t__law_shuffled r_take { nx := fun _ g' => Q .non g', rt := Q } (dstart N__law_shuffled.length ds) g := by
  obtain ⟨st, cl, y, xs, rfl, e, n, h1, s, hQ⟩ := h
  show t__law_shuffled r_take { nx := fun _ g' => Q .non g', rt := Q } [some (.obj st), some y, none, none, none, none] g
  unfold t__law_shuffled
  repeat walk_at "d"
  refine v_lst e fun p1 hp1 => ?_
  repeat walk_at "d"
  intro p2 hp2
  repeat walk_at "d"
  have k2 : Kp g (gup (gup g p1 (.lst xs)) p2 (.lst [])) := (Kp.new hp1).trans (Kp.new hp2)
  have np2 : g p2 = none := by
    cases e1 : g p2 with
    | none => rfl
    | some o => rw [gup_old hp1 e1] at hp2; cases hp2
  have n12 : p1 ≠ p2 := fun z => by subst z; rw [gup_same] at hp2; cases hp2
  refine w_seq ?_
  repeat walk_at "d"
  refine v_lenO (seqOf_kp k2 e) n ?_
  repeat walk_at "d"
  refine ⟨_, rfl, by constructor <;> omega, ?_⟩
  refine ⟨fun i ρ' g' => ∃ (pl : Addr) (ls fs : List D) (x4 x5 : Option D), ρ' = [some (.obj st), some y, some (.obj pl), some (.obj p2), x4, x5] ∧ g' pl = some (.lst ls) ∧ g' p2 = some (.lst fs) ∧ pl ≠ p2 ∧ pl ≠ st ∧ ls.length + i = xs.length ∧ fs.length = i ∧ (∀ z ∈ ls, z ∈ xs) ∧ (∀ z ∈ fs, z ∈ xs) ∧ St g' st cl ∧ Fr st g g', ?_, fun _ _ _ _ => trivial, fun i x ρ' g' hx hP => ?_, fun ρ' g' hP => ?_⟩
  · exact ⟨p1, xs, [], _, _, rfl, gup_old hp2 gup_same, gup_same, n12, s.ne hp1, rfl, rfl, (fun _ h => h), (fun _ h => by cases h), s.kp k2, Fr.kp k2⟩
  · obtain ⟨pl, ls, fs, x4, x5, rfl, e1, e2, n1, n2, l1, l2, m1, m2, s1, f1⟩ := hP
    obtain ⟨hi, rfl⟩ := rangeD_get hx
    have hi' : i < xs.length := by omega
    repeat walk_at "d"
    refine w_take s1 (by omega) (by omega) fun v g2 v0 v1 s2 f2 => ?_
    have a1 := f2 _ _ n2 e1
    have a2 := f2 _ _ (s.ne np2) e2
    repeat walk_at "d"
    obtain ⟨x, b1, b2, _⟩ := atI_get (xs := ls) v0 v1
    refine v_ixL a1 b1 ?_
    repeat walk_at "d"
    refine v_app a2 (by rw [sizeLine_eq]; omega) ?_
    have a1' : (gup g2 p2 (.lst (fs ++ [x]))) pl = some (.lst ls) := by rw [gup_ne n1]; exact a1
    repeat walk_at "d"
    intro q1 hq1
    repeat walk_at "d"
    intro q2 hq2
    repeat walk_at "d"
    refine v_addL (gup_old hq2 gup_same) gup_same ?_ fun q3 hq3 => ?_
    · have := @cut_len ls none (some v)
      have := @cut_len ls (some (v + 1)) none
      rw [sizeLine_eq]; omega
    · repeat walk_at "d"
      have c2 : (gup g2 p2 (.lst (fs ++ [x]))) p2 = some (.lst (fs ++ [x])) := gup_same
      have kq : Kp (gup g2 p2 (.lst (fs ++ [x]))) (gup (gup (gup (gup g2 p2 (.lst (fs ++ [x]))) q1 (.lst (cutD ls none (some v)))) q2 (.lst (cutD ls (some (v + 1)) none))) q3 (.lst (cutD ls none (some v) ++ cutD ls (some (v + 1)) none))) := (Kp.new hq1).trans ((Kp.new hq2).trans (Kp.new hq3))
      have s3 : St (gup g2 p2 (.lst (fs ++ [x]))) st cl := s2.put (s.ne np2) (s.nc np2)
      refine ⟨q3, _, fs ++ [x], _, _, rfl, gup_same, kq _ _ gup_same, fun z => ?_, (s3.kp ((Kp.new hq1).trans (Kp.new hq2))).ne hq3, ?_, by simp [l2], ?_, ?_, s3.kp kq, ?_⟩
      · subst z
        rw [(Kp.new hq1).trans (Kp.new hq2) _ _ c2] at hq3; cases hq3
      · rw [List.length_append, cut_left v0 v1, cut_right (by omega) (by omega), List.length_take, List.length_drop]
        omega
      · intro z hz
        rcases List.mem_append.mp hz with hz | hz
        · exact m1 z (cut_mem hz)
        · exact m1 z (cut_mem hz)
      · intro z hz
        rcases List.mem_append.mp hz with hz | hz
        · exact m2 z hz
        · rw [List.mem_singleton.mp hz]; exact m1 x b2
      · exact ((f1.trans f2).put np2).trans (Fr.kp kq)
  · obtain ⟨pl, ls, fs, x4, x5, rfl, e1, e2, n1, n2, l1, l2, m1, m2, s1, f1⟩ := hP
    repeat walk_at "d"
    exact hQ p2 fs g' np2 e2 (by simpa [rangeD] using l2) m2 s1 f1
end L2.DL

namespace L2.DL
open PySem PySem.Spec PyProof.Rows
local macro_rules | `(tactic| walk_at "g") => `(tactic| first | assumption | exact gup_same | exact gup_old (by assumption) (by assumption) | exact gup_old (by assumption) (gup_old (by assumption) (by assumption)) | exact gup_old (by assumption) gup_same | exact gup_old (by assumption) (gup_old (by assumption) gup_same) | ((repeat (rw [gup_ne (by first | assumption | (apply Ne.symm; assumption))])); first | exact gup_same | assumption) | rfl)
local macro_rules | `(tactic| walk_at "b") => `(tactic| simp only [Bool.false_xor, Bool.true_xor, decide_eq_true_eq, Bool.not_eq_true', decide_eq_false_iff_not, Bool.and_eq_true, Bool.or_eq_true])
local macro_rules | `(tactic| walk_at "d") => `(tactic| first
  | with_reducible refine' w_seq1 ?_ | with_reducible refine' w_seq2 ?_ | with_reducible refine' w_seq3 ?_ | with_reducible refine' w_seq4 ?_ | with_reducible refine' w_seq5 ?_ | with_reducible refine' w_op ?_ | ((with_reducible refine' w_var ?e ?_); case e => rfl) | with_reducible refine' w_c ?_ | with_reducible refine' w_cons ?_ | with_reducible refine' w_nil ?_
  | with_reducible refine' w_rfl ?_ | ((with_reducible refine' w_len ?e ?_); case e => rfl) | ((with_reducible refine' w_le ?e ?_); case e => (rw [sizeLine_eq]; simp only [List.length_cons, List.length_nil]; omega)) | with_reducible refine' w_set ?_ | with_reducible refine' w_ret ?_ | with_reducible refine' w_if ?_ | with_reducible refine' w_cb ?_ | with_reducible refine' w_call ?_ | with_reducible refine' w_B ?_ | with_reducible refine' w_bl ?_
  | with_reducible refine' w_and ?_ | with_reducible refine' w_or ?_ | with_reducible refine' w_not ?_ | with_reducible refine' w_ifE ?_ | with_reducible refine' w_yes ?_ | with_reducible refine' w_sl ?_ | with_reducible refine' w_nop ?_ | with_reducible refine' w_p ?_ | with_reducible refine' w_in ?_
  | with_reducible refine' w_store ?_ | with_reducible refine' w_augS ?_ | ((with_reducible refine' w_aug ?e ?_); case e => rfl) | with_reducible refine' w_m ?_ | with_reducible refine' w_andV ?_ | with_reducible refine' w_orV ?_ | with_reducible refine' w_notV ?_ | with_reducible refine' w_chain ?_
  | with_reducible refine' w_drop ?_ | with_reducible refine' w_retN ?_ | with_reducible refine' w_nx ?_ | with_reducible refine' w_un ?_ | with_reducible refine' w_tup ?_ | with_reducible refine' w_lst ?_ | with_reducible refine' w_callK ?_ | with_reducible refine' w_callX ?_ | with_reducible refine' w_isi ?_ | with_reducible refine' w_get1 ?_ | with_reducible refine' w_get2 ?_ | with_reducible refine' w_rng1 ?_
  | with_reducible refine' v_add ?_ | with_reducible refine' v_intB ?_ | with_reducible refine' v_neg ?_ | with_reducible refine' v_eqS ?_ | with_reducible refine' v_eqI ?_ | with_reducible refine' v_eqB ?_ | with_reducible refine' v_eqN ?_ | with_reducible refine' v_is ?_ | with_reducible refine' v_intI ?_ | with_reducible refine' v_intBl ?_ | with_reducible refine' v_abs ?_
  | with_reducible refine' v_max2 ?_ | with_reducible refine' v_min2 ?_ | with_reducible refine' v_lenT ?_ | with_reducible refine' v_lenF ?_ | with_reducible refine' v_lenC ?_ | with_reducible refine' v_slT ?_ | with_reducible refine' v_slC ?_ | with_reducible refine' v_ipA ?_ | with_reducible refine' v_ipS ?_ | with_reducible refine' v_mtS ?_
  | with_reducible refine' iteT ?_ | with_reducible refine' iteF ?_
  | ((with_reducible refine' v_mul ?c ?_); case c => (unfold CMul; first | (apply Or.inr; constructor <;> decide) | (apply Or.inl; constructor <;> decide) | (apply Or.inl; constructor <;> omega) | (apply Or.inr; constructor <;> omega)))
  | ((with_reducible refine' v_int ?c ?_); case c => first | exact trivial | (show CPos _ _; first | decide | (show (0:Int) < _; omega)) | (show CDiv _ _; constructor <;> omega) | (show CPow _ _; refine ⟨?_, ?_, ?_⟩ <;> decide))
  | ((with_reducible refine' v_ixT ?c ?_); case c => rfl)
  | ((with_reducible refine' v_ixL ?e ?c ?_); (case e => walk_at "g"); (case c => rfl))
  | ((with_reducible refine' v_lenL ?e ?_); (case e => walk_at "g")) | ((with_reducible refine' v_tupL ?e ?_); (case e => walk_at "g"))
  | ((with_reducible refine' v_gt ?e ?c ?_); (case e => walk_at "g"); (case c => rfl)) | ((with_reducible refine' v_st ?e ?c ?_); (case e => walk_at "g"); (case c => rfl))
  | with_reducible refine' w_for ?_ | with_reducible refine' w_seqI ?_ | with_reducible refine' w_gn ?_ | with_reducible refine' w_gt ?_ | with_reducible refine' w_gc ?_ | with_reducible refine' w_g0 ?_ | with_reducible refine' v_itT ?_ | with_reducible refine' v_itF ?_ | with_reducible refine' v_itC ?_
  | ((with_reducible refine' v_itL ?e ?_); (case e => walk_at "g"))
  | ((with_reducible refine' v_lstL ?e ?_); (case e => walk_at "g")) | ((with_reducible refine' v_addL ?e ?e2 ?l ?_); (case e => walk_at "g"); (case e2 => walk_at "g"); (case l => (rw [sizeLine_eq]; simp only [List.length_cons, List.length_nil]; omega))) | ((with_reducible refine' v_slL ?e ?_); (case e => walk_at "g")) | ((with_reducible refine' v_mtL ?e ?_); (case e => walk_at "g"))
  | dsimp only
  | with_reducible refine' w_par ?_ | ((with_reducible refine' v_addT ?l ?_); (case l => (rw [sizeLine_eq]; simp only [List.length_cons, List.length_nil]; omega))))
/-- _law_lot -/
def r_lot : DN := fun ds g Q => ∃ st cl y xs, ds = [.obj st, y] ∧ seqOf g y = some (xs.map D.str) ∧ (∀ s, y ≠ .str s) ∧ xs ≠ [] ∧ xs.length ≤ 100 ∧ St g st cl ∧ (∀ g', Fr st g g' → seqOf g' y = some (xs.map D.str)) ∧
  ∀ ys g', ys ≠ [] → ys.length ≤ xs.length → (∀ z ∈ ys, z ∈ xs) → St g' st cl → Fr st g g' → Q (sD ys) g'
theorem w_lot {st cl : Addr} {y : D} {xs : List Str} {g : G} {Q : D → G → Prop} (e : seqOf g y = some (xs.map D.str)) (n : ∀ s, y ≠ .str s) (h0 : xs ≠ []) (h1 : xs.length ≤ 100) (s : St g st cl) (k : ∀ g', Fr st g g' → seqOf g' y = some (xs.map D.str))
    (h : ∀ ys g', ys ≠ [] → ys.length ≤ xs.length → (∀ z ∈ ys, z ∈ xs) → St g' st cl → Fr st g g' → Q (sD ys) g') : r_lot [.obj st, y] g Q := ⟨st, cl, y, xs, rfl, e, n, h0, h1, s, k, h⟩
theorem p_lot (ds : List D) (g : G) (Q : D → G → Prop) (h : r_lot ds g Q) : t__law_lot r_pick r_take { nx := fun _ g' => Q .non g', rt := Q } (dstart N__law_lot.length ds) g := by
  obtain ⟨st, cl, y, xs, rfl, e, n, h0, h1, s, k, hQ⟩ := h
  show t__law_lot r_pick r_take { nx := fun _ g' => Q .non g', rt := Q } [some (.obj st), some y, none, none] g
  unfold t__law_lot
  repeat walk_at "d"
  refine w_pick e n (by simpa using h0) (by rw [List.length_map]; omega) s k fun x g1 hx s1 f1 => ?_
  obtain ⟨one, hone, rfl⟩ := List.mem_map.mp hx
  repeat walk_at "d"
  refine w_lc ?_
  repeat walk_at "d"
  refine v_itO (k g1 f1) n fun stay hst => ?_
  refine ⟨by rw [sizeLine_eq, List.length_map]; omega, fun i acc g' => ∃ ys : List Str, acc = ys.map D.str ∧ ys.length ≤ i ∧ (∀ z ∈ ys, z ∈ xs) ∧ ((∃ j, j < i ∧ xs[j]? = some one) → ys ≠ []) ∧ St g' st cl ∧ Fr st g g', ?_, ?_, ?_, ?_⟩
  · exact ⟨[], rfl, Nat.le_refl _, (fun _ h => by cases h), (fun ⟨j, hj, _⟩ => by omega), s1, f1⟩
  · rintro i acc g' ⟨ys, _, _, _, _, _, f2⟩
    exact hst g' (k g' f2)
  · rintro i x acc g' hx ⟨ys, rfl, l1, m1, o1, s2, f2⟩
    rw [List.getElem?_map] at hx
    cases hxi : xs[i]? with
    | none => rw [hxi] at hx; cases hx
    | some z =>
    rw [hxi] at hx
    cases hx
    have hz : z ∈ xs := List.mem_of_getElem? hxi
    have good : ∀ g3, St g3 st cl → Fr st g g3 → ∃ ys2 : List Str, ys.map D.str ++ [D.str z] = ys2.map D.str ∧ ys2.length ≤ i + 1 ∧ (∀ z ∈ ys2, z ∈ xs) ∧ ((∃ j, j < i + 1 ∧ xs[j]? = some one) → ys2 ≠ []) ∧ St g3 st cl ∧ Fr st g g3 := fun g3 s3 f3 =>
      ⟨ys ++ [z], by simp, by simp; omega, fun w hw => by
        rcases List.mem_append.mp hw with hw | hw
        · exact m1 w hw
        · rw [List.mem_singleton.mp hw]; exact hz, fun _ => by simp, s3, f3⟩
    repeat walk_at "d"
    refine w_ite (fun hc => ?_) (fun hc => ?_)
    · repeat walk_at "d"
      exact good _ s2 f2
    · have hne : z ≠ one := by simpa using hc
      repeat walk_at "d"
      refine w_take s2 (by decide) (by decide) fun v g3 v0 v1 s3 f3 => ?_
      repeat walk_at "d"
      refine w_ite (fun hc => ?_) (fun hc => ?_)
      · repeat walk_at "d"
        exact good _ s3 (f2.trans f3)
      · refine ⟨ys, rfl, by omega, m1, fun ⟨j, hj, ej⟩ => o1 ⟨j, ?_, ej⟩, s3, f2.trans f3⟩
        rcases Nat.lt_or_ge j i with h | h
        · exact h
        · have : j = i := by omega
          subst this
          rw [hxi] at ej
          cases ej
          exact absurd rfl hne
  · rintro acc g' p ⟨ys, rfl, l1, m1, o1, s2, f2⟩ hl hp
    repeat walk_at "d"
    have ok := sortOk_strs ys
    refine v_sort (xs := ys.map D.str) (by simp only [srcD, gup_same]) ok fun p2 hp2 => ?_
    obtain ⟨zs, e1, e2⟩ := sort_strs ys
    rw [e1]
    repeat walk_at "d"
    have kp : Kp g' (gup (gup g' p (.lst (ys.map D.str))) p2 (.lst (zs.map D.str))) := (Kp.new hp).trans (Kp.new hp2)
    refine hQ zs _ (fun z => ?_) ?_ (fun z hz => m1 z (e2.mem_iff.mp hz)) (s2.kp kp) (f2.trans (Fr.kp kp))
    · obtain ⟨j, hj, ej⟩ := List.mem_iff_getElem.mp hone
      refine o1 ⟨j, by rw [List.length_map]; exact hj, by rw [List.getElem?_eq_getElem hj, ej]⟩ ?_
      subst z
      exact List.nil_perm.mp e2
    · rw [e2.length_eq]
      rw [List.length_map] at l1
      exact l1
end L2.DL

namespace L2.DL
open PySem PySem.Spec PyProof.Rows
local macro_rules | `(tactic| walk_at "g") => `(tactic| first | assumption | exact gup_same | exact gup_old (by assumption) (by assumption) | exact gup_old (by assumption) (gup_old (by assumption) (by assumption)) | exact gup_old (by assumption) gup_same | exact gup_old (by assumption) (gup_old (by assumption) gup_same) | ((repeat (rw [gup_ne (by first | assumption | (apply Ne.symm; assumption))])); first | exact gup_same | assumption) | rfl)
local macro_rules | `(tactic| walk_at "b") => `(tactic| simp only [Bool.false_xor, Bool.true_xor, decide_eq_true_eq, Bool.not_eq_true', decide_eq_false_iff_not, Bool.and_eq_true, Bool.or_eq_true])
local macro_rules | `(tactic| walk_at "d") => `(tactic| first
  | with_reducible refine' w_seq1 ?_ | with_reducible refine' w_seq2 ?_ | with_reducible refine' w_seq3 ?_ | with_reducible refine' w_seq4 ?_ | with_reducible refine' w_seq5 ?_ | with_reducible refine' w_op ?_ | ((with_reducible refine' w_var ?e ?_); case e => rfl) | with_reducible refine' w_c ?_ | with_reducible refine' w_cons ?_ | with_reducible refine' w_nil ?_
  | with_reducible refine' w_rfl ?_ | ((with_reducible refine' w_len ?e ?_); case e => rfl) | ((with_reducible refine' w_le ?e ?_); case e => (rw [sizeLine_eq]; simp only [List.length_cons, List.length_nil]; omega)) | with_reducible refine' w_set ?_ | with_reducible refine' w_ret ?_ | with_reducible refine' w_if ?_ | with_reducible refine' w_cb ?_ | with_reducible refine' w_call ?_ | with_reducible refine' w_B ?_ | with_reducible refine' w_bl ?_
  | with_reducible refine' w_and ?_ | with_reducible refine' w_or ?_ | with_reducible refine' w_not ?_ | with_reducible refine' w_ifE ?_ | with_reducible refine' w_yes ?_ | with_reducible refine' w_sl ?_ | with_reducible refine' w_nop ?_ | with_reducible refine' w_p ?_ | with_reducible refine' w_in ?_
  | with_reducible refine' w_store ?_ | with_reducible refine' w_augS ?_ | ((with_reducible refine' w_aug ?e ?_); case e => rfl) | with_reducible refine' w_m ?_ | with_reducible refine' w_andV ?_ | with_reducible refine' w_orV ?_ | with_reducible refine' w_notV ?_ | with_reducible refine' w_chain ?_
  | with_reducible refine' w_drop ?_ | with_reducible refine' w_retN ?_ | with_reducible refine' w_nx ?_ | with_reducible refine' w_un ?_ | with_reducible refine' w_tup ?_ | with_reducible refine' w_lst ?_ | with_reducible refine' w_callK ?_ | with_reducible refine' w_callX ?_ | with_reducible refine' w_isi2 ?_ | with_reducible refine' w_get1 ?_ | with_reducible refine' w_get2 ?_ | with_reducible refine' w_rng1 ?_
  | with_reducible refine' v_add ?_ | with_reducible refine' v_intB ?_ | with_reducible refine' v_neg ?_ | with_reducible refine' v_eqS ?_ | with_reducible refine' v_eqI ?_ | with_reducible refine' v_eqB ?_ | with_reducible refine' v_eqN ?_ | with_reducible refine' v_is ?_ | with_reducible refine' v_intI ?_ | with_reducible refine' v_intBl ?_ | with_reducible refine' v_abs ?_
  | with_reducible refine' v_max2 ?_ | with_reducible refine' v_min2 ?_ | with_reducible refine' v_lenT ?_ | with_reducible refine' v_lenF ?_ | with_reducible refine' v_lenC ?_ | with_reducible refine' v_slT ?_ | with_reducible refine' v_slC ?_ | with_reducible refine' v_ipA ?_ | with_reducible refine' v_ipS ?_ | with_reducible refine' v_mtS ?_
  | with_reducible refine' iteT ?_ | with_reducible refine' iteF ?_
  | ((with_reducible refine' v_mul ?c ?_); case c => (unfold CMul; first | (apply Or.inr; constructor <;> decide) | (apply Or.inl; constructor <;> decide) | (apply Or.inl; constructor <;> omega) | (apply Or.inr; constructor <;> omega)))
  | ((with_reducible refine' v_int ?c ?_); case c => first | exact trivial | (show CPos _ _; first | decide | (show (0:Int) < _; omega)) | (show CDiv _ _; constructor <;> omega) | (show CPow _ _; refine ⟨?_, ?_, ?_⟩ <;> decide))
  | ((with_reducible refine' v_ixT ?c ?_); case c => rfl)
  | ((with_reducible refine' v_ixL ?e ?c ?_); (case e => walk_at "g"); (case c => rfl))
  | ((with_reducible refine' v_lenL ?e ?_); (case e => walk_at "g")) | ((with_reducible refine' v_tupL ?e ?_); (case e => walk_at "g"))
  | ((with_reducible refine' v_gt ?e ?c ?_); (case e => walk_at "g"); (case c => rfl)) | ((with_reducible refine' v_st ?e ?c ?_); (case e => walk_at "g"); (case c => rfl))
  | with_reducible refine' w_for ?_ | with_reducible refine' w_seqI ?_ | with_reducible refine' w_gn ?_ | with_reducible refine' w_gt ?_ | with_reducible refine' w_gc ?_ | with_reducible refine' w_g0 ?_ | with_reducible refine' v_itT ?_ | with_reducible refine' v_itF ?_ | with_reducible refine' v_itC ?_
  | ((with_reducible refine' v_itL ?e ?_); (case e => walk_at "g"))
  | ((with_reducible refine' v_lstL ?e ?_); (case e => walk_at "g")) | ((with_reducible refine' v_addL ?e ?e2 ?l ?_); (case e => walk_at "g"); (case e2 => walk_at "g"); (case l => (rw [sizeLine_eq]; simp only [List.length_cons, List.length_nil]; omega))) | ((with_reducible refine' v_slL ?e ?_); (case e => walk_at "g")) | ((with_reducible refine' v_mtL ?e ?_); (case e => walk_at "g"))
  | dsimp only
  | with_reducible refine' w_par ?_ | ((with_reducible refine' v_addT ?l ?_); (case l => (rw [sizeLine_eq]; simp only [List.length_cons, List.length_nil]; omega))))
/-- the signs of a text are signs -/
def okS (s : Str) : Prop := ∀ c ∈ s.cps.toList, c < 0x110000
theorem okS_app {a b : Str} (ha : okS a) (hb : okS b) : okS (a ++ b) := fun c hc => by
  rw [PySem.Str.cps_append, Array.toList_append] at hc
  rcases List.mem_append.mp hc with h | h
  · exact ha c h
  · exact hb c h
theorem okS_cut {p : Str} {lo hi : Option Int} (h : okS p) : okS (cutS p lo hi) := fun c hc => by
  unfold cutS at hc
  exact h c (List.mem_of_mem_drop (List.mem_of_mem_take hc))
theorem okS_one {c : Nat} (h : c < 0x110000) : okS ⟨#[c]⟩ := fun d hd => by
  have : d = c := by simpa using hd
  omega
theorem okS_empty : okS Str.empty := fun c hc => by cases hc
theorem okS_join : ∀ ys : List Str, (∀ y ∈ ys, okS y) → okS (PySem.Str.join "" ys)
  | [], _ => okS_empty
  | [y], h => h y (List.mem_cons_self ..)
  | y :: z :: r, h => okS_app (okS_app (h y (List.mem_cons_self ..)) (fun c hc => by cases hc)) (okS_join (z :: r) fun w hw => h w (List.mem_cons_of_mem _ hw))
def Nm (s : Str) : Prop := s.length ≤ 20 ∧ okS s
theorem signs_ok {v : Int} {c : Nat} (h : atI ("abcdefghijklmnopqrstuvwxyz0123456789." : Str).cps.toList v = some c) : c < 0x110000 := by
  have hm : c ∈ ("abcdefghijklmnopqrstuvwxyz0123456789." : Str).cps.toList := by
    unfold atI at h
    cases e : ixN ("abcdefghijklmnopqrstuvwxyz0123456789." : Str).cps.toList.length v with
    | none => rw [e] at h; cases h
    | some j => rw [e] at h; exact List.mem_of_getElem? h
  have : ∀ c ∈ ("abcdefghijklmnopqrstuvwxyz0123456789." : Str).cps.toList, c < 0x110000 := by decide +kernel
  exact this c hm
theorem cutS_len {p : Str} {v : Int} (h0 : 0 ≤ v) : (cutS p none (some v)).length ≤ v.toNat := by
  unfold cutS
  show (List.toArray _).size ≤ _
  rw [List.size_toArray, List.length_take, HT.sIx_none]
  have : HT.sIx p.length p.length (some v) ≤ v.toNat := by
    obtain ⟨k, rfl⟩ := Int.eq_ofNat_of_zero_le h0
    rw [HT.sIx_nat, Int.toNat_natCast]
    omega
  omega
theorem signs_at {v : Int} (h0 : 0 ≤ v) (h1 : v < 37) : ∃ c, atI ("abcdefghijklmnopqrstuvwxyz0123456789." : Str).cps.toList v = some c := by
  have : ("abcdefghijklmnopqrstuvwxyz0123456789." : Str).cps.toList.length = 37 := by decide +kernel
  obtain ⟨x, e, _⟩ := atI_get (xs := ("abcdefghijklmnopqrstuvwxyz0123456789." : Str).cps.toList) h0 (by rw [this]; exact h1)
  exact ⟨x, e⟩
theorem signs_len : ("abcdefghijklmnopqrstuvwxyz0123456789." : Str).length ≤ sizeLine := by
  have : ("abcdefghijklmnopqrstuvwxyz0123456789." : Str).length = 37 := by decide +kernel
  rw [this, sizeLine_eq]; decide
theorem sum_ones : ∀ {ys : List Str}, (∀ y ∈ ys, y.length = 1) → (ys.map (·.length)).sum = ys.length
  | [], _ => rfl
  | y :: ys, h => by
    rw [List.map_cons, List.sum_cons, sum_ones fun z hz => h z (List.mem_cons_of_mem _ hz), h y (List.mem_cons_self ..), List.length_cons]
    omega
/-- _law_names -/
def r_names : DN := fun ds g Q => ∃ st cl m, ds = [.obj st, .int m] ∧ 0 ≤ m ∧ m ≤ 40 ∧ St g st cl ∧ ∀ (ns : List Str) g', (ns.length : Int) = m → (∀ s ∈ ns, Nm s) → St g' st cl → Fr st g g' → Q (.fin (ns.map D.str)) g'
theorem w_names {st cl : Addr} {m : Int} {g : G} {Q : D → G → Prop} (h0 : 0 ≤ m) (h1 : m ≤ 40) (s : St g st cl) (h : ∀ (ns : List Str) g', (ns.length : Int) = m → (∀ s ∈ ns, Nm s) → St g' st cl → Fr st g g' → Q (.fin (ns.map D.str)) g') : r_names [.obj st, .int m] g Q := ⟨st, cl, m, rfl, h0, h1, s, h⟩
theorem p_names (ds : List D) (g : G) (Q : D → G → Prop) (h : r_names ds g Q) : t__law_names r_take { nx := fun _ g' => Q .non g', rt := Q } (dstart N__law_names.length ds) g := by
  obtain ⟨st, cl, m, rfl, h0, h1, s, hQ⟩ := h
  show t__law_names r_take { nx := fun _ g' => Q .non g', rt := Q } [some (.obj st), some (.int m), none, none, none, none, none, none] g
  unfold t__law_names
  repeat walk_at "d"
  refine w_lc ?_
  repeat walk_at "d"
  refine ⟨_, rfl, by constructor <;> decide, ?_⟩
  refine ⟨by rw [sizeLine_eq]; decide, fun i acc g' => ∃ ys : List Str, acc = ys.map D.str ∧ ys.length = i ∧ (∀ z ∈ ys, z.length = 1 ∧ okS z) ∧ St g' st cl ∧ Fr st g g', ?_, fun _ _ _ _ => trivial, ?_, ?_⟩
  · exact ⟨[], rfl, rfl, (fun _ h => by cases h), s, Fr.refl⟩
  · rintro i x acc g' hx ⟨ys, rfl, l1, m1, s1, f1⟩
    obtain ⟨hi, rfl⟩ := rangeD_get hx
    repeat walk_at "d"
    refine w_take s1 (by decide) (by decide) fun v g2 v0 v1 s2 f2 => ?_
    obtain ⟨c, hc⟩ := signs_at v0 v1
    refine v_ixS hc signs_len ?_
    refine ⟨ys ++ [⟨#[c]⟩], by simp, by simp [l1], fun z hz => ?_, s2, f1.trans f2⟩
    rcases List.mem_append.mp hz with hz | hz
    · exact m1 z hz
    · rw [List.mem_singleton.mp hz]; exact ⟨rfl, okS_one (signs_ok hc)⟩
  · rintro acc g1 p ⟨ys, rfl, l1, m1, s1, f1⟩ hl hp
    have l1 : ys.length = 10 := by rw [l1]; simp [rangeD]
    have hsum := sum_ones fun y hy => (m1 y hy).1
    repeat walk_at "d"
    refine v_join (ys := ys) (by simp only [seqOf, lstOf, gup_same]) (by rw [hsum, l1]; decide) ?_
    have hwl : (Txt.join "" ys).length ≤ 80 := len_join_le (n := 19) (by show (ys.map (·.length)).sum + ys.length ≤ 20; rw [hsum, l1]; decide) (by decide)
    have hwo : okS (Txt.join "" ys) := by
      have h := okS_join ys fun y hy => (m1 y hy).2
      rw [← StrLaws.glued_eq_join] at h
      exact h
    generalize Txt.join "" ys = word at hwl hwo
    have s2 : St (gup g1 p (.lst (ys.map D.str))) st cl := s1.kp (Kp.new hp)
    have f2 : Fr st g (gup g1 p (.lst (ys.map D.str))) := f1.trans (Fr.kp (Kp.new hp))
    generalize gup g1 p (.lst (ys.map D.str)) = g2 at s2 f2
    repeat walk_at "d"
    refine w_take s2 (by decide) (by decide) fun start g3 st0 st1 s3 f3 => ?_
    repeat walk_at "d"
    intro pf hpf
    repeat walk_at "d"
    refine w_seq ?_
    have npf : g pf = none := by
      cases e1 : g pf with
      | none => rfl
      | some o =>
        by_cases hne : pf = st
        · subst hne; exact absurd rfl (s3.ne hpf)
        · rw [(f2.trans f3) _ _ hne e1] at hpf; cases hpf
    repeat walk_at "d"
    refine ⟨_, rfl, by constructor <;> omega, ?_⟩
    refine ⟨fun i ρ' g' => ∃ (fs : List Str) (x6 x7 : Option D), ρ' = [some (.obj st), some (.int m), some (.str "abcdefghijklmnopqrstuvwxyz0123456789."), some (.str word), some (.int start), some (.obj pf), x6, x7] ∧ g' pf = some (.lst (fs.map D.str)) ∧ fs.length = i ∧ (∀ z ∈ fs, Nm z) ∧ St g' st cl ∧ Fr st g g', ?_, fun _ _ _ _ => trivial, ?_, ?_⟩
    · exact ⟨[], _, _, rfl, gup_same, rfl, (fun _ h => by cases h), s3.kp (Kp.new hpf), (f2.trans f3).trans (Fr.kp (Kp.new hpf))⟩
    · rintro i x ρ' g' hx ⟨fs, x6, x7, rfl, e1, l2, m2, s4, f4⟩
      obtain ⟨hi, rfl⟩ := rangeD_get hx
      have hi' : (i : Int) < 40 := by omega
      repeat walk_at "d"
      refine w_take s4 (by decide) (by decide) fun cut g5 c0 c1 s5 f5 => ?_
      have e5 := f5 _ _ (s.ne npf) e1
      repeat walk_at "d"
      refine v_slS (by rw [sizeLine_eq]; omega) ?_
      repeat walk_at "d"
      obtain ⟨a1, ha1⟩ := signs_at (v := (start + (0 + (i : Int))) % 37) (Int.emod_nonneg _ (by decide)) (Int.emod_lt_of_pos _ (by decide))
      refine v_ixS ha1 signs_len ?_
      have hcl := @cutS_len word cut c0
      refine v_addS (by rw [sizeLine_eq]; show _ + 1 ≤ _; omega) ?_
      repeat walk_at "d"
      obtain ⟨a2, ha2⟩ := signs_at (v := (0 + (i : Int)) / 37) (by omega) (by omega)
      refine v_ixS ha2 signs_len ?_
      repeat walk_at "d"
      refine v_mulS ?_ ?_
      · split <;> constructor <;> decide
      · have hfl : (if (if (decide (37 < m)) = true then (1 : Int) else 0) = 1 then (⟨#[a2]⟩ : Str) else Str.empty).length ≤ 1 := by
          split
          · exact Nat.le_refl _
          · exact Nat.zero_le _
        have hfo : okS (if (if (decide (37 < m)) = true then (1 : Int) else 0) = 1 then (⟨#[a2]⟩ : Str) else Str.empty) := by
          split
          · exact okS_one (signs_ok ha2)
          · exact okS_empty
        have hso : okS (cutS word none (some cut) ++ (⟨#[a1]⟩ : Str)) := okS_app (okS_cut hwo) (okS_one (signs_ok ha1))
        have hsl : (cutS word none (some cut) ++ (⟨#[a1]⟩ : Str)).length ≤ 11 := by
          rw [PySem.Str.length_append]; show _ + 1 ≤ _; omega
        refine v_addS (by rw [sizeLine_eq]; omega) ?_
        repeat walk_at "d"
        refine v_app e5 (by rw [sizeLine_eq, List.length_map]; omega) ?_
        repeat walk_at "d"
        refine ⟨fs ++ [_], _, _, rfl, by rw [gup_same, List.map_append]; rfl, by simp [l2], fun z hz => ?_, s5.put (s.ne npf) (s.nc npf), (f4.trans f5).put npf⟩
        rcases List.mem_append.mp hz with hz | hz
        · exact m2 z hz
        · rw [List.mem_singleton.mp hz]
          exact ⟨by rw [PySem.Str.length_append]; omega, okS_app hso hfo⟩
    · rintro ρ' g' ⟨fs, x6, x7, rfl, e1, l2, m2, s4, f4⟩
      repeat walk_at "d"
      refine v_sort (xs := fs.map D.str) (by simp only [srcD, e1]) (sortOk_strs fs) fun p2 hp2 => ?_
      obtain ⟨zs, q1, q2⟩ := sort_strs fs
      rw [q1]
      repeat walk_at "d"
      refine v_finL gup_same ?_
      refine hQ zs _ ?_ (fun z hz => m2 z (q2.mem_iff.mp hz)) (s4.kp (Kp.new hp2)) (f4.trans (Fr.kp (Kp.new hp2)))
      rw [q2.length_eq, l2]
      simp [rangeD]
      omega
end L2.DL

namespace L2.DL
open PySem PySem.Spec PyProof.Rows
local macro_rules | `(tactic| walk_at "g") => `(tactic| first | assumption | exact gup_same | exact gup_old (by assumption) (by assumption) | exact gup_old (by assumption) (gup_old (by assumption) (by assumption)) | exact gup_old (by assumption) gup_same | exact gup_old (by assumption) (gup_old (by assumption) gup_same) | ((repeat (rw [gup_ne (by first | assumption | (apply Ne.symm; assumption))])); first | exact gup_same | assumption) | rfl)
local macro_rules | `(tactic| walk_at "b") => `(tactic| simp only [Bool.false_xor, Bool.true_xor, decide_eq_true_eq, Bool.not_eq_true', decide_eq_false_iff_not, Bool.and_eq_true, Bool.or_eq_true])
local macro_rules | `(tactic| walk_at "d") => `(tactic| first
  | with_reducible refine' w_seq1 ?_ | with_reducible refine' w_seq2 ?_ | with_reducible refine' w_seq3 ?_ | with_reducible refine' w_seq4 ?_ | with_reducible refine' w_seq5 ?_ | with_reducible refine' w_op ?_ | ((with_reducible refine' w_var ?e ?_); case e => rfl) | with_reducible refine' w_c ?_ | with_reducible refine' w_cons ?_ | with_reducible refine' w_nil ?_
  | with_reducible refine' w_rfl ?_ | ((with_reducible refine' w_len ?e ?_); case e => rfl) | ((with_reducible refine' w_le ?e ?_); case e => (rw [sizeLine_eq]; simp only [List.length_cons, List.length_nil]; omega)) | with_reducible refine' w_set ?_ | with_reducible refine' w_ret ?_ | with_reducible refine' w_if ?_ | with_reducible refine' w_cb ?_ | with_reducible refine' w_call ?_ | with_reducible refine' w_B ?_ | with_reducible refine' w_bl ?_
  | with_reducible refine' w_and ?_ | with_reducible refine' w_or ?_ | with_reducible refine' w_not ?_ | with_reducible refine' w_ifE ?_ | with_reducible refine' w_yes ?_ | with_reducible refine' w_sl ?_ | with_reducible refine' w_nop ?_ | with_reducible refine' w_p ?_ | with_reducible refine' w_in ?_
  | with_reducible refine' w_store ?_ | with_reducible refine' w_augS ?_ | ((with_reducible refine' w_aug ?e ?_); case e => rfl) | with_reducible refine' w_m ?_ | with_reducible refine' w_andV ?_ | with_reducible refine' w_orV ?_ | with_reducible refine' w_notV ?_ | with_reducible refine' w_chain ?_
  | with_reducible refine' w_drop ?_ | with_reducible refine' w_retN ?_ | with_reducible refine' w_nx ?_ | with_reducible refine' w_un ?_ | with_reducible refine' w_tup ?_ | with_reducible refine' w_lst ?_ | with_reducible refine' w_callK ?_ | with_reducible refine' w_callX ?_ | with_reducible refine' w_isi2 ?_ | with_reducible refine' w_get1 ?_ | with_reducible refine' w_get2 ?_ | with_reducible refine' w_rng1 ?_
  | with_reducible refine' v_add ?_ | with_reducible refine' v_intB ?_ | with_reducible refine' v_neg ?_ | with_reducible refine' v_eqS ?_ | with_reducible refine' v_eqI ?_ | with_reducible refine' v_eqB ?_ | with_reducible refine' v_eqN ?_ | with_reducible refine' v_is ?_ | with_reducible refine' v_intI ?_ | with_reducible refine' v_intBl ?_ | with_reducible refine' v_abs ?_
  | with_reducible refine' v_max2 ?_ | with_reducible refine' v_min2 ?_ | with_reducible refine' v_lenT ?_ | with_reducible refine' v_lenF ?_ | with_reducible refine' v_lenC ?_ | with_reducible refine' v_slT ?_ | with_reducible refine' v_slC ?_ | with_reducible refine' v_ipA ?_ | with_reducible refine' v_ipS ?_ | with_reducible refine' v_mtS ?_
  | with_reducible refine' iteT ?_ | with_reducible refine' iteF ?_
  | ((with_reducible refine' v_mul ?c ?_); case c => (unfold CMul; first | (apply Or.inr; constructor <;> decide) | (apply Or.inl; constructor <;> decide) | (apply Or.inl; constructor <;> omega) | (apply Or.inr; constructor <;> omega)))
  | ((with_reducible refine' v_int ?c ?_); case c => first | exact trivial | (show CPos _ _; first | decide | (show (0:Int) < _; omega)) | (show CDiv _ _; constructor <;> omega) | (show CPow _ _; refine ⟨?_, ?_, ?_⟩ <;> decide))
  | ((with_reducible refine' v_ixT ?c ?_); case c => rfl)
  | ((with_reducible refine' v_ixL ?e ?c ?_); (case e => walk_at "g"); (case c => rfl))
  | ((with_reducible refine' v_lenL ?e ?_); (case e => walk_at "g")) | ((with_reducible refine' v_tupL ?e ?_); (case e => walk_at "g"))
  | ((with_reducible refine' v_gt ?e ?c ?_); (case e => walk_at "g"); (case c => rfl)) | ((with_reducible refine' v_st ?e ?c ?_); (case e => walk_at "g"); (case c => rfl))
  | with_reducible refine' w_for ?_ | with_reducible refine' w_seqI ?_ | with_reducible refine' w_gn ?_ | with_reducible refine' w_gt ?_ | with_reducible refine' w_gc ?_ | with_reducible refine' w_g0 ?_ | with_reducible refine' v_itT ?_ | with_reducible refine' v_itF ?_ | with_reducible refine' v_itC ?_
  | ((with_reducible refine' v_itL ?e ?_); (case e => walk_at "g"))
  | ((with_reducible refine' v_lstL ?e ?_); (case e => walk_at "g")) | ((with_reducible refine' v_addL ?e ?e2 ?l ?_); (case e => walk_at "g"); (case e2 => walk_at "g"); (case l => (rw [sizeLine_eq]; simp only [List.length_cons, List.length_nil]; omega))) | ((with_reducible refine' v_slL ?e ?_); (case e => walk_at "g")) | ((with_reducible refine' v_mtL ?e ?_); (case e => walk_at "g"))
  | dsimp only
  | with_reducible refine' w_par ?_ | ((with_reducible refine' v_addT ?l ?_); (case l => (rw [sizeLine_eq]; simp only [List.length_cons, List.length_nil]; omega))))
/-! the things of a dossier -/
inductive Th where
  | elder (a b : List Str) | ware (a : List Str) | series (rows : List (List (List Str))) | years (lot : List Str) (lo hi : Option Int)
def oD : Option Int → D
  | none => .non
  | some i => .int i
abbrev rowD (row : List (List Str)) : D := .tup (row.map sD)
def Th.d : Th → D
  | .elder a b => .tup [.str "elder", sD a, sD b]
  | .ware a => .tup [.str "ware", sD a]
  | .series rows => .tup [.str "series", .tup (rows.map rowD)]
  | .years lot lo hi => .tup [.str "years", sD lot, oD lo, oD hi]
def Th.Ok : Th → Prop
  | .elder a b => a.length ≤ 100 ∧ b.length ≤ 100
  | .ware a => a.length ≤ 100
  | .series rows => rows.length ≤ 100 ∧ ∀ row ∈ rows, row.length ≤ 200 ∧ ∀ b ∈ row, b.length ≤ 100
  | .years lot _ _ => lot.length ≤ 100
theorem w_lsr1 {ta : DE} {ρ : Rho} {g : G} {Q : D → G → Prop} (h : ta ρ g fun d g1 => ∃ n : Int, d = .int n ∧ RgOk 0 n ∧ ∀ p, g1 p = none → Q (.obj p) (gup g1 p (.lst (rangeD 0 n.toNat)))) : dLstR1 ta ρ g Q := by
  unfold dLstR1
  refine Eq.mp (congrArg (ta ρ g) ?_) h
  funext d g1
  apply propext
  cases d <;> simp
theorem w_rng2 {ts : DA} {ρ : Rho} {g : G} {R : List D → (G → Prop) → G → Prop} (h : ts ρ g fun ds g1 => ∃ i j : Int, ds = [.int i, .int j] ∧ (-(2 ^ 62) ≤ i ∧ i < 2 ^ 62 ∧ -(2 ^ 62) ≤ j ∧ j < 2 ^ 62) ∧ R (rangeD i (j - i).toNat) (fun _ => True) g1) : dRng2 ts ρ g R := by
  unfold dRng2
  refine Eq.mp (congrArg (ts ρ g) ?_) h
  funext ds g1
  apply propext
  constructor
  · rintro ⟨i, j, rfl, h⟩; exact h
  · intro h
    split at h
    · exact ⟨_, _, rfl, h⟩
    · exact h.elim
theorem str_sort {g : G} {xs : List Str} {lo hi : Option Int} {p : Addr} {K : D → G → Prop} (hx : xs.length ≤ 100) (hp : g p = none)
    (h : ∀ (ys : List Str) g' p2, Kp g g' → g' p2 = some (.lst (ys.map D.str)) → ys.length ≤ 100 → (∀ y ∈ ys, y ∈ xs) → K (.obj p2) g') :
    sortN [.obj p] (gup g p (.lst (cutD (xs.map D.str) lo hi))) K := by
  obtain ⟨ys, e1, e2, e3⟩ := strs_of (xs := xs) (l := cutD (xs.map D.str) lo hi) fun z hz => cut_mem hz
  have hl : ys.length ≤ 100 := by
    have := @cut_len (xs.map D.str) lo hi
    rw [List.length_map] at this
    omega
  rw [e1]
  refine v_sort (xs := ys.map D.str) (by simp only [srcD, gup_same]) (sortOk_strs ys) fun p2 hp2 => ?_
  obtain ⟨zs, q1, q2⟩ := sort_strs ys
  rw [q1]
  exact h zs _ p2 ((Kp.new hp).trans (Kp.new hp2)) gup_same (by rw [q2.length_eq]; exact hl) fun y hy => e3 y (q2.mem_iff.mp hy)
theorem band_comp {ρ : Rho} {g : G} {Q : D → G → Prop} {a b c : Nat} {ph pc : Addr} {xs : List Str} {ns : List Int}
    (ea : ∀ x, ((dwipe ρ [c]).set c (some x))[a]? = some (some (.obj ph))) (eb : ∀ x, ((dwipe ρ [c]).set c (some x))[b]? = some (some (.obj pc))) (ec : ∀ x, ((dwipe ρ [c]).set c (some x))[c]? = some (some x)) (eb0 : ρ[b]? = some (some (.obj pc)))
    (hh : g ph = some (.lst (xs.map D.str))) (hc : g pc = some (.lst (ns.map D.int))) (hl : ns.length ≤ 201) (hx : xs.length ≤ 100)
    (h : ∀ (row : List (List Str)) g' p, Kp g g' → g' p = none → row.length ≤ 200 → (∀ b ∈ row, b.length ≤ 100) → Q (.obj p) (gup g' p (.lst (row.map sD)))) :
    dLc (dRng1 (dCons (dOp subD (dCB lenN (dCons (dVar b) dNil)) (dC (.int 1))) dNil)) (dgName c) dYes (dCB tupN (dCons (dCB sortN (dCons (dSl (dVar a) (dP (dOp ixD (dVar b) (dVar c))) (dP (dOp ixD (dVar b) (dOp addD (dVar c) (dC (.int 1)))))) dNil)) dNil)) [c] ρ g Q := by
  refine w_lc ?_
  repeat walk_at "d"
  refine w_var eb0 ?_
  repeat walk_at "d"
  rw [List.length_map]
  refine ⟨_, rfl, by constructor <;> omega, ?_⟩
  have hlen : (rangeD 0 ((ns.length : Int) - 1).toNat).length = ns.length - 1 := by simp [rangeD]
  refine ⟨by rw [sizeLine_eq, hlen]; omega, fun i acc g' => ∃ row : List (List Str), acc = row.map sD ∧ row.length = i ∧ (∀ b ∈ row, b.length ≤ 100) ∧ Kp g g', ⟨[], rfl, rfl, (fun _ h => by cases h), Kp.refl⟩, fun _ _ _ _ => trivial, ?_, ?_⟩
  · rintro i x acc g' hx' ⟨row, rfl, l1, m1, k1⟩
    obtain ⟨hi, rfl⟩ := rangeD_get hx'
    have hi' : (i : Int) + 1 < ns.length := by omega
    repeat walk_at "d"
    refine w_var (ea _) ?_
    repeat walk_at "d"
    refine w_var (eb _) ?_
    refine w_var (ec _) ?_
    obtain ⟨x1, e1, e2, _⟩ := atI_get (xs := ns.map D.int) (i := 0 + (i : Int)) (by omega) (by rw [List.length_map]; omega)
    refine v_ixL (k1 _ _ hc) e1 ?_
    obtain ⟨n1, _, rfl⟩ := List.mem_map.mp e2
    repeat walk_at "d"
    refine w_var (eb _) ?_
    repeat walk_at "d"
    refine w_var (ec _) ?_
    repeat walk_at "d"
    obtain ⟨x2, e3, e4, _⟩ := atI_get (xs := ns.map D.int) (i := 0 + (i : Int) + 1) (by omega) (by rw [List.length_map]; omega)
    refine v_ixL (k1 _ _ hc) e3 ?_
    obtain ⟨n2, _, rfl⟩ := List.mem_map.mp e4
    repeat walk_at "d"
    refine v_slL (k1 _ _ hh) fun p hp => ?_
    repeat walk_at "d"
    refine str_sort hx hp fun ys g2 p2 k2 e2' l2 _ => ?_
    repeat walk_at "d"
    refine ⟨row ++ [ys], by rw [List.map_append]; rfl, by simp [l1], fun b hb => ?_, k1.trans k2⟩
    rcases List.mem_append.mp hb with hb | hb
    · exact m1 b hb
    · rw [List.mem_singleton.mp hb]; exact l2
  · rintro acc g' p ⟨row, rfl, l1, m1, k1⟩ _ hp
    exact h row g' p k1 hp (by rw [l1, hlen]; omega) m1
/-- _law_series -/
def r_series : DN := fun ds g Q => ∃ st cl h m, ∃ xs : List Str, ds = [.obj st, .obj h, .int m] ∧ h ≠ st ∧ g h = some (.lst (xs.map D.str)) ∧ xs.length ≤ 100 ∧ 0 ≤ m ∧ m ≤ 100 ∧ St g st cl ∧ ∀ t g', Th.Ok t → St g' st cl → Fr st g g' → Q t.d g'
theorem w_series {st cl h : Addr} {m : Int} {xs : List Str} {g : G} {Q : D → G → Prop} (n : h ≠ st) (e : g h = some (.lst (xs.map D.str))) (l : xs.length ≤ 100) (h0 : 0 ≤ m) (h1 : m ≤ 100) (s : St g st cl) (q : ∀ t g', Th.Ok t → St g' st cl → Fr st g g' → Q t.d g') : r_series [.obj st, .obj h, .int m] g Q := ⟨st, cl, h, m, xs, rfl, n, e, l, h0, h1, s, q⟩
theorem fresh_of {st p : Addr} {g g' : G} {cl : Addr} (f : Fr st g g') (s : St g' st cl) (h : g' p = none) : g p = none := by
  cases e1 : g p with
  | none => rfl
  | some o =>
    by_cases hne : p = st
    · exact absurd hne (s.ne h)
    · rw [f _ _ hne e1] at h; cases h
theorem p_series (ds : List D) (g : G) (Q : D → G → Prop) (h : r_series ds g Q) : t__law_series r_take r_shuf r_pick { nx := fun _ g' => Q .non g', rt := Q } (dstart N__law_series.length ds) g := by
  obtain ⟨st, cl, h, m, xs, rfl, n, e, l, h0, h1, s, hQ⟩ := h
  show t__law_series r_take r_shuf r_pick { nx := fun _ g' => Q .non g', rt := Q } [some (.obj st), some (.obj h), some (.int m), none, none, none, none, none, none] g
  unfold t__law_series
  repeat walk_at "d"
  refine w_take s (by decide) (by decide) fun tv g1 _ _ s1 f1 => ?_
  repeat walk_at "d"
  intro pr hpr
  repeat walk_at "d"
  refine w_seq ?_
  repeat walk_at "d"
  refine ⟨_, rfl, by constructor <;> omega, ?_⟩
  have npr : g pr = none := fresh_of f1 s1 hpr
  refine ⟨fun i ρ' g' => ∃ (rows : List (List (List Str))) (x5 x6 x7 x8 : Option D), ρ' = [some (.obj st), some (.obj h), some (.int m), some (.bl (false ^^ decide (tv = 0))), some (.obj pr), x5, x6, x7, x8] ∧ g' pr = some (.lst (rows.map rowD)) ∧ rows.length = i ∧ (∀ row ∈ rows, row.length ≤ 200 ∧ ∀ b ∈ row, b.length ≤ 100) ∧ St g' st cl ∧ Fr st g g', ?_, fun _ _ _ _ => trivial, ?_, ?_⟩
  · exact ⟨[], _, _, _, _, rfl, gup_same, rfl, (fun _ h => by cases h), s1.kp (Kp.new hpr), f1.trans (Fr.kp (Kp.new hpr))⟩
  · rintro i x ρ' g' hx ⟨rows, x5, x6, x7, x8, rfl, e1, l1, m1, s2, f2⟩
    obtain ⟨hi, rfl⟩ := rangeD_get hx
    have eh := f2 _ _ n e
    repeat walk_at "d"
    refine w_lsr1 ?_
    repeat walk_at "d"
    rw [List.length_map]
    refine ⟨by unfold RgOk; refine ⟨by decide, by decide, by omega, by omega, by omega⟩, fun pc hpc => ?_⟩
    repeat walk_at "d"
    have s3 := s2.kp (Kp.new (o := .lst (rangeD 0 ((xs.length : Int) + 1).toNat)) hpc)
    refine w_shuf (xs := rangeD 0 ((xs.length : Int) + 1).toNat) (by simp only [seqOf, lstOf, gup_same]) (by intro s h; cases h) (by simp [rangeD]; omega) s3 fun ps ys g3 hps hys hyl hym s4 f4 => ?_
    have f3 : Fr st g' g3 := (Fr.kp (Kp.new hpc)).trans f4
    have hps' : g' ps = none := fresh_of (Fr.kp (Kp.new hpc)) s3 hps
    repeat walk_at "d"
    have eh3 := f3 _ _ n eh
    refine v_lenL eh3 ?_
    repeat walk_at "d"
    intro pk hpk
    have s5 := s4.kp (Kp.new (o := .lst [.int 3, .int 3, .int 4, .int ((xs.map D.str).length + 1)]) hpk)
    repeat walk_at "d"
    refine w_pick (xs := [.int 3, .int 3, .int 4, .int ((xs.map D.str).length + 1)]) (by simp only [seqOf, lstOf, gup_same]) (by intro s h; cases h) (by simp) (by simp) s5 (fun g' f => by simp only [seqOf, lstOf, f _ _ (s4.ne hpk) gup_same]) fun xk g5 hxk s6 f6 => ?_
    have f5 : Fr st g3 g5 := (Fr.kp (Kp.new hpk)).trans f6
    obtain ⟨kk, rfl⟩ : ∃ kk : Int, xk = .int kk := by
      simp at hxk
      rcases hxk with h | h | h
      · exact ⟨_, h⟩
      · exact ⟨_, h⟩
      · exact ⟨_, h⟩
    have eps := f5 _ _ (s3.ne hps) hys
    repeat walk_at "d"
    intro pl hpl
    repeat walk_at "d"
    obtain ⟨ns, en, el⟩ := ints_of (l := cutD ys none (some kk)) fun z hz => by
      have := hym z (cut_mem hz)
      unfold rangeD at this
      obtain ⟨j, _, rfl⟩ := List.mem_map.mp this
      exact ⟨_, rfl⟩
    have hnl : ns.length ≤ 201 := by
      have h1 := @cut_len ys none (some kk)
      have h2 : ys.length = xs.length + 1 := by rw [hyl]; simp [rangeD]
      omega
    rw [en]
    refine v_sort (xs := ns.map D.int) (by simp only [srcD, gup_same]) (sortOk_ints ns) fun pcs hpcs => ?_
    obtain ⟨cs, q1, q2⟩ := sort_ints ns
    rw [q1]
    repeat walk_at "d"
    have k7 : Kp g5 (gup (gup g5 pl (.lst (ns.map D.int))) pcs (.lst (cs.map D.int))) := (Kp.new hpl).trans (Kp.new hpcs)
    have eh5 := k7 _ _ (f5 _ _ n eh3)
    refine band_comp (a := 1) (b := 6) (c := 8) (ph := h) (pc := pcs) (xs := xs) (ns := cs) ?ea ?eb ?ec ?e0 eh5 gup_same (by rw [q2.length_eq]; exact hnl) l fun row g8 pw k8 hpw hrl hrb => ?_
    case ea => exact fun _ => rfl
    case eb => exact fun _ => rfl
    case ec => exact fun _ => rfl
    case e0 => exact rfl
    have epr : (gup g8 pw (.lst (row.map sD))) pr = some (.lst (rows.map rowD)) := gup_old hpw (k8 _ _ (k7 _ _ (f5 _ _ (s.ne npr) (f3 _ _ (s.ne npr) e1))))
    have s9 : St (gup g8 pw (.lst (row.map sD))) st cl := s6.kp (k7.trans (k8.trans (Kp.new hpw)))
    have f9 : Fr st g (gup g8 pw (.lst (row.map sD))) := f2.trans (f3.trans (f5.trans (Fr.kp (k7.trans (k8.trans (Kp.new hpw))))))
    have ew : (gup g8 pw (.lst (row.map sD))) pw = some (.lst (row.map sD)) := gup_same
    generalize gup g8 pw (.lst (row.map sD)) = g9 at epr s9 f9 ew
    have hrl2 : rows.length < sizeLine := by rw [sizeLine_eq]; omega
    have fin : ∀ (row' : List (List Str)) (g10 : G), Kp g9 g10 → row'.length ≤ 200 → (∀ b ∈ row', b.length ≤ 100) → ∃ (rows2 : List (List (List Str))), (gup g10 pr (.lst (rows.map rowD ++ [rowD row']))) pr = some (.lst (rows2.map rowD)) ∧ rows2.length = i + 1 ∧ (∀ row ∈ rows2, row.length ≤ 200 ∧ ∀ b ∈ row, b.length ≤ 100) ∧ St (gup g10 pr (.lst (rows.map rowD ++ [rowD row']))) st cl ∧ Fr st g (gup g10 pr (.lst (rows.map rowD ++ [rowD row']))) := fun row' g10 k10 h1 h2 => by
      refine ⟨rows ++ [row'], by rw [gup_same, List.map_append]; rfl, by simp [l1], fun r hr => ?_, (s9.kp k10).put (s.ne npr) (s.nc npr), (f9.trans (Fr.kp k10)).put npr⟩
      rcases List.mem_append.mp hr with hr | hr
      · exact m1 r hr
      · rw [List.mem_singleton.mp hr]; exact ⟨h1, h2⟩
    repeat walk_at "d"
    refine w_ite (fun ht => ?_) (fun ht => ?_)
    · repeat walk_at "d"
      refine v_rev ?_
      repeat walk_at "d"
      refine ⟨row.map sD, by simp only [lstOf, ew], fun pv hpv => ?_⟩
      rw [← List.map_reverse]
      repeat walk_at "d"
      refine v_app (gup_old hpv epr) (by rw [List.length_map]; exact hrl2) ?_
      repeat walk_at "d"
      obtain ⟨rows2, a1, a2, a3, a4, a5⟩ := fin row.reverse _ (Kp.new hpv) (by simpa using hrl) (fun b hb => hrb b (List.mem_reverse.mp hb))
      exact ⟨rows2, _, _, _, _, rfl, a1, a2, a3, a4, a5⟩
    · repeat walk_at "d"
      refine v_app epr (by rw [List.length_map]; exact hrl2) ?_
      repeat walk_at "d"
      obtain ⟨rows2, a1, a2, a3, a4, a5⟩ := fin row _ Kp.refl hrl hrb
      exact ⟨rows2, _, _, _, _, rfl, a1, a2, a3, a4, a5⟩
  · rintro ρ' g' ⟨rows, x5, x6, x7, x8, rfl, e1, l1, m1, s2, f2⟩
    repeat walk_at "d"
    refine hQ (.series rows) _ ⟨?_, m1⟩ s2 f2
    rw [l1]
    simp [rangeD]
    omega
end L2.DL

namespace L2.DL
open PySem PySem.Spec PyProof.Rows
local macro_rules | `(tactic| walk_at "g") => `(tactic| first | assumption | exact gup_same | exact gup_old (by assumption) (by assumption) | exact gup_old (by assumption) (gup_old (by assumption) (by assumption)) | exact gup_old (by assumption) gup_same | exact gup_old (by assumption) (gup_old (by assumption) gup_same) | ((repeat (rw [gup_ne (by first | assumption | (apply Ne.symm; assumption))])); first | exact gup_same | assumption) | rfl)
local macro_rules | `(tactic| walk_at "b") => `(tactic| simp only [Bool.false_xor, Bool.true_xor, decide_eq_true_eq, Bool.not_eq_true', decide_eq_false_iff_not, Bool.and_eq_true, Bool.or_eq_true])
local macro_rules | `(tactic| walk_at "d") => `(tactic| first
  | with_reducible refine' w_seq1 ?_ | with_reducible refine' w_seq2 ?_ | with_reducible refine' w_seq3 ?_ | with_reducible refine' w_seq4 ?_ | with_reducible refine' w_seq5 ?_ | with_reducible refine' w_op ?_ | ((with_reducible refine' w_var ?e ?_); case e => rfl) | with_reducible refine' w_c ?_ | with_reducible refine' w_cons ?_ | with_reducible refine' w_nil ?_
  | with_reducible refine' w_rfl ?_ | ((with_reducible refine' w_len ?e ?_); case e => rfl) | ((with_reducible refine' w_le ?e ?_); case e => (rw [sizeLine_eq]; simp only [List.length_cons, List.length_nil]; omega)) | with_reducible refine' w_set ?_ | with_reducible refine' w_ret ?_ | with_reducible refine' w_if ?_ | with_reducible refine' w_cb ?_ | with_reducible refine' w_call ?_ | with_reducible refine' w_B ?_ | with_reducible refine' w_bl ?_
  | with_reducible refine' w_and ?_ | with_reducible refine' w_or ?_ | with_reducible refine' w_not ?_ | with_reducible refine' w_ifE ?_ | with_reducible refine' w_yes ?_ | with_reducible refine' w_sl ?_ | with_reducible refine' w_nop ?_ | with_reducible refine' w_p ?_ | with_reducible refine' w_in ?_
  | with_reducible refine' w_store ?_ | with_reducible refine' w_augS ?_ | ((with_reducible refine' w_aug ?e ?_); case e => rfl) | with_reducible refine' w_m ?_ | with_reducible refine' w_andV ?_ | with_reducible refine' w_orV ?_ | with_reducible refine' w_notV ?_ | with_reducible refine' w_chain ?_
  | with_reducible refine' w_drop ?_ | with_reducible refine' w_retN ?_ | with_reducible refine' w_nx ?_ | with_reducible refine' w_un ?_ | with_reducible refine' w_tup ?_ | with_reducible refine' w_lst ?_ | with_reducible refine' w_callK ?_ | with_reducible refine' w_callX ?_ | with_reducible refine' w_isi2 ?_ | with_reducible refine' w_get1 ?_ | with_reducible refine' w_get2 ?_ | with_reducible refine' w_rng1 ?_
  | with_reducible refine' v_add ?_ | with_reducible refine' v_intB ?_ | with_reducible refine' v_neg ?_ | with_reducible refine' v_eqS ?_ | with_reducible refine' v_eqI ?_ | with_reducible refine' v_eqB ?_ | with_reducible refine' v_eqN ?_ | with_reducible refine' v_is ?_ | with_reducible refine' v_intI ?_ | with_reducible refine' v_intBl ?_ | with_reducible refine' v_abs ?_
  | with_reducible refine' v_max2 ?_ | with_reducible refine' v_min2 ?_ | with_reducible refine' v_lenT ?_ | with_reducible refine' v_lenF ?_ | with_reducible refine' v_lenC ?_ | with_reducible refine' v_slT ?_ | with_reducible refine' v_slC ?_ | with_reducible refine' v_ipA ?_ | with_reducible refine' v_ipS ?_ | with_reducible refine' v_mtS ?_
  | with_reducible refine' iteT ?_ | with_reducible refine' iteF ?_
  | ((with_reducible refine' v_mul ?c ?_); case c => (unfold CMul; first | (apply Or.inr; constructor <;> decide) | (apply Or.inl; constructor <;> decide) | (apply Or.inl; constructor <;> omega) | (apply Or.inr; constructor <;> omega)))
  | ((with_reducible refine' v_int ?c ?_); case c => first | exact trivial | (show CPos _ _; first | decide | (show (0:Int) < _; omega)) | (show CDiv _ _; constructor <;> omega) | (show CPow _ _; refine ⟨?_, ?_, ?_⟩ <;> decide))
  | ((with_reducible refine' v_ixT ?c ?_); case c => rfl)
  | ((with_reducible refine' v_ixL ?e ?c ?_); (case e => walk_at "g"); (case c => rfl))
  | ((with_reducible refine' v_lenL ?e ?_); (case e => walk_at "g")) | ((with_reducible refine' v_tupL ?e ?_); (case e => walk_at "g"))
  | ((with_reducible refine' v_gt ?e ?c ?_); (case e => walk_at "g"); (case c => rfl)) | ((with_reducible refine' v_st ?e ?c ?_); (case e => walk_at "g"); (case c => rfl))
  | with_reducible refine' w_for ?_ | with_reducible refine' w_seqI ?_ | with_reducible refine' w_gn ?_ | with_reducible refine' w_gt ?_ | with_reducible refine' w_gc ?_ | with_reducible refine' w_g0 ?_ | with_reducible refine' v_itT ?_ | with_reducible refine' v_itF ?_ | with_reducible refine' v_itC ?_
  | ((with_reducible refine' v_itL ?e ?_); (case e => walk_at "g"))
  | ((with_reducible refine' v_lstL ?e ?_); (case e => walk_at "g")) | ((with_reducible refine' v_addL ?e ?e2 ?l ?_); (case e => walk_at "g"); (case e2 => walk_at "g"); (case l => (rw [sizeLine_eq]; simp only [List.length_cons, List.length_nil]; omega))) | ((with_reducible refine' v_slL ?e ?_); (case e => walk_at "g")) | ((with_reducible refine' v_mtL ?e ?_); (case e => walk_at "g"))
  | dsimp only
  | with_reducible refine' w_par ?_ | ((with_reducible refine' v_addT ?l ?_); (case l => (rw [sizeLine_eq]; simp only [List.length_cons, List.length_nil]; omega))))
theorem inD_strs {g : G} {y : D} {xs : List Str} {z : Str} {neg : Bool} {Q : D → G → Prop} (e : seqOf g y = some (xs.map D.str)) (h : Q (.bl (neg ^^ decide (z ∈ xs))) g) : inD neg (.str z) y g Q := by
  have fl : ∀ l : List Str, flatsD (l.map D.str) = some (l.map V.str) := by
    intro l
    induction l with
    | nil => rfl
    | cons a l ih => rw [List.map_cons]; unfold flatsD; rw [ih]; rfl
  have iv : ∀ l : List Str, inV (.str z) (l.map V.str) = decide (z ∈ l) := by
    intro l
    induction l with
    | nil => simp [inV]
    | cons a l ih =>
      rw [List.map_cons]
      unfold inV at ih ⊢
      rw [List.any_cons, ih]
      have e1 : eqV (.str a) (.str z) = decide (z = a) := by
        show (a == z) = decide (z = a)
        by_cases hz : z = a
        · subst hz; simp
        · rw [decide_eq_false hz]; exact beq_eq_false_iff_ne.mpr (Ne.symm hz)
      rw [e1]
      by_cases hz : z = a
      · rw [decide_eq_true hz, Bool.true_or, decide_eq_true (by rw [hz]; exact List.mem_cons_self ..)]
      · rw [decide_eq_false hz, Bool.false_or]
        congr 1
        apply propext
        constructor
        · exact List.mem_cons_of_mem _
        · intro h; exact (List.mem_cons.mp h).resolve_left hz
  exact ⟨_, .str z, _, e, rfl, fl xs, by rw [iv]; exact h⟩
/-- _law_years -/
def r_years : DN := fun ds g Q => ∃ st cl h, ∃ xs : List Str, ds = [.obj st, .obj h] ∧ h ≠ st ∧ g h = some (.lst (xs.map D.str)) ∧ xs ≠ [] ∧ xs.length ≤ 100 ∧ St g st cl ∧ ∀ t g', Th.Ok t → St g' st cl → Fr st g g' → Q t.d g'
theorem w_years {st cl h : Addr} {xs : List Str} {g : G} {Q : D → G → Prop} (n : h ≠ st) (e : g h = some (.lst (xs.map D.str))) (l0 : xs ≠ []) (l : xs.length ≤ 100) (s : St g st cl) (q : ∀ t g', Th.Ok t → St g' st cl → Fr st g g' → Q t.d g') : r_years [.obj st, .obj h] g Q := ⟨st, cl, h, xs, rfl, n, e, l0, l, s, q⟩
theorem pick_ints {st cl : Addr} {ns : List Int} {g : G} {p : Addr} {Q : D → G → Prop} (h0 : ns ≠ []) (h1 : ns.length ≤ 1000) (s : St g st cl) (hp : g p = none) (h : ∀ n g', n ∈ ns → St g' st cl → Fr st g g' → Q (.int n) g') : r_pick [.obj st, .obj p] (gup g p (.lst (ns.map D.int))) Q := by
  refine w_pick (xs := ns.map D.int) (by simp only [seqOf, lstOf, gup_same]) (by intro s h; cases h) (by simpa using h0) (by rw [List.length_map]; exact h1) (s.kp (Kp.new hp)) (fun g' f => by simp only [seqOf, lstOf, f _ _ (s.ne hp) gup_same]) fun x g' hx s' f' => ?_
  obtain ⟨n, hn, rfl⟩ := List.mem_map.mp hx
  exact h n g' hn s' ((Fr.kp (Kp.new hp)).trans f')
theorem p_years (ds : List D) (g : G) (Q : D → G → Prop) (h : r_years ds g Q) : t__law_years r_pick r_lot r_take { nx := fun _ g' => Q .non g', rt := Q } (dstart N__law_years.length ds) g := by
  obtain ⟨st, cl, h, xs, rfl, n, e, l0, l, s, hQ⟩ := h
  show t__law_years r_pick r_lot r_take { nx := fun _ g' => Q .non g', rt := Q } [some (.obj st), some (.obj h), none, none, none, none, none, none, none, none, none] g
  unfold t__law_years
  refine w_seq ?_
  repeat walk_at "d"
  intro p1 hp1
  repeat walk_at "d"
  refine pick_ints (ns := [0, 10, 100]) (by simp) (by simp) s hp1 fun step g1 hs1 s1 f1 => ?_
  repeat walk_at "d"
  intro p2 hp2
  repeat walk_at "d"
  refine pick_ints (ns := [0, 5, 150]) (by simp) (by simp) s1 hp2 fun wide g2 hs2 s2 f2 => ?_
  have e2 := (f1.trans f2) _ _ n e
  repeat walk_at "d"
  refine w_lot (xs := xs) (by simp only [seqOf, lstOf, e2]) (by intro s h; cases h) l0 l s2 (fun g' f => by simp only [seqOf, lstOf, f _ _ n e2]) fun lot g3 q0 q1 q2 s3 f3 => ?_
  have e3 := f3 _ _ n e2
  repeat walk_at "d"
  refine w_lc ?_
  repeat walk_at "d"
  rw [List.length_map]
  have hlen : (rangeD 0 (xs.length : Int).toNat).length = xs.length := by simp [rangeD]
  refine ⟨_, rfl, by constructor <;> omega, by rw [hlen, sizeLine_eq]; omega, fun i acc g' => g' = g3 ∧ ∃ ns : List Int, acc = ns.map D.int ∧ ns.length ≤ i ∧ ((∃ j s, j < i ∧ xs[j]? = some s ∧ s ∈ lot) → ns ≠ []), ?_, fun _ _ _ _ => trivial, ?_, ?_⟩
  · exact ⟨rfl, [], rfl, Nat.le_refl _, fun ⟨j, s, hj, _⟩ => by omega⟩
  · rintro i x acc g' hx ⟨rfl, ns, rfl, l1, o1⟩
    obtain ⟨hi, rfl⟩ := rangeD_get hx
    have hi' : i < xs.length := by omega
    repeat walk_at "d"
    obtain ⟨x1, a1, a2, a3⟩ := atI_get (xs := xs.map D.str) (i := 0 + (i : Int)) (by omega) (by rw [List.length_map]; omega)
    refine v_ixL e3 a1 ?_
    obtain ⟨z, hz, rfl⟩ := List.mem_map.mp a2
    have hz2 : xs[i]? = some z := by
      rw [show (0 + (i : Int)).toNat = i by omega, List.getElem?_map] at a3
      cases q : xs[i]? with
      | none => rw [q] at a3; cases a3
      | some w => rw [q] at a3; cases a3; rfl
    repeat walk_at "d"
    refine inD_strs (xs := lot) rfl ?_
    repeat walk_at "d"
    refine w_ite (fun hc => ?_) (fun hc => ?_)
    · repeat walk_at "d"
      exact ⟨ns ++ [0 + (i : Int)], by simp, by simp; omega, fun _ => by simp⟩
    · refine ⟨rfl, ns, rfl, by omega, fun ⟨j, s, hj, ej, es⟩ => o1 ⟨j, s, ?_, ej, es⟩⟩
      rcases Nat.lt_or_ge j i with h | h
      · exact h
      · have : j = i := by omega
        subst this
        rw [hz2] at ej
        cases ej
        simp at hc
        exact absurd es hc
  · rintro acc g' p ⟨rfl, ns, rfl, l1, o1⟩ _ hp
    have hns : ns ≠ [] := by
      obtain ⟨s0, hs0⟩ := List.exists_mem_of_ne_nil _ q0
      obtain ⟨j, hj, ej⟩ := List.mem_iff_getElem.mp (q2 s0 hs0)
      exact o1 ⟨j, s0, by rw [hlen]; exact hj, by rw [List.getElem?_eq_getElem hj, ej], hs0⟩
    repeat walk_at "d"
    intro p4 hp4
    repeat walk_at "d"
    have s4 := s3.kp (Kp.new (o := .lst (ns.map D.int)) hp)
    refine pick_ints (ns := [0, 0, 0, -5000]) (by simp) (by simp) s4 hp4 fun base g5 hs5 s5 f5 => ?_
    have ep : g5 p = some (.lst (ns.map D.int)) := f5 _ _ (s3.ne hp) gup_same
    refine w_seq ?_
    have hlp : 0 < ns.length := List.length_pos_iff.mpr hns
    have hstep : -(2 ^ 64) < step ∧ step < 2 ^ 64 := by
      simp at hs1
      rcases hs1 with rfl | rfl | rfl <;> constructor <;> decide
    repeat walk_at "d"
    obtain ⟨x1, a1, a2, _⟩ := atI_get (xs := ns.map D.int) (i := 0) (by omega) (by rw [List.length_map]; omega)
    refine v_ixL ep a1 ?_
    obtain ⟨n1, _, rfl⟩ := List.mem_map.mp a2
    refine v_mul (.inl hstep) ?_
    repeat walk_at "d"
    obtain ⟨x2, a3, a4⟩ : ∃ x, atI (ns.map D.int) (-1) = some x ∧ x ∈ ns.map D.int := by
      have : ns.length - 1 < (ns.map D.int).length := by rw [List.length_map]; omega
      refine ⟨(ns.map D.int)[ns.length - 1], ?_, List.getElem_mem _⟩
      unfold atI ixN
      rw [if_neg (by decide), if_pos (by rw [List.length_map]; omega)]
      show (ns.map D.int)[((-1 : Int) + ((ns.map D.int).length : Nat)).toNat]? = _
      rw [show ((-1 : Int) + ((ns.map D.int).length : Nat)).toNat = ns.length - 1 by rw [List.length_map]; omega]
      exact List.getElem?_eq_getElem this
    refine v_ixL ep a3 ?_
    obtain ⟨n2, _, rfl⟩ := List.mem_map.mp a4
    refine v_mul (.inl hstep) ?_
    repeat walk_at "d"
    refine w_take s5 (by decide) (by decide) fun way g6 _ _ s6 f6 => ?_
    have ff : Fr st g g6 := (f1.trans f2).trans (f3.trans ((Fr.kp (Kp.new hp)).trans (f5.trans f6)))
    repeat walk_at "d"
    refine w_ite (fun hc => ?_) (fun hc => ?_)
    · repeat walk_at "d"
      refine w_ite (fun hd => ?_) (fun hd => ?_)
      · repeat walk_at "d"
        exact hQ (.years lot none none) _ (show lot.length ≤ 100 by omega) s6 ff
      · repeat walk_at "d"
        exact hQ (.years lot none (some _)) _ (show lot.length ≤ 100 by omega) s6 ff
    · repeat walk_at "d"
      refine w_ite (fun hd => ?_) (fun hd => ?_)
      · repeat walk_at "d"
        exact hQ (.years lot (some _) none) _ (show lot.length ≤ 100 by omega) s6 ff
      · repeat walk_at "d"
        exact hQ (.years lot (some _) (some _)) _ (show lot.length ≤ 100 by omega) s6 ff
end L2.DL

namespace L2.DL
open PySem PySem.Spec PyProof.Rows
local macro_rules | `(tactic| walk_at "g") => `(tactic| first | assumption | exact gup_same | exact gup_old (by assumption) (by assumption) | exact gup_old (by assumption) (gup_old (by assumption) (by assumption)) | exact gup_old (by assumption) gup_same | exact gup_old (by assumption) (gup_old (by assumption) gup_same) | ((repeat (rw [gup_ne (by first | assumption | (apply Ne.symm; assumption))])); first | exact gup_same | assumption) | rfl)
local macro_rules | `(tactic| walk_at "b") => `(tactic| simp only [Bool.false_xor, Bool.true_xor, decide_eq_true_eq, Bool.not_eq_true', decide_eq_false_iff_not, Bool.and_eq_true, Bool.or_eq_true])
local macro_rules | `(tactic| walk_at "d") => `(tactic| first
  | with_reducible refine' w_seq1 ?_ | with_reducible refine' w_seq2 ?_ | with_reducible refine' w_seq3 ?_ | with_reducible refine' w_seq4 ?_ | with_reducible refine' w_seq5 ?_ | with_reducible refine' w_op ?_ | ((with_reducible refine' w_var ?e ?_); case e => rfl) | with_reducible refine' w_c ?_ | with_reducible refine' w_cons ?_ | with_reducible refine' w_nil ?_
  | with_reducible refine' w_rfl ?_ | ((with_reducible refine' w_len ?e ?_); case e => rfl) | ((with_reducible refine' w_le ?e ?_); case e => (rw [sizeLine_eq]; simp only [List.length_cons, List.length_nil]; omega)) | with_reducible refine' w_set ?_ | with_reducible refine' w_ret ?_ | with_reducible refine' w_if ?_ | with_reducible refine' w_cb ?_ | with_reducible refine' w_call ?_ | with_reducible refine' w_B ?_ | with_reducible refine' w_bl ?_
  | with_reducible refine' w_and ?_ | with_reducible refine' w_or ?_ | with_reducible refine' w_not ?_ | with_reducible refine' w_ifE ?_ | with_reducible refine' w_yes ?_ | with_reducible refine' w_sl ?_ | with_reducible refine' w_nop ?_ | with_reducible refine' w_p ?_ | with_reducible refine' w_in ?_
  | with_reducible refine' w_store ?_ | with_reducible refine' w_augS ?_ | ((with_reducible refine' w_aug ?e ?_); case e => rfl) | with_reducible refine' w_m ?_ | with_reducible refine' w_andV ?_ | with_reducible refine' w_orV ?_ | with_reducible refine' w_notV ?_ | with_reducible refine' w_chain ?_
  | with_reducible refine' w_drop ?_ | with_reducible refine' w_retN ?_ | with_reducible refine' w_nx ?_ | with_reducible refine' w_un ?_ | with_reducible refine' w_tup ?_ | with_reducible refine' w_lst ?_ | with_reducible refine' w_callK ?_ | with_reducible refine' w_callX ?_ | with_reducible refine' w_isi2 ?_ | with_reducible refine' w_get1 ?_ | with_reducible refine' w_get2 ?_ | with_reducible refine' w_rng1 ?_
  | with_reducible refine' v_add ?_ | with_reducible refine' v_intB ?_ | with_reducible refine' v_neg ?_ | with_reducible refine' v_eqS ?_ | with_reducible refine' v_eqI ?_ | with_reducible refine' v_eqB ?_ | with_reducible refine' v_eqN ?_ | with_reducible refine' v_is ?_ | with_reducible refine' v_intI ?_ | with_reducible refine' v_intBl ?_ | with_reducible refine' v_abs ?_
  | with_reducible refine' v_max2 ?_ | with_reducible refine' v_min2 ?_ | with_reducible refine' v_lenT ?_ | with_reducible refine' v_lenF ?_ | with_reducible refine' v_lenC ?_ | with_reducible refine' v_slT ?_ | with_reducible refine' v_slC ?_ | with_reducible refine' v_ipA ?_ | with_reducible refine' v_ipS ?_ | with_reducible refine' v_mtS ?_
  | with_reducible refine' iteT ?_ | with_reducible refine' iteF ?_
  | ((with_reducible refine' v_mul ?c ?_); case c => (unfold CMul; first | (apply Or.inr; constructor <;> decide) | (apply Or.inl; constructor <;> decide) | (apply Or.inl; constructor <;> omega) | (apply Or.inr; constructor <;> omega)))
  | ((with_reducible refine' v_int ?c ?_); case c => first | exact trivial | (show CPos _ _; first | decide | (show (0:Int) < _; omega)) | (show CDiv _ _; constructor <;> omega) | (show CPow _ _; refine ⟨?_, ?_, ?_⟩ <;> decide))
  | ((with_reducible refine' v_ixT ?c ?_); case c => rfl)
  | ((with_reducible refine' v_ixL ?e ?c ?_); (case e => walk_at "g"); (case c => rfl))
  | ((with_reducible refine' v_lenL ?e ?_); (case e => walk_at "g")) | ((with_reducible refine' v_tupL ?e ?_); (case e => walk_at "g"))
  | ((with_reducible refine' v_gt ?e ?c ?_); (case e => walk_at "g"); (case c => rfl)) | ((with_reducible refine' v_st ?e ?c ?_); (case e => walk_at "g"); (case c => rfl))
  | with_reducible refine' w_for ?_ | with_reducible refine' w_seqI ?_ | with_reducible refine' w_gn ?_ | with_reducible refine' w_gt ?_ | with_reducible refine' w_gc ?_ | with_reducible refine' w_g0 ?_ | with_reducible refine' v_itT ?_ | with_reducible refine' v_itF ?_ | with_reducible refine' v_itC ?_
  | ((with_reducible refine' v_itL ?e ?_); (case e => walk_at "g"))
  | ((with_reducible refine' v_lstL ?e ?_); (case e => walk_at "g")) | ((with_reducible refine' v_addL ?e ?e2 ?l ?_); (case e => walk_at "g"); (case e2 => walk_at "g"); (case l => (rw [sizeLine_eq]; simp only [List.length_cons, List.length_nil]; omega))) | ((with_reducible refine' v_slL ?e ?_); (case e => walk_at "g")) | ((with_reducible refine' v_mtL ?e ?_); (case e => walk_at "g"))
  | dsimp only
  | with_reducible refine' w_par ?_ | ((with_reducible refine' v_addT ?l ?_); (case l => (rw [sizeLine_eq]; simp only [List.length_cons, List.length_nil]; omega))))
/-- _law_thing -/
def r_thing : DN := fun ds g Q => ∃ st cl h, ∃ xs : List Str, ds = [.obj st, .obj h] ∧ h ≠ st ∧ g h = some (.lst (xs.map D.str)) ∧ xs ≠ [] ∧ xs.length ≤ 100 ∧ St g st cl ∧ ∀ t g', Th.Ok t → St g' st cl → Fr st g g' → Q t.d g'
theorem w_thing {st cl h : Addr} {xs : List Str} {g : G} {Q : D → G → Prop} (n : h ≠ st) (e : g h = some (.lst (xs.map D.str))) (l0 : xs ≠ []) (l : xs.length ≤ 100) (s : St g st cl) (q : ∀ t g', Th.Ok t → St g' st cl → Fr st g g' → Q t.d g') : r_thing [.obj st, .obj h] g Q := ⟨st, cl, h, xs, rfl, n, e, l0, l, s, q⟩
theorem lot_obj {st cl p : Addr} {l : List D} {xs : List Str} {g : G} {Q : D → G → Prop} (hl : l = xs.map D.str) (h0 : xs ≠ []) (h1 : xs.length ≤ 100) (s : St g st cl) (hp : g p = none) (h : ∀ ys g', ys.length ≤ 100 → St g' st cl → Fr st g g' → Q (sD ys) g') : r_lot [.obj st, .obj p] (gup g p (.lst l)) Q := by
  subst hl
  refine w_lot (xs := xs) (by simp only [seqOf, lstOf, gup_same]) (by intro s h; cases h) h0 h1 (s.kp (Kp.new hp)) (fun g' f => by simp only [seqOf, lstOf, f _ _ (s.ne hp) gup_same]) fun ys g' _ q1 _ s' f' => ?_
  exact h ys g' (by omega) s' ((Fr.kp (Kp.new hp)).trans f')
theorem p_thing (ds : List D) (g : G) (Q : D → G → Prop) (h : r_thing ds g Q) : t__law_thing r_take r_lot r_years r_series { nx := fun _ g' => Q .non g', rt := Q } (dstart N__law_thing.length ds) g := by
  obtain ⟨st, cl, h, xs, rfl, n, e, l0, l, s, hQ⟩ := h
  show t__law_thing r_take r_lot r_years r_series { nx := fun _ g' => Q .non g', rt := Q } [some (.obj st), some (.obj h), none, none, none] g
  have hpos : 0 < xs.length := List.length_pos_iff.mpr l0
  unfold t__law_thing
  -- the kind
  have main : ∀ (kind : Int) (g1 : G), (kind < 2 → 1 < xs.length) → St g1 st cl → Fr st g g1 → (dSeq (dIf (dB (dOp ltD (dVar 2) (dC (.int 2)))) (dSeq (dSet 3 (dOp addD (dC (.int 1)) (dCall 2 r_take (dCons (dVar 0) (dCons (dOp subD (dCB lenN (dCons (dVar 1) dNil)) (dC (.int 1))) dNil)))))
  (dRet (dTup (dCons (dC (.str ("elder" : Str))) (dCons (dCall 2 r_lot (dCons (dVar 0) (dCons (dSl (dVar 1) dNoP (dP (dVar 3))) dNil))) (dCons (dCall 2 r_lot (dCons (dVar 0) (dCons (dSl (dVar 1) (dP (dVar 3)) dNoP) dNil))) dNil)))))) dNext)
  (dSeq (dIf (dB (dOp (eqD false) (dVar 2) (dC (.int 5)))) (dRet (dCall 2 r_years (dCons (dVar 0) (dCons (dVar 1) dNil)))) dNext)
  (dSeq (dIf (dB (dOp (eqD false) (dVar 2) (dC (.int 2)))) (dRet (dCall 3 r_series (dCons (dVar 0) (dCons (dVar 1) (dCons (dOp addD (dC (.int 1)) (dCall 2 r_take (dCons (dVar 0) (dCons (dC (.int 2)) dNil)))) dNil))))) dNext)
  (dSeq (dSet 4 (dCall 2 r_take (dCons (dVar 0) (dCons (dCB lenN (dCons (dVar 1) dNil)) dNil))))
  (dRet (dTup (dCons (dC (.str ("ware" : Str))) (dCons (dCB tupN (dCons (dCB sortN (dCons (dSl (dVar 1) (dP (dVar 4)) (dP (dOp addD (dOp addD (dVar 4) (dC (.int 1))) (dCall 2 r_take (dCons (dVar 0) (dCons (dOp subD (dCB lenN (dCons (dVar 1) dNil)) (dVar 4)) dNil)))))) dNil)) dNil)) dNil))))))))
      { nx := fun _ g' => Q .non g', rt := Q } [some (.obj st), some (.obj h), some (.int kind), none, none] g1 := by
    intro kind g1 hk s1 f1
    have e1 := f1 _ _ n e
    refine w_seq ?_
    repeat walk_at "d"
    refine w_ite (fun hc => ?_) (fun hc => ?_)
    · have hk' := hk (by simpa using hc)
      repeat walk_at "d"
      refine w_take s1 (by rw [List.length_map]; omega) (by rw [List.length_map]; omega) fun v g2 v0 v1 s2 f2 => ?_
      have e2 := f2 _ _ n e1
      rw [List.length_map] at v1
      repeat walk_at "d"
      intro p1 hp1
      repeat walk_at "d"
      refine lot_obj (xs := xs.take (1 + v).toNat) ?_ ?_ ?_ s2 hp1 fun as g3 la s3 f3 => ?_
      · rw [cut_left (by omega) (by rw [List.length_map]; omega), List.map_take]
      · intro hnil
        have := congrArg List.length hnil
        rw [List.length_take, List.length_nil] at this
        omega
      · rw [List.length_take]; omega
      have e3 := f3 _ _ n e2
      repeat walk_at "d"
      intro p2 hp2
      repeat walk_at "d"
      refine lot_obj (xs := xs.drop (1 + v).toNat) ?_ ?_ ?_ s3 hp2 fun bs g4 lb s4 f4 => ?_
      · rw [cut_right (by omega) (by rw [List.length_map]; omega), List.map_drop]
      · intro hnil
        have := congrArg List.length hnil
        rw [List.length_drop, List.length_nil] at this
        omega
      · rw [List.length_drop]; omega
      repeat walk_at "d"
      exact hQ (.elder as bs) _ ⟨la, lb⟩ s4 (f1.trans (f2.trans (f3.trans f4)))
    · repeat walk_at "d"
      refine w_seq ?_
      repeat walk_at "d"
      refine w_ite (fun hc2 => ?_) (fun hc2 => ?_)
      · repeat walk_at "d"
        exact w_years n e1 l0 l s1 fun t g2 ok s2 f2 => hQ t g2 ok s2 (f1.trans f2)
      · repeat walk_at "d"
        refine w_seq ?_
        repeat walk_at "d"
        refine w_ite (fun hc3 => ?_) (fun hc3 => ?_)
        · repeat walk_at "d"
          refine w_take s1 (by decide) (by decide) fun v g2 v0 v1 s2 f2 => ?_
          repeat walk_at "d"
          exact w_series n (f2 _ _ n e1) l (by omega) (by omega) s2 fun t g3 ok s3 f3 => hQ t g3 ok s3 (f1.trans (f2.trans f3))
        · repeat walk_at "d"
          refine w_take s1 (by rw [List.length_map]; omega) (by rw [List.length_map]; omega) fun v g2 v0 v1 s2 f2 => ?_
          have e2 := f2 _ _ n e1
          rw [List.length_map] at v1
          repeat walk_at "d"
          refine w_take s2 (by rw [List.length_map]; omega) (by rw [List.length_map]; omega) fun v2 g3 _ _ s3 f3 => ?_
          have e3 := f3 _ _ n e2
          repeat walk_at "d"
          intro p1 hp1
          repeat walk_at "d"
          refine str_sort l hp1 fun ys g4 p2 k4 e4 l4 _ => ?_
          repeat walk_at "d"
          exact hQ (.ware ys) _ l4 (s3.kp k4) (f1.trans (f2.trans (f3.trans (Fr.kp k4))))
  repeat walk_at "d"
  refine w_ite (fun hc => ?_) (fun hc => ?_)
  · rw [List.length_map] at hc
    have hc : 1 < xs.length := by have := of_decide_eq_true hc; omega
    repeat walk_at "d"
    refine w_take s (by decide) (by decide) fun v g2 v0 v1 s2 f2 => ?_
    exact main v g2 (fun _ => hc) s2 f2
  · repeat walk_at "d"
    refine w_take s (by decide) (by decide) fun v g2 v0 v1 s2 f2 => ?_
    refine v_add ?_
    exact main (4 + v) g2 (fun h => by omega) s2 f2
def dosD (ns : List Str) (ts : List Th) : D := .tup [.fin (ns.map D.str), .tup (ts.map Th.d)]
/-- _law_dossier -/
def r_dos : DN := fun ds g Q => ∃ st cl m k, ds = [.obj st, .int m, .int k] ∧ 0 ≤ m ∧ m ≤ 40 ∧ 0 ≤ k ∧ k ≤ 10 ∧ St g st cl ∧ ∀ (ns : List Str) (ts : List Th) g', ns.length ≤ 40 → (∀ s ∈ ns, Nm s) → ts.length ≤ 10 → (∀ t ∈ ts, t.Ok) → St g' st cl → Fr st g g' → Q (dosD ns ts) g'
theorem w_dos {st cl : Addr} {m k : Int} {g : G} {Q : D → G → Prop} (h0 : 0 ≤ m) (h1 : m ≤ 40) (h2 : 0 ≤ k) (h3 : k ≤ 10) (s : St g st cl) (h : ∀ (ns : List Str) (ts : List Th) g', ns.length ≤ 40 → (∀ s ∈ ns, Nm s) → ts.length ≤ 10 → (∀ t ∈ ts, t.Ok) → St g' st cl → Fr st g g' → Q (dosD ns ts) g') : r_dos [.obj st, .int m, .int k] g Q := ⟨st, cl, m, k, rfl, h0, h1, h2, h3, s, h⟩
theorem p_dos (ds : List D) (g : G) (Q : D → G → Prop) (h : r_dos ds g Q) : t__law_dossier r_names r_shuf r_take r_thing { nx := fun _ g' => Q .non g', rt := Q } (dstart N__law_dossier.length ds) g := by
  obtain ⟨st, cl, m, k, rfl, h0, h1, h2, h3, s, hQ⟩ := h
  show t__law_dossier r_names r_shuf r_take r_thing { nx := fun _ g' => Q .non g', rt := Q } [some (.obj st), some (.int m), some (.int k), none, none, none, none, none, none] g
  unfold t__law_dossier
  repeat walk_at "d"
  refine w_names h0 h1 s fun ns g1 hn hs s1 f1 => ?_
  repeat walk_at "d"
  refine w_shuf (xs := ns.map D.str) rfl (by intro s h; cases h) (by rw [List.length_map]; omega) s1 fun p1 y1 g2 hp1 e1 l1 m1 s2 f2 => ?_
  obtain ⟨hid, rfl, q1, _⟩ := strs_of m1
  repeat walk_at "d"
  refine w_shuf (xs := ns.map D.str) rfl (by intro s h; cases h) (by rw [List.length_map]; omega) s2 fun p2 y2 g3 hp2 e2 l2 m2 s3 f3 => ?_
  obtain ⟨oth, rfl, q2, _⟩ := strs_of m2
  have e1' := f3 _ _ (s1.ne hp1) e1
  repeat walk_at "d"
  refine w_take s3 (by decide) (by decide) fun mx g4 _ _ s4 f4 => ?_
  repeat walk_at "d"
  intro pf hpf
  have npf : g pf = none := fresh_of (f1.trans (f2.trans (f3.trans f4))) s4 hpf
  have h4a : g4 p1 = some (.lst (hid.map D.str)) := f4 _ _ (s1.ne hp1) e1'
  have h4b : g4 p2 = some (.lst (oth.map D.str)) := f4 _ _ (s2.ne hp2) e2
  rw [List.length_map, List.length_map] at l1 l2
  have nf1 : p1 ≠ pf := fun z => by subst z; rw [h4a] at hpf; cases hpf
  have nf2 : p2 ≠ pf := fun z => by subst z; rw [h4b] at hpf; cases hpf
  repeat walk_at "d"
  refine w_seq ?_
  have loop : ∀ cnt : Int, 0 ≤ cnt → cnt ≤ 10 → (0 < cnt → 0 < ns.length) → ∃ P : Nat → Rho → G → Prop, P 0 [some (.obj st), some (.int m), some (.int k), some (.fin (ns.map D.str)), some (.obj p1), some (.obj p2), some (.bl (false ^^ decide (mx = 0))), some (.obj pf), none] (gup g4 pf (.lst [])) ∧ (∀ i ρ g, P i ρ g → True) ∧
      (∀ i x ρ g, (rangeD 0 cnt.toNat)[i]? = some x → P i ρ g → dgName 8 x ρ g fun ρ2 g2 => (dDrop (dM "list" appM (dVar 7) (dCons (dCall 2 r_thing (dCons (dVar 0) (dCons (dIfE (dAnd (dB (dVar 6)) (dB (dOp (eqD false) (dCall 2 r_take (dCons (dVar 0) (dCons (dC (.int 2)) dNil))) (dC (.int 0))))) (dVar 5) (dVar 4)) dNil))) dNil))) { nx := P (i + 1), rt := Q, ct := P (i + 1), bk := (dRet (dTup (dCons (dVar 3) (dCons (dCB tupN (dCons (dVar 7) dNil)) dNil)))) { nx := fun _ g' => Q .non g', rt := Q } } ρ2 g2) ∧
      ∀ ρ g, P (rangeD 0 cnt.toNat).length ρ g → (dRet (dTup (dCons (dVar 3) (dCons (dCB tupN (dCons (dVar 7) dNil)) dNil)))) { nx := fun _ g' => Q .non g', rt := Q } ρ g := by
    intro cnt c0 c1 c2
    refine ⟨fun i ρ' g' => ∃ (ts : List Th) (x8 : Option D), ρ' = [some (.obj st), some (.int m), some (.int k), some (.fin (ns.map D.str)), some (.obj p1), some (.obj p2), some (.bl (false ^^ decide (mx = 0))), some (.obj pf), x8] ∧ g' pf = some (.lst (ts.map Th.d)) ∧ ts.length = i ∧ (∀ t ∈ ts, t.Ok) ∧ g' p1 = some (.lst (hid.map D.str)) ∧ g' p2 = some (.lst (oth.map D.str)) ∧ St g' st cl ∧ Fr st g g', ?_, fun _ _ _ _ => trivial, ?_, ?_⟩
    · exact ⟨[], _, rfl, gup_same, rfl, (fun _ h => by cases h), gup_old hpf h4a, gup_old hpf h4b, s4.kp (Kp.new hpf), (f1.trans (f2.trans (f3.trans f4))).trans (Fr.kp (Kp.new hpf))⟩
    · rintro i x ρ' g' hx ⟨ts, x8, rfl, b1, b2, b3, b4, b5, s5, f5⟩
      obtain ⟨hi, rfl⟩ := rangeD_get hx
      have hn0 : 0 < ns.length := c2 (by omega)
      have fin : ∀ (pp : Addr) (ls : List Str) (g6 : G), pp ≠ st → g6 pp = some (.lst (ls.map D.str)) → ls.length = ns.length → g6 pf = some (.lst (ts.map Th.d)) → g6 p1 = some (.lst (hid.map D.str)) → g6 p2 = some (.lst (oth.map D.str)) → St g6 st cl → Fr st g g6 →
          r_thing [.obj st, .obj pp] g6 fun x g7 => appM (.obj pf) [x] g7 fun _ g8 => ∃ (ts2 : List Th) (x8 : Option D), [some (.obj st), some (.int m), some (.int k), some (.fin (ns.map D.str)), some (.obj p1), some (.obj p2), some (.bl (false ^^ decide (mx = 0))), some (.obj pf), some (.int (0 + (i : Int)))] = [some (.obj st), some (.int m), some (.int k), some (.fin (ns.map D.str)), some (.obj p1), some (.obj p2), some (.bl (false ^^ decide (mx = 0))), some (.obj pf), x8] ∧ g8 pf = some (.lst (ts2.map Th.d)) ∧ ts2.length = i + 1 ∧ (∀ t ∈ ts2, t.Ok) ∧ g8 p1 = some (.lst (hid.map D.str)) ∧ g8 p2 = some (.lst (oth.map D.str)) ∧ St g8 st cl ∧ Fr st g g8 := by
        intro pp ls g6 npp epp lpp a1 a2 a3 s6 f6
        refine w_thing npp epp (fun z => by rw [z] at lpp; simp at lpp; omega) (by omega) s6 fun t g7 ok s7 f7 => ?_
        refine v_app (f7 _ _ (s.ne npf) a1) (by rw [List.length_map, sizeLine_eq]; omega) ?_
        refine ⟨ts ++ [t], _, rfl, by rw [gup_same, List.map_append]; rfl, by simp [b2], fun w hw => ?_, by rw [gup_ne nf1]; exact f7 _ _ (s1.ne hp1) a2, by rw [gup_ne nf2]; exact f7 _ _ (s2.ne hp2) a3, s7.put (s.ne npf) (s.nc npf), (f6.trans f7).put npf⟩
        rcases List.mem_append.mp hw with hw | hw
        · exact b3 w hw
        · rw [List.mem_singleton.mp hw]; exact ok
      repeat walk_at "d"
      refine w_ite (fun hc => ?_) (fun hc => ?_)
      · repeat walk_at "d"
        refine w_take s5 (by decide) (by decide) fun v g6 _ _ s6 f6 => ?_
        repeat walk_at "d"
        refine w_ite (fun hd => ?_) (fun hd => ?_)
        · repeat walk_at "d"
          exact fin p2 oth g6 (s2.ne hp2) (f6 _ _ (s2.ne hp2) b5) l2 (f6 _ _ (s.ne npf) b1) (f6 _ _ (s1.ne hp1) b4) (f6 _ _ (s2.ne hp2) b5) s6 (f5.trans f6)
        · repeat walk_at "d"
          exact fin p1 hid g6 (s1.ne hp1) (f6 _ _ (s1.ne hp1) b4) l1 (f6 _ _ (s.ne npf) b1) (f6 _ _ (s1.ne hp1) b4) (f6 _ _ (s2.ne hp2) b5) s6 (f5.trans f6)
      · repeat walk_at "d"
        exact fin p1 hid g' (s1.ne hp1) b4 l1 b1 b4 b5 s5 f5
    · rintro ρ' g' ⟨ts, x8, rfl, b1, b2, b3, b4, b5, s5, f5⟩
      repeat walk_at "d"
      exact hQ ns ts _ (by omega) hs (by rw [b2]; simp [rangeD]; omega) b3 s5 f5
  repeat walk_at "d"
  refine w_ite (fun hc => ?_) (fun hc => ?_)
  · have hc : 0 < m := by simpa using hc
    repeat walk_at "d"
    exact ⟨_, rfl, by constructor <;> omega, loop k h2 h3 (fun _ => by omega)⟩
  · repeat walk_at "d"
    exact ⟨_, rfl, by constructor <;> decide, loop 0 (by decide) (by decide) (fun h => by omega)⟩
end L2.DL

namespace L2.DL
open PySem PySem.Spec PyProof.Rows
local macro_rules | `(tactic| walk_at "g") => `(tactic| first | assumption | exact gup_same | exact gup_old (by assumption) (by assumption) | exact gup_old (by assumption) (gup_old (by assumption) (by assumption)) | exact gup_old (by assumption) gup_same | exact gup_old (by assumption) (gup_old (by assumption) gup_same) | ((repeat (rw [gup_ne (by first | assumption | (apply Ne.symm; assumption))])); first | exact gup_same | assumption) | rfl)
local macro_rules | `(tactic| walk_at "b") => `(tactic| simp only [Bool.false_xor, Bool.true_xor, decide_eq_true_eq, Bool.not_eq_true', decide_eq_false_iff_not, Bool.and_eq_true, Bool.or_eq_true])
local macro_rules | `(tactic| walk_at "d") => `(tactic| first
  | with_reducible refine' w_seq1 ?_ | with_reducible refine' w_seq2 ?_ | with_reducible refine' w_seq3 ?_ | with_reducible refine' w_seq4 ?_ | with_reducible refine' w_seq5 ?_ | with_reducible refine' w_op ?_ | ((with_reducible refine' w_var ?e ?_); case e => rfl) | with_reducible refine' w_c ?_ | with_reducible refine' w_cons ?_ | with_reducible refine' w_nil ?_
  | with_reducible refine' w_rfl ?_ | ((with_reducible refine' w_len ?e ?_); case e => rfl) | ((with_reducible refine' w_le ?e ?_); case e => (rw [sizeLine_eq]; simp only [List.length_cons, List.length_nil]; omega)) | with_reducible refine' w_set ?_ | with_reducible refine' w_ret ?_ | with_reducible refine' w_if ?_ | with_reducible refine' w_cb ?_ | with_reducible refine' w_call ?_ | with_reducible refine' w_B ?_ | with_reducible refine' w_bl ?_
  | with_reducible refine' w_and ?_ | with_reducible refine' w_or ?_ | with_reducible refine' w_not ?_ | with_reducible refine' w_ifE ?_ | with_reducible refine' w_yes ?_ | with_reducible refine' w_sl ?_ | with_reducible refine' w_nop ?_ | with_reducible refine' w_p ?_ | with_reducible refine' w_in ?_
  | with_reducible refine' w_store ?_ | with_reducible refine' w_augS ?_ | ((with_reducible refine' w_aug ?e ?_); case e => rfl) | with_reducible refine' w_m ?_ | with_reducible refine' w_andV ?_ | with_reducible refine' w_orV ?_ | with_reducible refine' w_notV ?_ | with_reducible refine' w_chain ?_
  | with_reducible refine' w_drop ?_ | with_reducible refine' w_retN ?_ | with_reducible refine' w_nx ?_ | with_reducible refine' w_un ?_ | with_reducible refine' w_tup ?_ | with_reducible refine' w_lst ?_ | with_reducible refine' w_callK ?_ | with_reducible refine' w_callX ?_ | with_reducible refine' w_isi2 ?_ | with_reducible refine' w_get1 ?_ | with_reducible refine' w_get2 ?_ | with_reducible refine' w_rng1 ?_
  | with_reducible refine' v_add ?_ | with_reducible refine' v_intB ?_ | with_reducible refine' v_neg ?_ | with_reducible refine' v_eqS ?_ | with_reducible refine' v_eqI ?_ | with_reducible refine' v_eqB ?_ | with_reducible refine' v_eqN ?_ | with_reducible refine' v_is ?_ | with_reducible refine' v_intI ?_ | with_reducible refine' v_intBl ?_ | with_reducible refine' v_abs ?_
  | with_reducible refine' v_max2 ?_ | with_reducible refine' v_min2 ?_ | with_reducible refine' v_lenT ?_ | with_reducible refine' v_lenF ?_ | with_reducible refine' v_lenC ?_ | with_reducible refine' v_slT ?_ | with_reducible refine' v_slC ?_ | with_reducible refine' v_ipA ?_ | with_reducible refine' v_ipS ?_ | with_reducible refine' v_mtS ?_
  | with_reducible refine' iteT ?_ | with_reducible refine' iteF ?_
  | ((with_reducible refine' v_mul ?c ?_); case c => (unfold CMul; first | (apply Or.inr; constructor <;> decide) | (apply Or.inl; constructor <;> decide) | (apply Or.inl; constructor <;> omega) | (apply Or.inr; constructor <;> omega)))
  | ((with_reducible refine' v_int ?c ?_); case c => first | exact trivial | (show CPos _ _; first | decide | (show (0:Int) < _; omega)) | (show CDiv _ _; constructor <;> omega) | (show CPow _ _; refine ⟨?_, ?_, ?_⟩ <;> decide))
  | ((with_reducible refine' v_ixT ?c ?_); case c => rfl)
  | ((with_reducible refine' v_ixL ?e ?c ?_); (case e => walk_at "g"); (case c => rfl))
  | ((with_reducible refine' v_lenL ?e ?_); (case e => walk_at "g")) | ((with_reducible refine' v_tupL ?e ?_); (case e => walk_at "g"))
  | ((with_reducible refine' v_gt ?e ?c ?_); (case e => walk_at "g"); (case c => rfl)) | ((with_reducible refine' v_st ?e ?c ?_); (case e => walk_at "g"); (case c => rfl))
  | with_reducible refine' w_for ?_ | with_reducible refine' w_seqI ?_ | with_reducible refine' w_gn ?_ | with_reducible refine' w_gt ?_ | with_reducible refine' w_gc ?_ | with_reducible refine' w_g0 ?_ | with_reducible refine' v_itT ?_ | with_reducible refine' v_itF ?_ | with_reducible refine' v_itC ?_
  | ((with_reducible refine' v_itL ?e ?_); (case e => walk_at "g"))
  | ((with_reducible refine' v_lstL ?e ?_); (case e => walk_at "g")) | ((with_reducible refine' v_addL ?e ?e2 ?l ?_); (case e => walk_at "g"); (case e2 => walk_at "g"); (case l => (rw [sizeLine_eq]; simp only [List.length_cons, List.length_nil]; omega))) | ((with_reducible refine' v_slL ?e ?_); (case e => walk_at "g")) | ((with_reducible refine' v_mtL ?e ?_); (case e => walk_at "g"))
  | dsimp only
  | with_reducible refine' w_par ?_ | ((with_reducible refine' v_addT ?l ?_); (case l => (rw [sizeLine_eq]; simp only [List.length_cons, List.length_nil]; omega))))
/-- _law_free_series -/
def r_free : DN := fun ds g Q => ∃ st cl, ∃ xs : List Str, ds = [.obj st, .fin (xs.map D.str)] ∧ xs.length ≤ 100 ∧ St g st cl ∧ ∀ t g', Th.Ok t → St g' st cl → Fr st g g' → Q t.d g'
theorem w_free {st cl : Addr} {xs : List Str} {g : G} {Q : D → G → Prop} (l : xs.length ≤ 100) (s : St g st cl) (q : ∀ t g', Th.Ok t → St g' st cl → Fr st g g' → Q t.d g') : r_free [.obj st, .fin (xs.map D.str)] g Q := ⟨st, cl, xs, rfl, l, s, q⟩
theorem p_free (ds : List D) (g : G) (Q : D → G → Prop) (h : r_free ds g Q) : t__law_free_series r_pick r_shuf r_take { nx := fun _ g' => Q .non g', rt := Q } (dstart N__law_free_series.length ds) g := by
  obtain ⟨st, cl, xs, rfl, l, s, hQ⟩ := h
  show t__law_free_series r_pick r_shuf r_take { nx := fun _ g' => Q .non g', rt := Q } [some (.obj st), some (.fin (xs.map D.str)), none, none, none, none, none] g
  unfold t__law_free_series
  repeat walk_at "d"
  intro pr hpr
  repeat walk_at "d"
  refine w_seq ?_
  repeat walk_at "d"
  intro pk hpk
  repeat walk_at "d"
  have s1 := s.kp (Kp.new (o := .lst []) hpr)
  refine pick_ints (ns := [1, 2, 3, 5, 40]) (by simp) (by simp) s1 hpk fun cnt g2 hcnt s2 f2 => ?_
  have hc : 0 ≤ cnt ∧ cnt ≤ 40 := by
    simp at hcnt
    rcases hcnt with rfl | rfl | rfl | rfl | rfl <;> constructor <;> decide
  have epr : g2 pr = some (.lst []) := f2 _ _ (s.ne hpr) gup_same
  have f3 : Fr st g g2 := (Fr.kp (Kp.new hpr)).trans f2
  repeat walk_at "d"
  refine ⟨_, rfl, by constructor <;> omega, fun i ρ' g' => ∃ (rows : List (List (List Str))) (x3 x4 x5 x6 : Option D), ρ' = [some (.obj st), some (.fin (xs.map D.str)), some (.obj pr), x3, x4, x5, x6] ∧ g' pr = some (.lst (rows.map rowD)) ∧ rows.length = i ∧ (∀ row ∈ rows, row.length ≤ 200 ∧ ∀ b ∈ row, b.length ≤ 100) ∧ St g' st cl ∧ Fr st g g', ?_, fun _ _ _ _ => trivial, ?_, ?_⟩
  · exact ⟨[], _, _, _, _, rfl, epr, rfl, (fun _ h => by cases h), s2, f3⟩
  · rintro i x ρ' g' hx ⟨rows, x3, x4, x5, x6, rfl, e1, l1, m1, s4, f4⟩
    obtain ⟨hi, rfl⟩ := rangeD_get hx
    repeat walk_at "d"
    refine w_shuf (xs := xs.map D.str) rfl (by intro s h; cases h) (by rw [List.length_map]; omega) s4 fun ps ys g5 hps eps lps mps s5 f5 => ?_
    obtain ⟨sh, rfl, q1, _⟩ := strs_of mps
    rw [List.length_map, List.length_map] at lps
    repeat walk_at "d"
    refine w_take s5 (by decide) (by decide) fun v g6 v0 v1 s6 f6 => ?_
    have eps6 := f6 _ _ (s4.ne hps) eps
    have e6 : g6 pr = some (.lst (rows.map rowD)) := f6 _ _ (s.ne hpr) (f5 _ _ (s.ne hpr) e1)
    repeat walk_at "d"
    intro pm hpm
    obtain ⟨som, em, lm, _⟩ := strs_of (xs := sh) (l := cutD (sh.map D.str) none (some (2 + v))) fun z hz => cut_mem hz
    have lm' : som.length ≤ 100 := by
      have := @cut_len (sh.map D.str) none (some (2 + v))
      rw [List.length_map] at this
      omega
    rw [em]
    have s7 := s6.kp (Kp.new (o := .lst (som.map D.str)) hpm)
    have e7 : (gup g6 pm (.lst (som.map D.str))) pr = some (.lst (rows.map rowD)) := gup_old hpm e6
    have em7 : (gup g6 pm (.lst (som.map D.str))) pm = some (.lst (som.map D.str)) := gup_same
    have f7 : Fr st g (gup g6 pm (.lst (som.map D.str))) := f4.trans (f5.trans (f6.trans (Fr.kp (Kp.new hpm))))
    have npm : pm ≠ st := s6.ne hpm
    generalize gup g6 pm (.lst (som.map D.str)) = g7 at s7 e7 em7 f7
    repeat walk_at "d"
    intro p0 hp0
    have s8 := s7.kp (Kp.new (o := .lst [.int 0]) hp0)
    refine w_lc ?_
    refine w_rng2 ?_
    repeat walk_at "d"
    rw [List.length_map]
    have hlen : (rangeD 1 ((som.length : Int) - 1).toNat).length = som.length - 1 := by simp [rangeD]
    refine ⟨1, som.length, rfl, ⟨by decide, by decide, by omega, by omega⟩, by rw [hlen, sizeLine_eq]; omega, fun i acc g' => ∃ ns : List Int, acc = ns.map D.int ∧ ns.length ≤ i ∧ St g' st cl ∧ Fr st (gup g7 p0 (.lst [.int 0])) g', ⟨[], rfl, Nat.le_refl _, s8, Fr.refl⟩, fun _ _ _ _ => trivial, ?_, ?_⟩
    · rintro j x acc g' hx ⟨ns, rfl, ln, s9, f9⟩
      obtain ⟨hj, rfl⟩ := rangeD_get hx
      have good : ∀ g3, St g3 st cl → Fr st (gup g7 p0 (.lst [.int 0])) g3 → ∃ ns2 : List Int, ns.map D.int ++ [D.int (1 + (j : Int))] = ns2.map D.int ∧ ns2.length ≤ j + 1 ∧ St g3 st cl ∧ Fr st (gup g7 p0 (.lst [.int 0])) g3 := fun g3 s f => ⟨ns ++ [1 + (j : Int)], by simp, by simp; omega, s, f⟩
      repeat walk_at "d"
      refine w_ite (fun hc => ?_) (fun hc => ?_)
      · repeat walk_at "d"
        exact good _ s9 f9
      · repeat walk_at "d"
        refine w_take s9 (by decide) (by decide) fun v g3 _ _ s10 f10 => ?_
        repeat walk_at "d"
        refine w_ite (fun hc => ?_) (fun hc => ?_)
        · repeat walk_at "d"
          exact good _ s10 (f9.trans f10)
        · exact ⟨ns, rfl, by omega, s10, f9.trans f10⟩
    · rintro acc g8 pj ⟨ns, rfl, ln, s9, f9⟩ _ hpj
      have e0 : g8 p0 = some (.lst [.int 0]) := f9 _ _ (s7.ne hp0) gup_same
      have em8 : g8 pm = some (.lst (som.map D.str)) := f9 _ _ npm (gup_old hp0 em7)
      have e8 : g8 pr = some (.lst (rows.map rowD)) := f9 _ _ (s.ne hpr) (gup_old hp0 e7)
      rw [hlen] at ln
      refine v_addL (gup_old hpj e0) gup_same (by rw [List.length_map, sizeLine_eq]; simp; omega) fun pa hpa => ?_
      have k9 : Kp g8 (gup (gup g8 pj (.lst (ns.map D.int))) pa (.lst ([D.int 0] ++ ns.map D.int))) := (Kp.new hpj).trans (Kp.new hpa)
      have ea : (gup (gup g8 pj (.lst (ns.map D.int))) pa (.lst ([D.int 0] ++ ns.map D.int))) pa = some (.lst (((0 : Int) :: ns).map D.int)) := gup_same
      generalize gup (gup g8 pj (.lst (ns.map D.int))) pa (.lst ([D.int 0] ++ ns.map D.int)) = g9 at k9 ea
      have em9 := k9 _ _ em8
      repeat walk_at "d"
      intro pl hpl
      refine v_addL (gup_old hpl ea) gup_same (by rw [List.length_map, sizeLine_eq]; simp; omega) fun pc hpc => ?_
      have k10 : Kp g9 (gup (gup g9 pl (.lst [D.int ((som.map D.str).length : Nat)])) pc (.lst (((0 : Int) :: ns).map D.int ++ [D.int ((som.map D.str).length : Nat)]))) := (Kp.new hpl).trans (Kp.new hpc)
      have ec : (gup (gup g9 pl (.lst [D.int ((som.map D.str).length : Nat)])) pc (.lst (((0 : Int) :: ns).map D.int ++ [D.int ((som.map D.str).length : Nat)]))) pc = some (.lst (((0 : Int) :: ns ++ [((som.map D.str).length : Int)]).map D.int)) := by rw [gup_same, List.map_append]; rfl
      generalize gup (gup g9 pl (.lst [D.int ((som.map D.str).length : Nat)])) pc (.lst (((0 : Int) :: ns).map D.int ++ [D.int ((som.map D.str).length : Nat)])) = g10 at k10 ec
      have em10 := k10 _ _ em9
      have e10 := k10 _ _ (k9 _ _ e8)
      have s11 := s9.kp (k9.trans k10)
      have f11 : Fr st g g10 := f7.trans ((Fr.kp (Kp.new hp0)).trans (f9.trans (Fr.kp (k9.trans k10))))
      repeat walk_at "d"
      refine band_comp (a := 4) (b := 5) (c := 6) (ph := pm) (pc := pc) (xs := som) (ns := (0 : Int) :: ns ++ [((som.map D.str).length : Int)]) ?ea ?eb ?ec ?e0 em10 ec (by simp; omega) lm' fun row g12 pw k12 hpw hrl hrb => ?_
      case ea => exact fun _ => rfl
      case eb => exact fun _ => rfl
      case ec => exact fun _ => rfl
      case e0 => exact rfl
      repeat walk_at "d"
      refine v_app (gup_old hpw (k12 _ _ e10)) (by rw [List.length_map, sizeLine_eq]; omega) ?_
      repeat walk_at "d"
      refine ⟨rows ++ [row], _, _, _, _, rfl, by rw [gup_same, List.map_append]; rfl, by simp [l1], fun r hr => ?_, ((s11.kp (k12.trans (Kp.new hpw))).put (s.ne hpr) (s.nc hpr)), (f11.trans (Fr.kp (k12.trans (Kp.new hpw)))).put hpr⟩
      rcases List.mem_append.mp hr with hr | hr
      · exact m1 r hr
      · rw [List.mem_singleton.mp hr]; exact ⟨hrl, hrb⟩
  · rintro ρ' g' ⟨rows, x3, x4, x5, x6, rfl, e1, l1, m1, s4, f4⟩
    repeat walk_at "d"
    refine hQ (.series rows) _ ⟨?_, m1⟩ s4 f4
    rw [l1]
    simp [rangeD]
    omega
end L2.DL

namespace L2.DL
open PySem PySem.Spec PyProof.Rows
local macro_rules | `(tactic| walk_at "g") => `(tactic| first | assumption | exact gup_same | exact gup_old (by assumption) (by assumption) | exact gup_old (by assumption) (gup_old (by assumption) (by assumption)) | exact gup_old (by assumption) gup_same | exact gup_old (by assumption) (gup_old (by assumption) gup_same) | ((repeat (rw [gup_ne (by first | assumption | (apply Ne.symm; assumption))])); first | exact gup_same | assumption) | rfl)
local macro_rules | `(tactic| walk_at "b") => `(tactic| simp only [Bool.false_xor, Bool.true_xor, decide_eq_true_eq, Bool.not_eq_true', decide_eq_false_iff_not, Bool.and_eq_true, Bool.or_eq_true])
local macro_rules | `(tactic| walk_at "d") => `(tactic| first
  | with_reducible refine' w_seq1 ?_ | with_reducible refine' w_seq2 ?_ | with_reducible refine' w_seq3 ?_ | with_reducible refine' w_seq4 ?_ | with_reducible refine' w_seq5 ?_ | with_reducible refine' w_op ?_ | ((with_reducible refine' w_var ?e ?_); case e => rfl) | with_reducible refine' w_c ?_ | with_reducible refine' w_cons ?_ | with_reducible refine' w_nil ?_
  | with_reducible refine' w_rfl ?_ | ((with_reducible refine' w_len ?e ?_); case e => rfl) | ((with_reducible refine' w_le ?e ?_); case e => (rw [sizeLine_eq]; simp only [List.length_cons, List.length_nil]; omega)) | with_reducible refine' w_set ?_ | with_reducible refine' w_ret ?_ | with_reducible refine' w_if ?_ | with_reducible refine' w_cb ?_ | with_reducible refine' w_call ?_ | with_reducible refine' w_B ?_ | with_reducible refine' w_bl ?_
  | with_reducible refine' w_and ?_ | with_reducible refine' w_or ?_ | with_reducible refine' w_not ?_ | with_reducible refine' w_ifE ?_ | with_reducible refine' w_yes ?_ | with_reducible refine' w_sl ?_ | with_reducible refine' w_nop ?_ | with_reducible refine' w_p ?_ | with_reducible refine' w_in ?_
  | with_reducible refine' w_store ?_ | with_reducible refine' w_augS ?_ | ((with_reducible refine' w_aug ?e ?_); case e => rfl) | with_reducible refine' w_m ?_ | with_reducible refine' w_andV ?_ | with_reducible refine' w_orV ?_ | with_reducible refine' w_notV ?_ | with_reducible refine' w_chain ?_
  | with_reducible refine' w_drop ?_ | with_reducible refine' w_retN ?_ | with_reducible refine' w_nx ?_ | with_reducible refine' w_un ?_ | with_reducible refine' w_tup ?_ | with_reducible refine' w_lst ?_ | with_reducible refine' w_callK ?_ | with_reducible refine' w_callX ?_ | with_reducible refine' w_isi2 ?_ | with_reducible refine' w_get1 ?_ | with_reducible refine' w_get2 ?_ | with_reducible refine' w_rng1 ?_
  | with_reducible refine' v_add ?_ | with_reducible refine' v_intB ?_ | with_reducible refine' v_neg ?_ | with_reducible refine' v_eqS ?_ | with_reducible refine' v_eqI ?_ | with_reducible refine' v_eqB ?_ | with_reducible refine' v_eqN ?_ | with_reducible refine' v_is ?_ | with_reducible refine' v_intI ?_ | with_reducible refine' v_intBl ?_ | with_reducible refine' v_abs ?_
  | with_reducible refine' v_max2 ?_ | with_reducible refine' v_min2 ?_ | with_reducible refine' v_lenT ?_ | with_reducible refine' v_lenF ?_ | with_reducible refine' v_lenC ?_ | with_reducible refine' v_slT ?_ | with_reducible refine' v_slC ?_ | with_reducible refine' v_ipA ?_ | with_reducible refine' v_ipS ?_ | with_reducible refine' v_mtS ?_
  | with_reducible refine' iteT ?_ | with_reducible refine' iteF ?_
  | ((with_reducible refine' v_mul ?c ?_); case c => (unfold CMul; first | (apply Or.inr; constructor <;> decide) | (apply Or.inl; constructor <;> decide) | (apply Or.inl; constructor <;> omega) | (apply Or.inr; constructor <;> omega)))
  | ((with_reducible refine' v_int ?c ?_); case c => first | exact trivial | (show CPos _ _; first | decide | (show (0:Int) < _; omega)) | (show CDiv _ _; constructor <;> omega) | (show CPow _ _; refine ⟨?_, ?_, ?_⟩ <;> decide))
  | ((with_reducible refine' v_ixT ?c ?_); case c => rfl)
  | ((with_reducible refine' v_ixL ?e ?c ?_); (case e => walk_at "g"); (case c => rfl))
  | ((with_reducible refine' v_lenL ?e ?_); (case e => walk_at "g")) | ((with_reducible refine' v_tupL ?e ?_); (case e => walk_at "g"))
  | ((with_reducible refine' v_gt ?e ?c ?_); (case e => walk_at "g"); (case c => rfl)) | ((with_reducible refine' v_st ?e ?c ?_); (case e => walk_at "g"); (case c => rfl))
  | with_reducible refine' w_for ?_ | with_reducible refine' w_seqI ?_ | with_reducible refine' w_gn ?_ | with_reducible refine' w_gt ?_ | with_reducible refine' w_gc ?_ | with_reducible refine' w_g0 ?_ | with_reducible refine' v_itT ?_ | with_reducible refine' v_itF ?_ | with_reducible refine' v_itC ?_
  | ((with_reducible refine' v_itL ?e ?_); (case e => walk_at "g"))
  | ((with_reducible refine' v_lstL ?e ?_); (case e => walk_at "g")) | ((with_reducible refine' v_addL ?e ?e2 ?l ?_); (case e => walk_at "g"); (case e2 => walk_at "g"); (case l => (rw [sizeLine_eq]; simp only [List.length_cons, List.length_nil]; omega))) | ((with_reducible refine' v_slL ?e ?_); (case e => walk_at "g")) | ((with_reducible refine' v_mtL ?e ?_); (case e => walk_at "g"))
  | dsimp only
  | with_reducible refine' w_par ?_ | ((with_reducible refine' v_addT ?l ?_); (case l => (rw [sizeLine_eq]; simp only [List.length_cons, List.length_nil]; omega))))
/-! bands -/
def sortS (xs : List Str) : List Str := (sortD (xs.map D.str)).filterMap strOf
theorem sortS_eq (xs : List Str) : sortD (xs.map D.str) = (sortS xs).map D.str := by
  obtain ⟨ys, e, _⟩ := sort_strs xs
  unfold sortS
  rw [e, List.filterMap_map]
  have : (strOf ∘ D.str) = some := by funext a; rfl
  rw [this, List.filterMap_some]
def adjF (row : List (List Str)) (k : Nat) : List Str := sortS (row.getD k [] ++ row.getD (k + 1) [])
def adjs (row : List (List Str)) : List (List Str) := (List.range (row.length - 1)).map (adjF row)
def rowB (row : List (List Str)) : List (List Str) := row ++ adjs row
def bandsOf : Th → List (List Str)
  | .ware a => [a]
  | .series rows => rows.flatMap rowB
  | _ => []
def bandsD (bs : List (List Str)) : D := .tup (bs.map sD)
theorem take_succ_flat {rows : List (List (List Str))} {i : Nat} {row : List (List Str)} (h : rows[i]? = some row) : (rows.take (i + 1)).flatMap rowB = (rows.take i).flatMap rowB ++ rowB row := by
  rw [List.take_add_one, h]
  simp
theorem adjs_len (row : List (List Str)) : (adjs row).length = row.length - 1 := by simp [adjs]
theorem rowB_len {row : List (List Str)} (h : row.length ≤ 200) : (rowB row).length ≤ 400 := by
  unfold rowB
  rw [List.length_append, adjs_len]; omega
theorem flat_len {rows : List (List (List Str))} (h : ∀ r ∈ rows, r.length ≤ 200) : (rows.flatMap rowB).length ≤ rows.length * 400 := by
  induction rows with
  | nil => simp
  | cons r rs ih =>
    rw [List.flatMap_cons, List.length_append, List.length_cons]
    have := ih fun r hr => h r (List.mem_cons_of_mem _ hr)
    have := rowB_len (h r (List.mem_cons_self ..))
    omega
theorem range_succ_map {α : Type} (f : Nat → α) (i : Nat) : (List.range (i + 1)).map f = (List.range i).map f ++ [f i] := by rw [List.range_succ, List.map_append]; rfl
/-- tuple(sorted(row[k] + row[k + 1])) -/
theorem adj_step {ρ : Rho} {g : G} {K : D → G → Prop} {a c : Nat} {row : List (List Str)} {k : Nat} (ea : ρ[a]? = some (some (rowD row))) (ec : ρ[c]? = some (some (.int (0 + (k : Int))))) (hk : k + 1 < row.length) (hb : ∀ b ∈ row, b.length ≤ 100)
    (h : ∀ g', Kp g g' → K (sD (adjF row k)) g') : dCB tupN (dCons (dCB sortN (dCons (dOp addD (dOp ixD (dVar a) (dVar c)) (dOp ixD (dVar a) (dOp addD (dVar c) (dC (.int 1))))) dNil)) dNil) ρ g K := by
  repeat walk_at "d"
  refine w_var ea ?_
  refine w_var ec ?_
  have hk0 : k < row.length := by omega
  have at1 : ∀ j : Nat, j < row.length → atI (row.map sD) (j : Int) = some (sD (row.getD j [])) := fun j hj => by
    unfold atI ixN
    rw [if_pos (by omega), if_pos (by rw [List.length_map]; omega)]
    show (row.map sD)[(j : Int).toNat]? = _
    rw [Int.toNat_natCast, List.getElem?_map, List.getElem?_eq_getElem hj, List.getD_eq_getElem?_getD, List.getElem?_eq_getElem hj]
    rfl
  refine v_ixT (x := sD (row.getD k [])) (by rw [show (0 + (k : Int)) = (k : Int) by omega]; exact at1 k hk0) ?_
  repeat walk_at "d"
  refine w_var ea ?_
  repeat walk_at "d"
  refine w_var ec ?_
  repeat walk_at "d"
  refine v_ixT (x := sD (row.getD (k + 1) [])) (by rw [show (0 + (k : Int) + 1) = ((k + 1 : Nat) : Int) by omega]; exact at1 (k + 1) hk) ?_
  have lb : ∀ j : Nat, j < row.length → (row.getD j []).length ≤ 100 := fun j hj => by
    rw [List.getD_eq_getElem?_getD, List.getElem?_eq_getElem hj]
    exact hb _ (List.getElem_mem _)
  have l1 := lb k hk0
  have l2 := lb (k + 1) hk
  refine v_addT (by rw [List.length_map, List.length_map, sizeLine_eq]; omega) ?_
  rw [← List.map_append]
  repeat walk_at "d"
  refine v_sort (xs := (row.getD k [] ++ row.getD (k + 1) []).map D.str) rfl (sortOk_strs _) fun p hp => ?_
  rw [sortS_eq]
  repeat walk_at "d"
  exact h _ (Kp.new hp)
def r_bands : DN := fun ds g Q => ∃ t : Th, ds = [t.d] ∧ t.Ok ∧ ∀ g', Kp g g' → Q (bandsD (bandsOf t)) g'
theorem w_bands {t : Th} {g : G} {Q : D → G → Prop} (h : t.Ok) (q : ∀ g', Kp g g' → Q (bandsD (bandsOf t)) g') : r_bands [t.d] g Q := ⟨t, rfl, h, q⟩
theorem ne_ws : ¬ (("elder" : Str) = "ware") ∧ ¬ (("elder" : Str) = "series") ∧ ¬ (("elder" : Str) = "years") ∧ ¬ (("ware" : Str) = "series") ∧ ¬ (("ware" : Str) = "years") ∧ ¬ (("ware" : Str) = "elder") ∧ ¬ (("series" : Str) = "ware") ∧ ¬ (("series" : Str) = "years") ∧ ¬ (("series" : Str) = "elder") ∧ ¬ (("years" : Str) = "ware") ∧ ¬ (("years" : Str) = "series") ∧ ¬ (("years" : Str) = "elder") := by
  refine ⟨?_, ?_, ?_, ?_, ?_, ?_, ?_, ?_, ?_, ?_, ?_, ?_⟩ <;> decide +kernel
theorem p_bands (ds : List D) (g : G) (Q : D → G → Prop) (h : r_bands ds g Q) : t_bands_of { nx := fun _ g' => Q .non g', rt := Q } (dstart N_bands_of.length ds) g := by
  obtain ⟨t, rfl, ok, hQ⟩ := h
  obtain ⟨n1, n2, n3, n4, n5, n6, n7, n8, n9, n10, n11, n12⟩ := ne_ws
  show t_bands_of { nx := fun _ g' => Q .non g', rt := Q } [some t.d, none, none, none] g
  cases t with
  | elder a b =>
    show t_bands_of { nx := fun _ g' => Q .non g', rt := Q } [some (.tup [.str "elder", sD a, sD b]), none, none, none] g
    unfold t_bands_of
    refine w_seq ?_
    repeat walk_at "d"
    refine w_ite (fun hc => absurd (by simpa using hc) n1) fun _ => ?_
    repeat walk_at "d"
    refine w_seq ?_
    repeat walk_at "d"
    refine w_ite (fun _ => ?_) fun hc => absurd (by simpa using hc) n2
    repeat walk_at "d"
    exact hQ _ Kp.refl
  | years lot lo hi =>
    show t_bands_of { nx := fun _ g' => Q .non g', rt := Q } [some (.tup [.str "years", sD lot, oD lo, oD hi]), none, none, none] g
    unfold t_bands_of
    refine w_seq ?_
    repeat walk_at "d"
    refine w_ite (fun hc => absurd (by simpa using hc) n10) fun _ => ?_
    repeat walk_at "d"
    refine w_seq ?_
    repeat walk_at "d"
    refine w_ite (fun _ => ?_) fun hc => absurd (by simpa using hc) n11
    repeat walk_at "d"
    exact hQ _ Kp.refl
  | ware a =>
    show t_bands_of { nx := fun _ g' => Q .non g', rt := Q } [some (.tup [.str "ware", sD a]), none, none, none] g
    unfold t_bands_of
    refine w_seq ?_
    repeat walk_at "d"
    refine w_ite (fun _ => ?_) fun hc => absurd (by simp) hc
    repeat walk_at "d"
    exact hQ _ Kp.refl
  | series rows =>
    obtain ⟨hr, hb⟩ := ok
    show t_bands_of { nx := fun _ g' => Q .non g', rt := Q } [some (.tup [.str "series", .tup (rows.map rowD)]), none, none, none] g
    unfold t_bands_of
    refine w_seq ?_
    repeat walk_at "d"
    refine w_ite (fun hc => absurd (by simpa using hc) n7) fun _ => ?_
    repeat walk_at "d"
    refine w_seq ?_
    repeat walk_at "d"
    refine w_ite (fun hc => absurd hc (by simp)) fun _ => ?_
    repeat walk_at "d"
    intro pb hpb
    repeat walk_at "d"
    refine w_seq ?_
    repeat walk_at "d"
    refine ⟨fun i ρ' g' => ∃ (x2 x3 : Option D), ρ' = [some (.tup [.str "series", .tup (rows.map rowD)]), some (.obj pb), x2, x3] ∧ g' pb = some (.lst (((rows.take i).flatMap rowB).map sD)) ∧ Kp g g', ⟨_, _, rfl, gup_same, Kp.new hpb⟩, fun _ _ _ _ => trivial, ?_, ?_⟩
    · rintro i x ρ' g' hx ⟨x2, x3, rfl, e1, k1⟩
      rw [List.getElem?_map] at hx
      cases hxi : rows[i]? with
      | none => rw [hxi] at hx; cases hx
      | some row =>
      rw [hxi] at hx
      cases hx
      have hrow := hb row (List.mem_of_getElem? hxi)
      have hil : i < rows.length := (List.getElem?_eq_some_iff.mp hxi).1
      have hfl : ((rows.take i).flatMap rowB).length ≤ 40000 := by
        have := flat_len (rows := rows.take i) fun r hr => (hb r (List.mem_of_mem_take hr)).1
        rw [List.length_take] at this
        have : min i rows.length * 400 ≤ 100 * 400 := Nat.mul_le_mul_right _ (by omega)
        omega
      have npb : g pb = none := hpb
      repeat walk_at "d"
      refine v_extT e1 (by rw [List.length_map, List.length_map, sizeLine_eq]; omega) ?_
      repeat walk_at "d"
      refine ⟨_, rfl, by constructor <;> (rw [List.length_map]; omega), ?_⟩
      refine ⟨fun j ρ' g' => ∃ (x3 : Option D), ρ' = [some (.tup [.str "series", .tup (rows.map rowD)]), some (.obj pb), some (rowD row), x3] ∧ g' pb = some (.lst (((rows.take i).flatMap rowB ++ (row ++ (List.range j).map (adjF row))).map sD)) ∧ Kp g g', ⟨_, rfl, by rw [gup_same]; simp, fun p o h => by rw [gup_ne (fun z => by subst z; rw [npb] at h; cases h)]; exact k1 p o h⟩, fun _ _ _ _ => trivial, ?_, ?_⟩
      · rintro j x ρ' g' hx ⟨x3, rfl, e2, k2⟩
        obtain ⟨hj, rfl⟩ := rangeD_get hx
        rw [List.length_map] at hj
        refine w_gn ?_
        refine w_drop ?_
        refine w_m ?_
        refine w_var rfl ?_
        refine v_mtL e2 ?_
        refine w_cons ?_
        refine adj_step (a := 2) (c := 3) (row := row) (k := j) ?ea ?ec (by omega) hrow.2 fun g3 k3 => ?_
        case ea => exact rfl
        case ec => exact rfl
        repeat walk_at "d"
        refine v_app (k3 _ _ e2) (by simp; rw [sizeLine_eq]; have := hrow.1; simp at hfl; omega) ?_
        repeat walk_at "d"
        refine ⟨_, rfl, ?_, fun p o h => ?_⟩
        · rw [gup_same, range_succ_map]
          simp
        · rw [gup_ne (fun z => by subst z; rw [npb] at h; cases h)]; exact k3 _ _ (k2 p o h)
      · rintro ρ' g' ⟨x3, rfl, e2, k2⟩
        repeat walk_at "d"
        refine ⟨_, _, rfl, ?_, k2⟩
        rw [e2, take_succ_flat hxi]
        have : (rangeD 0 (((row.map sD).length : Int) - 1).toNat).length = row.length - 1 := by simp [rangeD]
        rw [this]
        rfl
    · rintro ρ' g' ⟨x2, x3, rfl, e1, k1⟩
      repeat walk_at "d"
      rw [List.length_map, List.take_length]
      exact hQ _ k1
end L2.DL

namespace L2.DL
open PySem PySem.Spec PyProof.Rows
local macro_rules | `(tactic| walk_at "g") => `(tactic| first | assumption | exact gup_same | exact gup_old (by assumption) (by assumption) | exact gup_old (by assumption) (gup_old (by assumption) (by assumption)) | exact gup_old (by assumption) gup_same | exact gup_old (by assumption) (gup_old (by assumption) gup_same) | ((repeat (rw [gup_ne (by first | assumption | (apply Ne.symm; assumption))])); first | exact gup_same | assumption) | rfl)
local macro_rules | `(tactic| walk_at "b") => `(tactic| simp only [Bool.false_xor, Bool.true_xor, decide_eq_true_eq, Bool.not_eq_true', decide_eq_false_iff_not, Bool.and_eq_true, Bool.or_eq_true])
local macro_rules | `(tactic| walk_at "d") => `(tactic| first
  | with_reducible refine' w_seq1 ?_ | with_reducible refine' w_seq2 ?_ | with_reducible refine' w_seq3 ?_ | with_reducible refine' w_seq4 ?_ | with_reducible refine' w_seq5 ?_ | with_reducible refine' w_op ?_ | ((with_reducible refine' w_var ?e ?_); case e => rfl) | with_reducible refine' w_c ?_ | with_reducible refine' w_cons ?_ | with_reducible refine' w_nil ?_
  | with_reducible refine' w_rfl ?_ | ((with_reducible refine' w_len ?e ?_); case e => rfl) | ((with_reducible refine' w_le ?e ?_); case e => (rw [sizeLine_eq]; simp only [List.length_cons, List.length_nil]; omega)) | with_reducible refine' w_set ?_ | with_reducible refine' w_ret ?_ | with_reducible refine' w_if ?_ | with_reducible refine' w_cb ?_ | with_reducible refine' w_call ?_ | with_reducible refine' w_B ?_ | with_reducible refine' w_bl ?_
  | with_reducible refine' w_and ?_ | with_reducible refine' w_or ?_ | with_reducible refine' w_not ?_ | with_reducible refine' w_ifE ?_ | with_reducible refine' w_yes ?_ | with_reducible refine' w_sl ?_ | with_reducible refine' w_nop ?_ | with_reducible refine' w_p ?_ | with_reducible refine' w_in ?_
  | with_reducible refine' w_store ?_ | with_reducible refine' w_augS ?_ | ((with_reducible refine' w_aug ?e ?_); case e => rfl) | with_reducible refine' w_m ?_ | with_reducible refine' w_andV ?_ | with_reducible refine' w_orV ?_ | with_reducible refine' w_notV ?_ | with_reducible refine' w_chain ?_
  | with_reducible refine' w_drop ?_ | with_reducible refine' w_retN ?_ | with_reducible refine' w_nx ?_ | with_reducible refine' w_un ?_ | with_reducible refine' w_tup ?_ | with_reducible refine' w_lst ?_ | with_reducible refine' w_callK ?_ | with_reducible refine' w_callX ?_ | with_reducible refine' w_isi2 ?_ | with_reducible refine' w_get1 ?_ | with_reducible refine' w_get2 ?_ | with_reducible refine' w_rng1 ?_
  | with_reducible refine' v_add ?_ | with_reducible refine' v_intB ?_ | with_reducible refine' v_neg ?_ | with_reducible refine' v_eqS ?_ | with_reducible refine' v_eqI ?_ | with_reducible refine' v_eqB ?_ | with_reducible refine' v_eqN ?_ | with_reducible refine' v_is ?_ | with_reducible refine' v_intI ?_ | with_reducible refine' v_intBl ?_ | with_reducible refine' v_abs ?_
  | with_reducible refine' v_max2 ?_ | with_reducible refine' v_min2 ?_ | with_reducible refine' v_lenT ?_ | with_reducible refine' v_lenF ?_ | with_reducible refine' v_lenC ?_ | with_reducible refine' v_slT ?_ | with_reducible refine' v_slC ?_ | with_reducible refine' v_ipA ?_ | with_reducible refine' v_ipS ?_ | with_reducible refine' v_mtS ?_
  | with_reducible refine' iteT ?_ | with_reducible refine' iteF ?_
  | ((with_reducible refine' v_mul ?c ?_); case c => (unfold CMul; first | (apply Or.inr; constructor <;> decide) | (apply Or.inl; constructor <;> decide) | (apply Or.inl; constructor <;> omega) | (apply Or.inr; constructor <;> omega)))
  | ((with_reducible refine' v_int ?c ?_); case c => first | exact trivial | (show CPos _ _; first | decide | (show (0:Int) < _; omega)) | (show CDiv _ _; constructor <;> omega) | (show CPow _ _; refine ⟨?_, ?_, ?_⟩ <;> decide))
  | ((with_reducible refine' v_ixT ?c ?_); case c => rfl)
  | ((with_reducible refine' v_ixL ?e ?c ?_); (case e => walk_at "g"); (case c => rfl))
  | ((with_reducible refine' v_lenL ?e ?_); (case e => walk_at "g")) | ((with_reducible refine' v_tupL ?e ?_); (case e => walk_at "g"))
  | ((with_reducible refine' v_gt ?e ?c ?_); (case e => walk_at "g"); (case c => rfl)) | ((with_reducible refine' v_st ?e ?c ?_); (case e => walk_at "g"); (case c => rfl))
  | with_reducible refine' w_for ?_ | with_reducible refine' w_seqI ?_ | with_reducible refine' w_gn ?_ | with_reducible refine' w_gt ?_ | with_reducible refine' w_gc ?_ | with_reducible refine' w_g0 ?_ | with_reducible refine' v_itT ?_ | with_reducible refine' v_itF ?_ | with_reducible refine' v_itC ?_
  | ((with_reducible refine' v_itL ?e ?_); (case e => walk_at "g"))
  | ((with_reducible refine' v_lstL ?e ?_); (case e => walk_at "g")) | ((with_reducible refine' v_addL ?e ?e2 ?l ?_); (case e => walk_at "g"); (case e2 => walk_at "g"); (case l => (rw [sizeLine_eq]; simp only [List.length_cons, List.length_nil]; omega))) | ((with_reducible refine' v_slL ?e ?_); (case e => walk_at "g")) | ((with_reducible refine' v_mtL ?e ?_); (case e => walk_at "g"))
  | dsimp only
  | with_reducible refine' w_par ?_ | ((with_reducible refine' v_addT ?l ?_); (case l => (rw [sizeLine_eq]; simp only [List.length_cons, List.length_nil]; omega))))
theorem bands_row {ρ : Rho} {g : G} {Q : D → G → Prop} {row : List (List Str)} {a c : Nat} (ea0 : ρ[a]? = some (some (rowD row))) (ea : ∀ x, ((dwipe ρ [c]).set c (some x))[a]? = some (some (rowD row))) (ec : ∀ x, ((dwipe ρ [c]).set c (some x))[c]? = some (some x)) (hl : row.length ≤ 200) (hb : ∀ b ∈ row, b.length ≤ 100)
    (h : ∀ g' p, Kp g g' → g' p = none → Q (.obj p) (gup g' p (.lst ((adjs row).map sD)))) :
    dLc (dRng1 (dCons (dOp subD (dCB lenN (dCons (dVar a) dNil)) (dC (.int 1))) dNil)) (dgName c) dYes (dCB tupN (dCons (dCB sortN (dCons (dOp addD (dOp ixD (dVar a) (dVar c)) (dOp ixD (dVar a) (dOp addD (dVar c) (dC (.int 1))))) dNil)) dNil)) [c] ρ g Q := by
  refine w_lc ?_
  repeat walk_at "d"
  refine w_var ea0 ?_
  repeat walk_at "d"
  rw [List.length_map]
  have hlen : (rangeD 0 ((row.length : Int) - 1).toNat).length = row.length - 1 := by simp [rangeD]
  refine ⟨_, rfl, by constructor <;> omega, by rw [hlen, sizeLine_eq]; omega, fun j acc g' => acc = ((List.range j).map (adjF row)).map sD ∧ Kp g g', ⟨rfl, Kp.refl⟩, fun _ _ _ _ => trivial, ?_, ?_⟩
  · rintro j x acc g' hx ⟨rfl, k1⟩
    obtain ⟨hj, rfl⟩ := rangeD_get hx
    refine w_gn ?_
    refine w_yes ?_
    refine iteT ?_
    refine adj_step (a := a) (c := c) (row := row) (k := j) (ea _) (ec _) (by omega) hb fun g3 k3 => ?_
    exact ⟨by rw [range_succ_map, List.map_append]; rfl, k1.trans k3⟩
  · rintro acc g' p ⟨rfl, k1⟩ _ hp
    rw [hlen]
    exact h g' p k1 hp
theorem p_lbands (ds : List D) (g : G) (Q : D → G → Prop) (h : r_bands ds g Q) : t__law_bands { nx := fun _ g' => Q .non g', rt := Q } (dstart N__law_bands.length ds) g := by
  obtain ⟨t, rfl, ok, hQ⟩ := h
  obtain ⟨n1, n2, n3, n4, n5, n6, n7, n8, n9, n10, n11, n12⟩ := ne_ws
  cases t with
  | elder a b =>
    show t__law_bands { nx := fun _ g' => Q .non g', rt := Q } [some (.tup [.str "elder", sD a, sD b]), none, none, none] g
    unfold t__law_bands
    refine w_seq ?_
    repeat walk_at "d"
    refine w_ite (fun hc => absurd (by simpa using hc) n1) fun _ => ?_
    repeat walk_at "d"
    refine w_seq ?_
    repeat walk_at "d"
    refine w_ite (fun hc => absurd (by simpa using hc) n2) fun _ => ?_
    repeat walk_at "d"
    refine ⟨fun i ρ' g' => i = 0 ∧ ∃ x2 x3, ρ' = [some (.tup [.str "elder", sD a, sD b]), some (.tup []), x2, x3] ∧ g' = g, ⟨rfl, _, _, rfl, rfl⟩, fun _ _ _ _ => trivial, fun i x ρ' g' hx _ => by simp at hx, ?_⟩
    rintro ρ' g' ⟨_, x2, x3, rfl, rfl⟩
    repeat walk_at "d"
    exact hQ _ Kp.refl
  | years lot lo hi =>
    show t__law_bands { nx := fun _ g' => Q .non g', rt := Q } [some (.tup [.str "years", sD lot, oD lo, oD hi]), none, none, none] g
    unfold t__law_bands
    refine w_seq ?_
    repeat walk_at "d"
    refine w_ite (fun hc => absurd (by simpa using hc) n10) fun _ => ?_
    repeat walk_at "d"
    refine w_seq ?_
    repeat walk_at "d"
    refine w_ite (fun hc => absurd (by simpa using hc) n11) fun _ => ?_
    repeat walk_at "d"
    refine ⟨fun i ρ' g' => i = 0 ∧ ∃ x2 x3, ρ' = [some (.tup [.str "years", sD lot, oD lo, oD hi]), some (.tup []), x2, x3] ∧ g' = g, ⟨rfl, _, _, rfl, rfl⟩, fun _ _ _ _ => trivial, fun i x ρ' g' hx _ => by simp at hx, ?_⟩
    rintro ρ' g' ⟨_, x2, x3, rfl, rfl⟩
    repeat walk_at "d"
    exact hQ _ Kp.refl
  | ware a =>
    show t__law_bands { nx := fun _ g' => Q .non g', rt := Q } [some (.tup [.str "ware", sD a]), none, none, none] g
    unfold t__law_bands
    refine w_seq ?_
    repeat walk_at "d"
    refine w_ite (fun _ => ?_) fun hc => absurd (by simp) hc
    repeat walk_at "d"
    exact hQ _ Kp.refl
  | series rows =>
    obtain ⟨hr, hb⟩ := ok
    show t__law_bands { nx := fun _ g' => Q .non g', rt := Q } [some (.tup [.str "series", .tup (rows.map rowD)]), none, none, none] g
    unfold t__law_bands
    refine w_seq ?_
    repeat walk_at "d"
    refine w_ite (fun hc => absurd (by simpa using hc) n7) fun _ => ?_
    repeat walk_at "d"
    refine w_seq ?_
    repeat walk_at "d"
    refine w_ite (fun _ => ?_) fun hc => absurd (by simp) hc
    repeat walk_at "d"
    refine ⟨fun i ρ' g' => ∃ (x2 x3 : Option D), ρ' = [some (.tup [.str "series", .tup (rows.map rowD)]), some (.tup (((rows.take i).flatMap rowB).map sD)), x2, x3] ∧ Kp g g', ⟨_, _, rfl, Kp.refl⟩, fun _ _ _ _ => trivial, ?_, ?_⟩
    · rintro i x ρ' g' hx ⟨x2, x3, rfl, k1⟩
      rw [List.getElem?_map] at hx
      cases hxi : rows[i]? with
      | none => rw [hxi] at hx; cases hx
      | some row =>
      rw [hxi] at hx
      cases hx
      have hrow := hb row (List.mem_of_getElem? hxi)
      have hil : i < rows.length := (List.getElem?_eq_some_iff.mp hxi).1
      have hfl : ((rows.take i).flatMap rowB).length ≤ 40000 := by
        have := flat_len (rows := rows.take i) fun r hr => (hb r (List.mem_of_mem_take hr)).1
        rw [List.length_take] at this
        have : min i rows.length * 400 ≤ 100 * 400 := Nat.mul_le_mul_right _ (by omega)
        omega
      refine w_gn ?_
      refine w_set ?_
      refine w_op ?_
      refine w_op ?_
      refine w_var rfl ?_
      refine w_var rfl ?_
      refine v_addT (by rw [List.length_map, List.length_map, sizeLine_eq]; have := hrow.1; omega) ?_
      refine w_cb ?_
      refine w_cons ?_
      refine bands_row (a := 2) (c := 3) (row := row) ?e0 ?ea ?ec hrow.1 hrow.2 fun g3 p k3 hp => ?_
      case e0 => exact rfl
      case ea => exact fun _ => rfl
      case ec => exact fun _ => rfl
      repeat walk_at "d"
      refine v_addT (by rw [List.length_append, List.length_map, List.length_map, List.length_map, adjs_len, sizeLine_eq]; have := hrow.1; omega) ?_
      repeat walk_at "d"
      refine ⟨some (rowD row), x3, ?_, k1.trans (k3.trans (Kp.new hp))⟩
      rw [take_succ_flat hxi]
      simp [rowB, List.append_assoc]
    · rintro ρ' g' ⟨x2, x3, rfl, k1⟩
      repeat walk_at "d"
      rw [List.length_map, List.take_length]
      exact hQ _ k1
/-! _law_same -/
theorem w_isi2 {ρ : Rho} {g : G} {Q : D → G → Prop} {te : DE} {T : Ty} (h : te ρ g fun d g1 => ∃ t, tyD g1 d = some t ∧ Q (.bl (isTy t T)) g1) : dIsi T te ρ g Q := w_isi h
def Pl : Nat → D → Prop
  | _, .non => True
  | _, .int _ => True
  | _, .str _ => True
  | 0, _ => False
  | n + 1, .tup ds => ds.length ≤ 16777216 ∧ ∀ d ∈ ds, Pl n d
  | _, _ => False
def r_same (n : Nat) : DN := fun ds g Q => ∃ d, ds = [d, d] ∧ Pl n d ∧ Q (.bl true) g
theorem p_same (n : Nat) (r : DN) (hr : ∀ ds g Q, (match n with | 0 => False | k + 1 => r_same k ds g Q) → r ds g Q) (ds : List D) (g : G) (Q : D → G → Prop) (h : r_same n ds g Q) : t__law_same r { nx := fun _ g' => Q .non g', rt := Q } (dstart N__law_same.length ds) g := by
  obtain ⟨d, rfl, hp, hQ⟩ := h
  show t__law_same r { nx := fun _ g' => Q .non g', rt := Q } [some d, some d, none] g
  unfold t__law_same
  refine w_seq ?_
  cases d with
  | non =>
    repeat walk_at "d"
    refine w_ite (fun _ => ?_) fun hc => absurd (by rfl) hc
    repeat walk_at "d"
    exact hQ
  | int i =>
    repeat walk_at "d"
    refine w_ite (fun hc => Bool.noConfusion hc) fun _ => ?_
    repeat walk_at "d"
    refine w_seq ?_
    repeat walk_at "d"
    refine ⟨_, rfl, ?_⟩
    repeat walk_at "d"
    refine w_ite (fun hc => Bool.noConfusion hc) fun _ => ?_
    repeat walk_at "d"
    refine w_seq ?_
    repeat walk_at "d"
    refine ⟨_, rfl, ?_⟩
    repeat walk_at "d"
    refine w_ite (fun _ => ?_) fun hc => absurd rfl hc
    repeat walk_at "d"
    refine ⟨_, rfl, ?_⟩
    repeat walk_at "d"
    refine w_ite (fun _ => ?_) fun hc => absurd rfl hc
    repeat walk_at "d"
    refine ⟨_, rfl, ?_⟩
    repeat walk_at "d"
    refine w_ite (fun _ => ?_) fun hc => absurd rfl hc
    repeat walk_at "d"
    have : (false ^^ decide (i = i)) = true := by simp
    rw [this]
    exact hQ
  | str i =>
    repeat walk_at "d"
    refine w_ite (fun hc => Bool.noConfusion hc) fun _ => ?_
    repeat walk_at "d"
    refine w_seq ?_
    repeat walk_at "d"
    refine ⟨_, rfl, ?_⟩
    repeat walk_at "d"
    refine w_ite (fun hc => Bool.noConfusion hc) fun _ => ?_
    repeat walk_at "d"
    refine w_seq ?_
    repeat walk_at "d"
    refine ⟨_, rfl, ?_⟩
    repeat walk_at "d"
    refine w_ite (fun hc => Bool.noConfusion hc) fun _ => ?_
    repeat walk_at "d"
    refine w_seq ?_
    repeat walk_at "d"
    refine ⟨_, rfl, ?_⟩
    repeat walk_at "d"
    refine w_ite (fun _ => ?_) fun hc => absurd rfl hc
    repeat walk_at "d"
    refine ⟨_, rfl, ?_⟩
    repeat walk_at "d"
    refine w_ite (fun _ => ?_) fun hc => absurd rfl hc
    repeat walk_at "d"
    have : (false ^^ decide (i = i)) = true := by simp
    rw [this]
    exact hQ
  | tup xs =>
    cases n with
    | zero => exact hp.elim
    | succ k =>
    repeat walk_at "d"
    refine w_ite (fun hc => Bool.noConfusion hc) fun _ => ?_
    repeat walk_at "d"
    refine w_seq ?_
    repeat walk_at "d"
    refine ⟨_, rfl, ?_⟩
    repeat walk_at "d"
    refine w_ite (fun hc => Bool.noConfusion hc) fun _ => ?_
    repeat walk_at "d"
    refine w_seq ?_
    repeat walk_at "d"
    refine ⟨_, rfl, ?_⟩
    repeat walk_at "d"
    refine w_ite (fun hc => Bool.noConfusion hc) fun _ => ?_
    repeat walk_at "d"
    refine w_seq ?_
    repeat walk_at "d"
    refine ⟨_, rfl, ?_⟩
    repeat walk_at "d"
    refine w_ite (fun hc => Bool.noConfusion hc) fun _ => ?_
    repeat walk_at "d"
    refine w_seq ?_
    repeat walk_at "d"
    refine ⟨_, rfl, ?_⟩
    repeat walk_at "d"
    refine w_ite (fun hc => Bool.noConfusion hc) fun _ => ?_
    repeat walk_at "d"
    refine w_ite (fun hc => absurd hc (by simp)) fun _ => ?_
    repeat walk_at "d"
    refine w_seq ?_
    repeat walk_at "d"
    obtain ⟨hl, hp⟩ : xs.length ≤ 16777216 ∧ ∀ d ∈ xs, Pl k d := hp
    refine ⟨_, rfl, by constructor <;> omega, fun i ρ' g' => ∃ x2, ρ' = [some (.tup xs), some (.tup xs), x2] ∧ g' = g, ⟨_, rfl, rfl⟩, fun _ _ _ _ => trivial, ?_, ?_⟩
    · rintro i x ρ' g' hx ⟨x2, rfl, rfl⟩
      obtain ⟨hi, rfl⟩ := rangeD_get hx
      obtain ⟨y, e1, e2, _⟩ := atI_get (xs := xs) (i := 0 + (i : Int)) (by omega) (by omega)
      repeat walk_at "d"
      refine v_ixT e1 ?_
      repeat walk_at "d"
      refine v_ixT e1 ?_
      repeat walk_at "d"
      refine hr _ _ _ (show r_same k [y, y] _ _ from ⟨y, rfl, hp y e2, ?_⟩)
      repeat walk_at "d"
      refine w_ite (fun hc => Bool.noConfusion hc) fun _ => ?_
      repeat walk_at "d"
      exact ⟨_, rfl, rfl⟩
    · rintro ρ' g' ⟨x2, rfl, rfl⟩
      repeat walk_at "d"
      exact hQ
  | bl b => cases n <;> exact hp.elim
  | obj b => cases n <;> exact hp.elim
  | scr b => cases n <;> exact hp.elim
  | fin b => cases n <;> exact hp.elim
end L2.DL

namespace L2.DL
open PySem PySem.Spec PyProof.Rows
local macro_rules | `(tactic| walk_at "g") => `(tactic| first | assumption | exact gup_same | exact gup_old (by assumption) (by assumption) | exact gup_old (by assumption) (gup_old (by assumption) (by assumption)) | exact gup_old (by assumption) gup_same | exact gup_old (by assumption) (gup_old (by assumption) gup_same) | ((repeat (rw [gup_ne (by first | assumption | (apply Ne.symm; assumption))])); first | exact gup_same | assumption) | rfl)
local macro_rules | `(tactic| walk_at "b") => `(tactic| simp only [Bool.false_xor, Bool.true_xor, decide_eq_true_eq, Bool.not_eq_true', decide_eq_false_iff_not, Bool.and_eq_true, Bool.or_eq_true])
local macro_rules | `(tactic| walk_at "d") => `(tactic| first
  | with_reducible refine' w_seq1 ?_ | with_reducible refine' w_seq2 ?_ | with_reducible refine' w_seq3 ?_ | with_reducible refine' w_seq4 ?_ | with_reducible refine' w_seq5 ?_ | with_reducible refine' w_op ?_ | ((with_reducible refine' w_var ?e ?_); case e => rfl) | with_reducible refine' w_c ?_ | with_reducible refine' w_cons ?_ | with_reducible refine' w_nil ?_
  | with_reducible refine' w_rfl ?_ | ((with_reducible refine' w_len ?e ?_); case e => rfl) | ((with_reducible refine' w_le ?e ?_); case e => (rw [sizeLine_eq]; simp only [List.length_cons, List.length_nil]; omega)) | with_reducible refine' w_set ?_ | with_reducible refine' w_ret ?_ | with_reducible refine' w_if ?_ | with_reducible refine' w_cb ?_ | with_reducible refine' w_call ?_ | with_reducible refine' w_B ?_ | with_reducible refine' w_bl ?_
  | with_reducible refine' w_and ?_ | with_reducible refine' w_or ?_ | with_reducible refine' w_not ?_ | with_reducible refine' w_ifE ?_ | with_reducible refine' w_yes ?_ | with_reducible refine' w_sl ?_ | with_reducible refine' w_nop ?_ | with_reducible refine' w_p ?_ | with_reducible refine' w_in ?_
  | with_reducible refine' w_store ?_ | with_reducible refine' w_augS ?_ | ((with_reducible refine' w_aug ?e ?_); case e => rfl) | with_reducible refine' w_m ?_ | with_reducible refine' w_andV ?_ | with_reducible refine' w_orV ?_ | with_reducible refine' w_notV ?_ | with_reducible refine' w_chain ?_
  | with_reducible refine' w_drop ?_ | with_reducible refine' w_retN ?_ | with_reducible refine' w_nx ?_ | with_reducible refine' w_un ?_ | with_reducible refine' w_tup ?_ | with_reducible refine' w_lst ?_ | with_reducible refine' w_callK ?_ | with_reducible refine' w_callX ?_ | with_reducible refine' w_isi2 ?_ | with_reducible refine' w_get1 ?_ | with_reducible refine' w_get2 ?_ | with_reducible refine' w_rng1 ?_
  | with_reducible refine' v_add ?_ | with_reducible refine' v_intB ?_ | with_reducible refine' v_neg ?_ | with_reducible refine' v_eqS ?_ | with_reducible refine' v_eqI ?_ | with_reducible refine' v_eqB ?_ | with_reducible refine' v_eqN ?_ | with_reducible refine' v_is ?_ | with_reducible refine' v_intI ?_ | with_reducible refine' v_intBl ?_ | with_reducible refine' v_abs ?_
  | with_reducible refine' v_max2 ?_ | with_reducible refine' v_min2 ?_ | with_reducible refine' v_lenT ?_ | with_reducible refine' v_lenF ?_ | with_reducible refine' v_lenC ?_ | with_reducible refine' v_slT ?_ | with_reducible refine' v_slC ?_ | with_reducible refine' v_ipA ?_ | with_reducible refine' v_ipS ?_ | with_reducible refine' v_mtS ?_
  | with_reducible refine' iteT ?_ | with_reducible refine' iteF ?_
  | ((with_reducible refine' v_mul ?c ?_); case c => (unfold CMul; first | (apply Or.inr; constructor <;> decide) | (apply Or.inl; constructor <;> decide) | (apply Or.inl; constructor <;> omega) | (apply Or.inr; constructor <;> omega)))
  | ((with_reducible refine' v_int ?c ?_); case c => first | exact trivial | (show CPos _ _; first | decide | (show (0:Int) < _; omega)) | (show CDiv _ _; constructor <;> omega) | (show CPow _ _; refine ⟨?_, ?_, ?_⟩ <;> decide))
  | ((with_reducible refine' v_ixT ?c ?_); case c => rfl)
  | ((with_reducible refine' v_ixL ?e ?c ?_); (case e => walk_at "g"); (case c => rfl))
  | ((with_reducible refine' v_lenL ?e ?_); (case e => walk_at "g")) | ((with_reducible refine' v_tupL ?e ?_); (case e => walk_at "g"))
  | ((with_reducible refine' v_gt ?e ?c ?_); (case e => walk_at "g"); (case c => rfl)) | ((with_reducible refine' v_st ?e ?c ?_); (case e => walk_at "g"); (case c => rfl))
  | with_reducible refine' w_for ?_ | with_reducible refine' w_seqI ?_ | with_reducible refine' w_gn ?_ | with_reducible refine' w_gt ?_ | with_reducible refine' w_gc ?_ | with_reducible refine' w_g0 ?_ | with_reducible refine' v_itT ?_ | with_reducible refine' v_itF ?_ | with_reducible refine' v_itC ?_
  | ((with_reducible refine' v_itL ?e ?_); (case e => walk_at "g"))
  | ((with_reducible refine' v_lstL ?e ?_); (case e => walk_at "g")) | ((with_reducible refine' v_addL ?e ?e2 ?l ?_); (case e => walk_at "g"); (case e2 => walk_at "g"); (case l => (rw [sizeLine_eq]; simp only [List.length_cons, List.length_nil]; omega))) | ((with_reducible refine' v_slL ?e ?_); (case e => walk_at "g")) | ((with_reducible refine' v_mtL ?e ?_); (case e => walk_at "g"))
  | dsimp only
  | with_reducible refine' w_par ?_ | ((with_reducible refine' v_addT ?l ?_); (case l => (rw [sizeLine_eq]; simp only [List.length_cons, List.length_nil]; omega))))

theorem valD_put {κ : Type} [DecidableEq κ] (kvs : List (κ × D)) (k k' : κ) (v : D) : valD (putD kvs k v) k' = if k' = k then some v else valD kvs k' := by
  unfold putD
  by_cases h : (kvs.any fun kv => decide (kv.1 = k)) = true
  · rw [if_pos h]
    induction kvs with
    | nil => simp at h
    | cons p r ih =>
      rw [List.map_cons]
      by_cases hp : p.1 = k
      · rw [if_pos hp]
        unfold valD
        by_cases hk : k' = k
        · rw [if_pos hk, if_pos (by rw [hp, hk])]
        · rw [if_neg hk, if_neg (by rw [hp]; exact Ne.symm hk)]
          have hp' : ¬ p.1 = k' := by rw [hp]; exact Ne.symm hk
          rw [if_neg hp']
          by_cases h2 : (r.any fun kv => decide (kv.1 = k)) = true
          · rw [ih h2, if_neg hk]
          · have : (r.map fun kv => if kv.1 = k then (kv.1, v) else kv) = r := by
              have h3 : ∀ kv ∈ r, ¬ kv.1 = k := fun kv hkv e => h2 (List.any_eq_true.mpr ⟨kv, hkv, by simpa using e⟩)
              clear ih h h2
              induction r with
              | nil => rfl
              | cons q r ih => rw [List.map_cons, if_neg (h3 q (List.mem_cons_self ..)), ih fun kv hkv => h3 kv (List.mem_cons_of_mem _ hkv)]
            rw [this]
      · rw [if_neg hp]
        have h2 : (r.any fun kv => decide (kv.1 = k)) = true := by simpa [hp] using h
        unfold valD
        by_cases hpk : p.1 = k'
        · rw [if_pos hpk, if_pos hpk, if_neg (by rw [← hpk]; exact hp)]
        · rw [if_neg hpk, if_neg hpk, ih h2]
  · rw [if_neg h]
    induction kvs with
    | nil =>
      rw [List.nil_append]
      unfold valD
      by_cases hk : k' = k
      · rw [if_pos hk, if_pos hk.symm]
      · rw [if_neg hk, if_neg (Ne.symm hk)] <;> rfl
    | cons p r ih =>
      have hp : ¬ p.1 = k := fun e => h (List.any_eq_true.mpr ⟨p, List.mem_cons_self .., by simpa using e⟩)
      have h2 : ¬ (r.any fun kv => decide (kv.1 = k)) = true := fun e => h (by rw [List.any_cons, e, Bool.or_true])
      rw [List.cons_append]
      unfold valD
      by_cases hpk : p.1 = k'
      · rw [if_pos hpk, if_pos hpk, if_neg (by rw [← hpk]; exact hp)]
      · rw [if_neg hpk, if_neg hpk, ih h2]
theorem optI (o : Option Int) (x : Int) : (o.map D.int).getD (.int x) = .int (o.getD x) := by cases o <;> rfl
theorem optN (o : Option Int) : (o.map D.int).getD .non = oD o := by cases o <;> rfl

def loT : Th → Str → Option Int
  | .years lot (some x) _, a => if a ∈ lot then some x else none
  | _, _ => none
def lowsL (ts : List Th) (a : Str) : List Int := ts.filterMap fun t => loT t a
def mxS (o : Option Int) (x : Int) : Option Int := some (if o.getD x > x then o.getD x else x)
def maxO (L : List Int) : Option Int := L.foldl mxS none
theorem maxO_add (L : List Int) (x : Int) : maxO (L ++ [x]) = mxS (maxO L) x := by unfold maxO; rw [List.foldl_append]; rfl
theorem mxS_twice (o : Option Int) (x : Int) : mxS (mxS o x) x = mxS o x := by
  unfold mxS
  simp only [Option.getD_some]
  split <;> simp_all
theorem lowsL_take {ts : List Th} {i : Nat} {t : Th} (h : ts[i]? = some t) (a : Str) : maxO (lowsL (ts.take (i + 1)) a) = match loT t a with | some x => mxS (maxO (lowsL (ts.take i) a)) x | none => maxO (lowsL (ts.take i) a) := by
  unfold lowsL
  rw [List.take_add_one, h, List.filterMap_append]
  cases e : loT t a with
  | none => simp [e]
  | some x => simp [e]; exact maxO_add _ x
/-- the greatest, none of nothing -/
theorem maxO_is (L : List Int) : (L = [] ∧ maxO L = none) ∨ ∃ m, maxO L = some m ∧ m ∈ L ∧ ∀ y ∈ L, y ≤ m := by
  have : ∀ l : List Int, (l.reverse = [] ∧ maxO l.reverse = none) ∨ ∃ m, maxO l.reverse = some m ∧ m ∈ l.reverse ∧ ∀ y ∈ l.reverse, y ≤ m := by
    intro l
    induction l with
    | nil => exact .inl ⟨rfl, rfl⟩
    | cons x r ih =>
      refine .inr ?_
      rw [List.reverse_cons, maxO_add]
      rcases ih with ⟨e1, e2⟩ | ⟨m, e1, e2, e3⟩
      · rw [e2, e1]
        exact ⟨x, by simp [mxS], by simp, by simp⟩
      · rw [e1]
        unfold mxS
        simp only [Option.getD_some]
        split
        · rename_i h
          refine ⟨m, rfl, List.mem_append_left _ e2, fun y hy => ?_⟩
          rcases List.mem_append.mp hy with hy | hy
          · exact e3 y hy
          · rw [List.mem_singleton.mp hy]; omega
        · rename_i h
          refine ⟨x, rfl, by simp, fun y hy => ?_⟩
          rcases List.mem_append.mp hy with hy | hy
          · have := e3 y hy; omega
          · rw [List.mem_singleton.mp hy]; omega
  have := this L.reverse
  rwa [List.reverse_reverse] at this
def lowV (ns : List Str) (ts : List Th) : D := .tup (ns.map fun a => oD (maxO (lowsL ts a)))
def r_lows : DN := fun ds g Q => ∃ ns ts, ds = [dosD ns ts] ∧ ns.length ≤ 100 ∧ ts.length ≤ 40 ∧ (∀ t ∈ ts, t.Ok) ∧ ∀ g', Kp g g' → Q (lowV ns ts) g'
theorem w_lows {ns : List Str} {ts : List Th} {g : G} {Q : D → G → Prop} (h0 : ns.length ≤ 100) (h1 : ts.length ≤ 40) (h2 : ∀ t ∈ ts, t.Ok) (h : ∀ g', Kp g g' → Q (lowV ns ts) g') : r_lows [dosD ns ts] g Q := ⟨ns, ts, rfl, h0, h1, h2, h⟩
theorem Kp.put {p : Addr} {g g' : G} {o : GO} (f : Kp g g') (h : g p = none) : Kp g (gup g' p o) := fun q u e => by
  rw [gup_ne (fun z => by subst z; rw [h] at e; cases e)]
  exact f q u e
theorem p_lows (ds : List D) (g : G) (Q : D → G → Prop) (h : r_lows ds g Q) : t_lows_of { nx := fun _ g' => Q .non g', rt := Q } (dstart N_lows_of.length ds) g := by
  obtain ⟨ns, ts, rfl, h0, h1, h2, hQ⟩ := h
  obtain ⟨n1, n2, n3, n4, n5, n6, n7, n8, n9, n10, n11, n12⟩ := ne_ws
  show t_lows_of { nx := fun _ g' => Q .non g', rt := Q } [some (.tup [.fin (ns.map D.str), .tup (ts.map Th.d)]), none, none, none] g
  unfold t_lows_of
  repeat walk_at "d"
  intro pl hpl
  repeat walk_at "d"
  refine w_seq ?_
  repeat walk_at "d"
  refine ⟨fun i ρ' g' => ∃ (x2 x3 : Option D) (kvs : List (Key × D)), ρ' = [some (.tup [.fin (ns.map D.str), .tup (ts.map Th.d)]), some (.obj pl), x2, x3] ∧ g' pl = some (.dK kvs) ∧ kvs.length ≤ i * 100 ∧ (∀ a, valD kvs (.inr a) = (maxO (lowsL (ts.take i) a)).map D.int) ∧ Kp g g', ⟨_, _, [], rfl, gup_same, Nat.zero_le _, fun a => rfl, Kp.new hpl⟩, fun _ _ _ _ => trivial, ?_, ?_⟩
  · rintro i x ρ' g' hx ⟨x2, x3, kvs, rfl, e1, l1, v1, k1⟩
    rw [List.getElem?_map] at hx
    cases hxi : ts[i]? with
    | none => rw [hxi] at hx; cases hx
    | some t =>
    rw [hxi] at hx
    cases hx
    have htm : t.Ok := h2 t (List.mem_of_getElem? hxi)
    have hil : i < ts.length := (List.getElem?_eq_some_iff.mp hxi).1
    have same : (∀ a, loT t a = none) → ∃ (x2' x3' : Option D) (kvs : List (Key × D)), [some (.tup [.fin (ns.map D.str), .tup (ts.map Th.d)]), some (.obj pl), some t.d, x3] = [some (.tup [.fin (ns.map D.str), .tup (ts.map Th.d)]), some (.obj pl), x2', x3'] ∧ g' pl = some (.dK kvs) ∧ kvs.length ≤ (i + 1) * 100 ∧ (∀ a, valD kvs (.inr a) = (maxO (lowsL (ts.take (i + 1)) a)).map D.int) ∧ Kp g g' := fun hn =>
      ⟨_, _, kvs, rfl, e1, by omega, fun a => by rw [v1 a, lowsL_take hxi a, hn a], k1⟩
    refine w_gn ?_
    cases t with
    | elder a b =>
      show dIf _ _ _ _ [some (.tup [.fin (ns.map D.str), .tup (ts.map Th.d)]), some (.obj pl), some (.tup [.str "elder", sD a, sD b]), x3] g'
      repeat walk_at "d"
      refine w_ite (fun hc => absurd (by simpa using hc) n3) fun _ => ?_
      refine iteF ?_
      exact same fun _ => rfl
    | ware a =>
      show dIf _ _ _ _ [some (.tup [.fin (ns.map D.str), .tup (ts.map Th.d)]), some (.obj pl), some (.tup [.str "ware", sD a]), x3] g'
      repeat walk_at "d"
      refine w_ite (fun hc => absurd (by simpa using hc) n5) fun _ => ?_
      refine iteF ?_
      exact same fun _ => rfl
    | series rows =>
      show dIf _ _ _ _ [some (.tup [.fin (ns.map D.str), .tup (ts.map Th.d)]), some (.obj pl), some (.tup [.str "series", .tup (rows.map rowD)]), x3] g'
      repeat walk_at "d"
      refine w_ite (fun hc => absurd (by simpa using hc) n8) fun _ => ?_
      refine iteF ?_
      exact same fun _ => rfl
    | years lot lo hi =>
      show dIf _ _ _ _ [some (.tup [.fin (ns.map D.str), .tup (ts.map Th.d)]), some (.obj pl), some (.tup [.str "years", .tup (lot.map D.str), oD lo, oD hi]), x3] g'
      repeat walk_at "d"
      refine w_ite (fun _ => ?_) fun hc => absurd (by simp) hc
      repeat walk_at "d"
      cases lo with
      | none =>
        refine w_ite (fun hc => Bool.noConfusion hc) fun _ => ?_
        exact same fun _ => rfl
      | some x =>
        refine w_ite (fun _ => ?_) fun hc => absurd rfl hc
        repeat walk_at "d"
        have hll : lot.length ≤ 100 := htm
        refine ⟨fun j ρ' g' => ∃ (x3 : Option D) (kvs : List (Key × D)), ρ' = [some (.tup [.fin (ns.map D.str), .tup (ts.map Th.d)]), some (.obj pl), some (.tup [.str "years", .tup (lot.map D.str), oD (some x), oD hi]), x3] ∧ g' pl = some (.dK kvs) ∧ kvs.length ≤ i * 100 + j ∧ (∀ a, valD kvs (.inr a) = (if a ∈ lot.take j then mxS (maxO (lowsL (ts.take i) a)) x else maxO (lowsL (ts.take i) a)).map D.int) ∧ Kp g g', ⟨_, kvs, rfl, e1, by omega, fun a => by rw [v1 a, List.take_zero, if_neg (by simp)], k1⟩, fun _ _ _ _ => trivial, ?_, ?_⟩
        · rintro j y ρ' g' hy ⟨x3, kvs, rfl, e2, l2, v2, k2⟩
          rw [List.getElem?_map] at hy
          cases hyj : lot[j]? with
          | none => rw [hyj] at hy; cases hy
          | some z =>
          rw [hyj] at hy
          cases hy
          have hjl : j < lot.length := (List.getElem?_eq_some_iff.mp hyj).1
          repeat walk_at "d"
          refine ⟨pl, rfl, ⟨kvs, e2⟩, ?_⟩
          repeat walk_at "d"
          refine ⟨kvs, .inr z, e2, rfl, ?_⟩
          rw [v2 z, show oD (some x) = D.int x from rfl, optI]
          repeat walk_at "d"
          refine v_stK (k := .inr z) e2 rfl (by rw [sizeLine_eq]; omega) ?_
          repeat walk_at "d"
          refine ⟨_, _, rfl, gup_same, by have := putD_length kvs (.inr z) (.int (if (if z ∈ lot.take j then mxS (maxO (lowsL (ts.take i) z)) x else maxO (lowsL (ts.take i) z)).getD x > x then (if z ∈ lot.take j then mxS (maxO (lowsL (ts.take i) z)) x else maxO (lowsL (ts.take i) z)).getD x else x)); omega, fun a => ?_, k2.put hpl⟩
          rw [valD_put]
          by_cases ha : a = z
          · subst ha
            have hmem : a ∈ lot.take (j + 1) := by rw [List.take_add_one, hyj]; simp
            rw [if_pos rfl, if_pos hmem]
            by_cases hm : a ∈ lot.take j
            · rw [if_pos hm]
              show (mxS (mxS (maxO (lowsL (ts.take i) a)) x) x).map D.int = _
              rw [mxS_twice]
            · rw [if_neg hm]; rfl
          · rw [if_neg (by intro h; injection h with h; exact ha h), v2 a]
            have : (a ∈ lot.take (j + 1)) = (a ∈ lot.take j) := by
              rw [List.take_add_one, hyj]
              simp [ha]
            simp only [this]
        · rintro ρ' g' ⟨x3, kvs, rfl, e2, l2, v2, k2⟩
          rw [List.length_map] at l2
          refine ⟨_, _, kvs, rfl, e2, by omega, fun a => ?_, k2⟩
          rw [v2 a, lowsL_take hxi a, List.length_map, List.take_length]
          show _ = (match (if a ∈ lot then some x else none) with | some x => _ | none => _ : Option Int).map D.int
          by_cases ha : a ∈ lot
          · rw [if_pos ha, if_pos ha]
          · rw [if_neg ha, if_neg ha]
  · rintro ρ' g' ⟨x2, x3, kvs, rfl, e1, l1, v1, k1⟩
    rw [List.length_map, List.take_length] at v1
    repeat walk_at "d"
    refine w_lc ?_
    repeat walk_at "d"
    refine ⟨by rw [List.length_map, sizeLine_eq]; omega, fun i acc g2 => acc = (ns.take i).map (fun a => oD (maxO (lowsL ts a))) ∧ g2 = g', ⟨rfl, rfl⟩, fun _ _ _ _ => trivial, ?_, ?_⟩
    · rintro i x acc g2 hx ⟨rfl, rfl⟩
      rw [List.getElem?_map] at hx
      cases hxi : ns[i]? with
      | none => rw [hxi] at hx; cases hx
      | some z =>
      rw [hxi] at hx
      cases hx
      repeat walk_at "d"
      refine ⟨pl, rfl, ⟨kvs, e1⟩, ?_⟩
      repeat walk_at "d"
      refine ⟨kvs, .inr z, e1, rfl, ?_⟩
      rw [v1 z, optN, List.take_add_one, hxi]
      exact ⟨by simp, rfl⟩
    · rintro acc g2 p ⟨rfl, rfl⟩ _ hp
      repeat walk_at "d"
      rw [List.length_map, List.take_length]
      exact hQ _ (k1.trans (Kp.new hp))

def hiT : Th → Str → Option Int
  | .years lot _ (some x), a => if a ∈ lot then some x else none
  | _, _ => none
def highsL (ts : List Th) (a : Str) : List Int := ts.filterMap fun t => hiT t a
def mnS (o : Option Int) (x : Int) : Option Int := some (if o.getD x < x then o.getD x else x)
def minO (L : List Int) : Option Int := L.foldl mnS none
theorem minO_add (L : List Int) (x : Int) : minO (L ++ [x]) = mnS (minO L) x := by unfold minO; rw [List.foldl_append]; rfl
theorem mnS_twice (o : Option Int) (x : Int) : mnS (mnS o x) x = mnS o x := by
  unfold mnS
  simp only [Option.getD_some]
  split <;> simp_all
theorem highsL_take {ts : List Th} {i : Nat} {t : Th} (h : ts[i]? = some t) (a : Str) : minO (highsL (ts.take (i + 1)) a) = match hiT t a with | some x => mnS (minO (highsL (ts.take i) a)) x | none => minO (highsL (ts.take i) a) := by
  unfold highsL
  rw [List.take_add_one, h, List.filterMap_append]
  cases e : hiT t a with
  | none => simp [e]
  | some x => simp [e]; exact minO_add _ x
/-- the greatest, none of nothing -/
theorem minO_is (L : List Int) : (L = [] ∧ minO L = none) ∨ ∃ m, minO L = some m ∧ m ∈ L ∧ ∀ y ∈ L, m ≤ y := by
  have : ∀ l : List Int, (l.reverse = [] ∧ minO l.reverse = none) ∨ ∃ m, minO l.reverse = some m ∧ m ∈ l.reverse ∧ ∀ y ∈ l.reverse, m ≤ y := by
    intro l
    induction l with
    | nil => exact .inl ⟨rfl, rfl⟩
    | cons x r ih =>
      refine .inr ?_
      rw [List.reverse_cons, minO_add]
      rcases ih with ⟨e1, e2⟩ | ⟨m, e1, e2, e3⟩
      · rw [e2, e1]
        exact ⟨x, by simp [mnS], by simp, by simp⟩
      · rw [e1]
        unfold mnS
        simp only [Option.getD_some]
        split
        · rename_i h
          refine ⟨m, rfl, List.mem_append_left _ e2, fun y hy => ?_⟩
          rcases List.mem_append.mp hy with hy | hy
          · exact e3 y hy
          · rw [List.mem_singleton.mp hy]; omega
        · rename_i h
          refine ⟨x, rfl, by simp, fun y hy => ?_⟩
          rcases List.mem_append.mp hy with hy | hy
          · have := e3 y hy; omega
          · rw [List.mem_singleton.mp hy]; omega
  have := this L.reverse
  rwa [List.reverse_reverse] at this
def highV (ns : List Str) (ts : List Th) : D := .tup (ns.map fun a => oD (minO (highsL ts a)))
def r_highs : DN := fun ds g Q => ∃ ns ts, ds = [dosD ns ts] ∧ ns.length ≤ 100 ∧ ts.length ≤ 40 ∧ (∀ t ∈ ts, t.Ok) ∧ ∀ g', Kp g g' → Q (highV ns ts) g'
theorem w_highs {ns : List Str} {ts : List Th} {g : G} {Q : D → G → Prop} (h0 : ns.length ≤ 100) (h1 : ts.length ≤ 40) (h2 : ∀ t ∈ ts, t.Ok) (h : ∀ g', Kp g g' → Q (highV ns ts) g') : r_highs [dosD ns ts] g Q := ⟨ns, ts, rfl, h0, h1, h2, h⟩
theorem p_highs (ds : List D) (g : G) (Q : D → G → Prop) (h : r_highs ds g Q) : t_highs_of { nx := fun _ g' => Q .non g', rt := Q } (dstart N_highs_of.length ds) g := by
  obtain ⟨ns, ts, rfl, h0, h1, h2, hQ⟩ := h
  obtain ⟨n1, n2, n3, n4, n5, n6, n7, n8, n9, n10, n11, n12⟩ := ne_ws
  show t_highs_of { nx := fun _ g' => Q .non g', rt := Q } [some (.tup [.fin (ns.map D.str), .tup (ts.map Th.d)]), none, none, none] g
  unfold t_highs_of
  repeat walk_at "d"
  intro pl hpl
  repeat walk_at "d"
  refine w_seq ?_
  repeat walk_at "d"
  refine ⟨fun i ρ' g' => ∃ (x2 x3 : Option D) (kvs : List (Key × D)), ρ' = [some (.tup [.fin (ns.map D.str), .tup (ts.map Th.d)]), some (.obj pl), x2, x3] ∧ g' pl = some (.dK kvs) ∧ kvs.length ≤ i * 100 ∧ (∀ a, valD kvs (.inr a) = (minO (highsL (ts.take i) a)).map D.int) ∧ Kp g g', ⟨_, _, [], rfl, gup_same, Nat.zero_le _, fun a => rfl, Kp.new hpl⟩, fun _ _ _ _ => trivial, ?_, ?_⟩
  · rintro i x ρ' g' hx ⟨x2, x3, kvs, rfl, e1, l1, v1, k1⟩
    rw [List.getElem?_map] at hx
    cases hxi : ts[i]? with
    | none => rw [hxi] at hx; cases hx
    | some t =>
    rw [hxi] at hx
    cases hx
    have htm : t.Ok := h2 t (List.mem_of_getElem? hxi)
    have hil : i < ts.length := (List.getElem?_eq_some_iff.mp hxi).1
    have same : (∀ a, hiT t a = none) → ∃ (x2' x3' : Option D) (kvs : List (Key × D)), [some (.tup [.fin (ns.map D.str), .tup (ts.map Th.d)]), some (.obj pl), some t.d, x3] = [some (.tup [.fin (ns.map D.str), .tup (ts.map Th.d)]), some (.obj pl), x2', x3'] ∧ g' pl = some (.dK kvs) ∧ kvs.length ≤ (i + 1) * 100 ∧ (∀ a, valD kvs (.inr a) = (minO (highsL (ts.take (i + 1)) a)).map D.int) ∧ Kp g g' := fun hn =>
      ⟨_, _, kvs, rfl, e1, by omega, fun a => by rw [v1 a, highsL_take hxi a, hn a], k1⟩
    refine w_gn ?_
    cases t with
    | elder a b =>
      show dIf _ _ _ _ [some (.tup [.fin (ns.map D.str), .tup (ts.map Th.d)]), some (.obj pl), some (.tup [.str "elder", sD a, sD b]), x3] g'
      repeat walk_at "d"
      refine w_ite (fun hc => absurd (by simpa using hc) n3) fun _ => ?_
      refine iteF ?_
      exact same fun _ => rfl
    | ware a =>
      show dIf _ _ _ _ [some (.tup [.fin (ns.map D.str), .tup (ts.map Th.d)]), some (.obj pl), some (.tup [.str "ware", sD a]), x3] g'
      repeat walk_at "d"
      refine w_ite (fun hc => absurd (by simpa using hc) n5) fun _ => ?_
      refine iteF ?_
      exact same fun _ => rfl
    | series rows =>
      show dIf _ _ _ _ [some (.tup [.fin (ns.map D.str), .tup (ts.map Th.d)]), some (.obj pl), some (.tup [.str "series", .tup (rows.map rowD)]), x3] g'
      repeat walk_at "d"
      refine w_ite (fun hc => absurd (by simpa using hc) n8) fun _ => ?_
      refine iteF ?_
      exact same fun _ => rfl
    | years lot lo hi =>
      show dIf _ _ _ _ [some (.tup [.fin (ns.map D.str), .tup (ts.map Th.d)]), some (.obj pl), some (.tup [.str "years", .tup (lot.map D.str), oD lo, oD hi]), x3] g'
      repeat walk_at "d"
      refine w_ite (fun _ => ?_) fun hc => absurd (by simp) hc
      repeat walk_at "d"
      cases hi with
      | none =>
        refine w_ite (fun hc => Bool.noConfusion hc) fun _ => ?_
        exact same fun _ => rfl
      | some x =>
        refine w_ite (fun _ => ?_) fun hc => absurd rfl hc
        repeat walk_at "d"
        have hll : lot.length ≤ 100 := htm
        refine ⟨fun j ρ' g' => ∃ (x3 : Option D) (kvs : List (Key × D)), ρ' = [some (.tup [.fin (ns.map D.str), .tup (ts.map Th.d)]), some (.obj pl), some (.tup [.str "years", .tup (lot.map D.str), oD lo, oD (some x)]), x3] ∧ g' pl = some (.dK kvs) ∧ kvs.length ≤ i * 100 + j ∧ (∀ a, valD kvs (.inr a) = (if a ∈ lot.take j then mnS (minO (highsL (ts.take i) a)) x else minO (highsL (ts.take i) a)).map D.int) ∧ Kp g g', ⟨_, kvs, rfl, e1, by omega, fun a => by rw [v1 a, List.take_zero, if_neg (by simp)], k1⟩, fun _ _ _ _ => trivial, ?_, ?_⟩
        · rintro j y ρ' g' hy ⟨x3, kvs, rfl, e2, l2, v2, k2⟩
          rw [List.getElem?_map] at hy
          cases hyj : lot[j]? with
          | none => rw [hyj] at hy; cases hy
          | some z =>
          rw [hyj] at hy
          cases hy
          have hjl : j < lot.length := (List.getElem?_eq_some_iff.mp hyj).1
          repeat walk_at "d"
          refine ⟨pl, rfl, ⟨kvs, e2⟩, ?_⟩
          repeat walk_at "d"
          refine ⟨kvs, .inr z, e2, rfl, ?_⟩
          rw [v2 z, show oD (some x) = D.int x from rfl, optI]
          repeat walk_at "d"
          refine v_stK (k := .inr z) e2 rfl (by rw [sizeLine_eq]; omega) ?_
          repeat walk_at "d"
          refine ⟨_, _, rfl, gup_same, by have := putD_length kvs (.inr z) (.int (if (if z ∈ lot.take j then mnS (minO (highsL (ts.take i) z)) x else minO (highsL (ts.take i) z)).getD x < x then (if z ∈ lot.take j then mnS (minO (highsL (ts.take i) z)) x else minO (highsL (ts.take i) z)).getD x else x)); omega, fun a => ?_, k2.put hpl⟩
          rw [valD_put]
          by_cases ha : a = z
          · subst ha
            have hmem : a ∈ lot.take (j + 1) := by rw [List.take_add_one, hyj]; simp
            rw [if_pos rfl, if_pos hmem]
            by_cases hm : a ∈ lot.take j
            · rw [if_pos hm]
              show (mnS (mnS (minO (highsL (ts.take i) a)) x) x).map D.int = _
              rw [mnS_twice]
            · rw [if_neg hm]; rfl
          · rw [if_neg (by intro h; injection h with h; exact ha h), v2 a]
            have : (a ∈ lot.take (j + 1)) = (a ∈ lot.take j) := by
              rw [List.take_add_one, hyj]
              simp [ha]
            simp only [this]
        · rintro ρ' g' ⟨x3, kvs, rfl, e2, l2, v2, k2⟩
          rw [List.length_map] at l2
          refine ⟨_, _, kvs, rfl, e2, by omega, fun a => ?_, k2⟩
          rw [v2 a, highsL_take hxi a, List.length_map, List.take_length]
          show _ = (match (if a ∈ lot then some x else none) with | some x => _ | none => _ : Option Int).map D.int
          by_cases ha : a ∈ lot
          · rw [if_pos ha, if_pos ha]
          · rw [if_neg ha, if_neg ha]
  · rintro ρ' g' ⟨x2, x3, kvs, rfl, e1, l1, v1, k1⟩
    rw [List.length_map, List.take_length] at v1
    repeat walk_at "d"
    refine w_lc ?_
    repeat walk_at "d"
    refine ⟨by rw [List.length_map, sizeLine_eq]; omega, fun i acc g2 => acc = (ns.take i).map (fun a => oD (minO (highsL ts a))) ∧ g2 = g', ⟨rfl, rfl⟩, fun _ _ _ _ => trivial, ?_, ?_⟩
    · rintro i x acc g2 hx ⟨rfl, rfl⟩
      rw [List.getElem?_map] at hx
      cases hxi : ns[i]? with
      | none => rw [hxi] at hx; cases hx
      | some z =>
      rw [hxi] at hx
      cases hx
      repeat walk_at "d"
      refine ⟨pl, rfl, ⟨kvs, e1⟩, ?_⟩
      repeat walk_at "d"
      refine ⟨kvs, .inr z, e1, rfl, ?_⟩
      rw [v1 z, optN, List.take_add_one, hxi]
      exact ⟨by simp, rfl⟩
    · rintro acc g2 p ⟨rfl, rfl⟩ _ hp
      repeat walk_at "d"
      rw [List.length_map, List.take_length]
      exact hQ _ (k1.trans (Kp.new hp))
end L2.DL

namespace L2.DL
open PySem PySem.Spec PyProof.Rows
local macro_rules | `(tactic| walk_at "g") => `(tactic| first | assumption | exact gup_same | exact gup_old (by assumption) (by assumption) | exact gup_old (by assumption) (gup_old (by assumption) (by assumption)) | exact gup_old (by assumption) gup_same | exact gup_old (by assumption) (gup_old (by assumption) gup_same) | ((repeat (rw [gup_ne (by first | assumption | (apply Ne.symm; assumption))])); first | exact gup_same | assumption) | rfl)
local macro_rules | `(tactic| walk_at "b") => `(tactic| simp only [Bool.false_xor, Bool.true_xor, decide_eq_true_eq, Bool.not_eq_true', decide_eq_false_iff_not, Bool.and_eq_true, Bool.or_eq_true])
local macro_rules | `(tactic| walk_at "d") => `(tactic| first
  | with_reducible refine' w_seq1 ?_ | with_reducible refine' w_seq2 ?_ | with_reducible refine' w_seq3 ?_ | with_reducible refine' w_seq4 ?_ | with_reducible refine' w_seq5 ?_ | with_reducible refine' w_op ?_ | ((with_reducible refine' w_var ?e ?_); case e => rfl) | with_reducible refine' w_c ?_ | with_reducible refine' w_cons ?_ | with_reducible refine' w_nil ?_
  | with_reducible refine' w_rfl ?_ | ((with_reducible refine' w_len ?e ?_); case e => rfl) | ((with_reducible refine' w_le ?e ?_); case e => (rw [sizeLine_eq]; simp only [List.length_cons, List.length_nil]; omega)) | with_reducible refine' w_set ?_ | with_reducible refine' w_ret ?_ | with_reducible refine' w_if ?_ | with_reducible refine' w_cb ?_ | with_reducible refine' w_call ?_ | with_reducible refine' w_B ?_ | with_reducible refine' w_bl ?_
  | with_reducible refine' w_and ?_ | with_reducible refine' w_or ?_ | with_reducible refine' w_not ?_ | with_reducible refine' w_ifE ?_ | with_reducible refine' w_yes ?_ | with_reducible refine' w_sl ?_ | with_reducible refine' w_nop ?_ | with_reducible refine' w_p ?_ | with_reducible refine' w_in ?_
  | with_reducible refine' w_store ?_ | with_reducible refine' w_augS ?_ | ((with_reducible refine' w_aug ?e ?_); case e => rfl) | with_reducible refine' w_m ?_ | with_reducible refine' w_andV ?_ | with_reducible refine' w_orV ?_ | with_reducible refine' w_notV ?_ | with_reducible refine' w_chain ?_
  | with_reducible refine' w_drop ?_ | with_reducible refine' w_retN ?_ | with_reducible refine' w_nx ?_ | with_reducible refine' w_un ?_ | with_reducible refine' w_tup ?_ | with_reducible refine' w_lst ?_ | with_reducible refine' w_callK ?_ | with_reducible refine' w_callX ?_ | with_reducible refine' w_isi2 ?_ | with_reducible refine' w_get1 ?_ | with_reducible refine' w_get2 ?_ | with_reducible refine' w_rng1 ?_
  | with_reducible refine' v_add ?_ | with_reducible refine' v_intB ?_ | with_reducible refine' v_neg ?_ | with_reducible refine' v_eqS ?_ | with_reducible refine' v_eqI ?_ | with_reducible refine' v_eqB ?_ | with_reducible refine' v_eqN ?_ | with_reducible refine' v_is ?_ | with_reducible refine' v_intI ?_ | with_reducible refine' v_intBl ?_ | with_reducible refine' v_abs ?_
  | with_reducible refine' v_max2 ?_ | with_reducible refine' v_min2 ?_ | with_reducible refine' v_lenT ?_ | with_reducible refine' v_lenF ?_ | with_reducible refine' v_lenC ?_ | with_reducible refine' v_slT ?_ | with_reducible refine' v_slC ?_ | with_reducible refine' v_ipA ?_ | with_reducible refine' v_ipS ?_ | with_reducible refine' v_mtS ?_
  | with_reducible refine' iteT ?_ | with_reducible refine' iteF ?_
  | ((with_reducible refine' v_mul ?c ?_); case c => (unfold CMul; first | (apply Or.inr; constructor <;> decide) | (apply Or.inl; constructor <;> decide) | (apply Or.inl; constructor <;> omega) | (apply Or.inr; constructor <;> omega)))
  | ((with_reducible refine' v_int ?c ?_); case c => first | exact trivial | (show CPos _ _; first | decide | (show (0:Int) < _; omega)) | (show CDiv _ _; constructor <;> omega) | (show CPow _ _; refine ⟨?_, ?_, ?_⟩ <;> decide))
  | ((with_reducible refine' v_ixT ?c ?_); case c => rfl)
  | ((with_reducible refine' v_ixL ?e ?c ?_); (case e => walk_at "g"); (case c => rfl))
  | ((with_reducible refine' v_lenL ?e ?_); (case e => walk_at "g")) | ((with_reducible refine' v_tupL ?e ?_); (case e => walk_at "g"))
  | ((with_reducible refine' v_gt ?e ?c ?_); (case e => walk_at "g"); (case c => rfl)) | ((with_reducible refine' v_st ?e ?c ?_); (case e => walk_at "g"); (case c => rfl))
  | with_reducible refine' w_for ?_ | with_reducible refine' w_seqI ?_ | with_reducible refine' w_gn ?_ | with_reducible refine' w_gt ?_ | with_reducible refine' w_gc ?_ | with_reducible refine' w_g0 ?_ | with_reducible refine' v_itT ?_ | with_reducible refine' v_itF ?_ | with_reducible refine' v_itC ?_
  | ((with_reducible refine' v_itL ?e ?_); (case e => walk_at "g"))
  | ((with_reducible refine' v_lstL ?e ?_); (case e => walk_at "g")) | ((with_reducible refine' v_addL ?e ?e2 ?l ?_); (case e => walk_at "g"); (case e2 => walk_at "g"); (case l => (rw [sizeLine_eq]; simp only [List.length_cons, List.length_nil]; omega))) | ((with_reducible refine' v_slL ?e ?_); (case e => walk_at "g")) | ((with_reducible refine' v_mtL ?e ?_); (case e => walk_at "g"))
  | dsimp only
  | with_reducible refine' w_par ?_ | ((with_reducible refine' v_addT ?l ?_); (case l => (rw [sizeLine_eq]; simp only [List.length_cons, List.length_nil]; omega))))

theorem w_raise {ρ : Rho} {g : G} {mkD : List D → Option (List (Str × D))} {C : Addr} {W : XW} {ts : DA} {d : DEnds} (h : ts ρ g fun ds g1 => ∃ fs, mkD ds = some fs ∧ ∀ dd, g1 dd = none → W C dd ρ (gup g1 dd (.xd fs))) : dRaise mkD C W ts d ρ g := h
theorem w_idx {ρ : Rho} {g : G} {Q : D → G → Prop} {to : DE} {ts : DA} (h : to ρ g fun x g1 => (∃ fs, x = .fin fs) ∧ ts ρ g1 fun ds g2 => ∃ fs z, x = .fin fs ∧ ds = [.str z] ∧ ∃ ys : List Str, fs = ys.map D.str ∧ z ∈ ys ∧ Q (.int (ys.idxOf z : Nat)) g2) : dIdx to ts ρ g Q := h
theorem w_xf {ρ : Rho} {g : G} {Q : D → G → Prop} {a dd : Addr} {n : Str} {te : DE} (h : te ρ g fun x g1 => x = .obj a ∧ ∃ fs v, g1 dd = some (.xd fs) ∧ fs.lookup n = some v ∧ Q v g1) : dXf a dd n te ρ g Q := h
theorem w_zip {ρ : Rho} {g : G} {R : List D → (G → Prop) → G → Prop} {ts : DA} (h : ts ρ g fun ds g1 => ∃ x y xs ys, ds = [x, y] ∧ tupOf x = some xs ∧ tupOf y = some ys ∧ R (zipD xs ys) (fun _ => True) g1) : dZip ts ρ g R := by
  unfold dZip
  refine Eq.mp (congrArg (ts ρ g) ?_) h
  funext ds g1
  apply propext
  constructor
  · rintro ⟨x, y, xs, ys, rfl, h⟩; exact ⟨xs, ys, h⟩
  · intro h
    split at h
    · obtain ⟨xs, ys, h⟩ := h; exact ⟨_, _, xs, ys, rfl, h⟩
    · exact h.elim
theorem pyDs_ints : ∀ ns : List Int, pyDs (ns.map D.int) = some (ns.map PyData.int)
  | [] => by simp [pyDs]
  | n :: ns => by rw [List.map_cons]; unfold pyDs; rw [pyDs_ints ns]; simp [pyD]
theorem lay_ints : ∀ ns : List Int, PyData.canLayAll0 (ns.map PyData.int) = true ∧ PyData.depthAll (ns.map PyData.int) ≤ 2
  | [] => ⟨rfl, by simp [PyData.depthAll]⟩
  | n :: ns => by
    obtain ⟨h1, h2⟩ := lay_ints ns
    rw [List.map_cons]
    refine ⟨?_, ?_⟩
    · unfold PyData.canLayAll0; rw [h1]; rfl
    · unfold PyData.depthAll
      have : (PyData.int n).depth ≤ 2 := by simp [PyData.depth]
      omega
theorem shaped_ints (ns : List Int) : SeqAt.shaped (.list (ns.map PyData.int)) = true := by
  obtain ⟨h1, h2⟩ := lay_ints ns
  unfold SeqAt.shaped
  rw [Bool.and_eq_true]
  refine ⟨by unfold PyData.canLay0; exact h1, ?_⟩
  have : (PyData.list (ns.map PyData.int)).depth ≤ 64 := by unfold PyData.depth; omega
  exact decide_eq_true this
theorem eq_ints_nil {g : G} {p q : Addr} {ns : List Int} {neg : Bool} {Q : D → G → Prop} (e : g p = some (.lst (ns.map D.int))) (e2 : g q = some (.lst [])) (h : Q (.bl (neg ^^ decide (ns = []))) g) : eqD neg (.obj p) (.obj q) g Q := by
  refine ⟨.list (ns.map PyData.int), .list [], by simp [pyG, e, pyDs_ints], by simp [pyG, e2, pyDs], shaped_ints ns, shaped_ints [], ?_⟩
  have : PyData.eqv (.list (ns.map PyData.int)) (.list []) = decide (ns = []) := by
    cases ns with
    | nil => simp [PyData.eqv, PyData.eqvAll]
    | cons n ns => simp [PyData.eqv, PyData.eqvAll]
  rw [this]
  exact h
theorem zip_map (ns : List Str) (f : Str → D) : zipD (ns.map D.str) (ns.map f) = ns.map fun a => .tup [.str a, f a] := by
  unfold zipD
  induction ns with
  | nil => rfl
  | cons a ns ih => simp [ih]
structure DosOk (ns : List Str) (ts : List Th) : Prop where
  n : ns.length ≤ 100
  t : ts.length ≤ 40
  ok : ∀ t ∈ ts, t.Ok
theorem atI_map {ns : List Str} {a : Str} (f : Str → D) (h : a ∈ ns) : atI (ns.map f) (ns.idxOf a : Nat) = some (f a) := by
  obtain ⟨e1, _⟩ := idxOf_at h
  have hl := List.idxOf_lt_length_of_mem h
  unfold atI ixN
  rw [if_pos (by omega), if_pos (by rw [List.length_map]; omega)]
  show (ns.map f)[((ns.idxOf a : Nat) : Int).toNat]? = _
  rw [Int.toNat_natCast, List.getElem?_map, e1]
  rfl

def r_low_of (C : Addr) : DNX := fun ds g Q E => ∃ ns ts a, ds = [dosD ns ts, .str a] ∧ DosOk ns ts ∧ ((a ∈ ns ∧ ∀ g', Kp g g' → Q (oD (maxO (lowsL ts a))) g') ∨ (a ∉ ns ∧ a.length ≤ 1000 ∧ ∀ dd g', Kp g g' → g' dd = some (.xd [("name", .str a)]) → E C dd g'))
theorem p_low_of (C : Addr) (ds : List D) (g : G) (Q : D → G → Prop) (E0 : Addr → Addr → G → Prop) (h : r_low_of C ds g Q E0) : t_low_of r_lows C (mkS "name") (fun C dd _ g' => E0 C dd g') { nx := fun _ g' => Q .non g', rt := Q } (dstart N_low_of.length ds) g := by
  obtain ⟨ns, ts, a, rfl, ok, hQ⟩ := h
  show t_low_of r_lows C (mkS "name") (fun C dd _ g' => E0 C dd g') { nx := fun _ g' => Q .non g', rt := Q } [some (.tup [.fin (ns.map D.str), .tup (ts.map Th.d)]), some (.str a)] g
  unfold t_low_of
  refine w_seq ?_
  repeat walk_at "d"
  refine inD_strs (xs := ns) rfl ?_
  repeat walk_at "d"
  refine w_ite (fun hc => ?_) (fun hc => ?_)
  · have hn : a ∉ ns := by simpa using hc
    obtain ⟨h1, _⟩ | ⟨_, h2, h3⟩ := hQ
    · exact absurd h1 hn
    · refine w_raise ?_
      repeat walk_at "d"
      exact ⟨[("name", .str a)], by show (if a.length ≤ 1000 then _ else _) = _; rw [if_pos h2], fun dd hdd => h3 dd _ (Kp.new hdd) gup_same⟩
  · have hn : a ∈ ns := by simpa using hc
    obtain ⟨_, h1⟩ | ⟨h2, _⟩ := hQ
    · repeat walk_at "d"
      refine w_lows ok.n ok.t ok.ok fun g1 k1 => ?_
      refine w_idx ?_
      repeat walk_at "d"
      refine ⟨⟨_, rfl⟩, ?_⟩
      repeat walk_at "d"
      refine ⟨_, a, rfl, rfl, ns, rfl, hn, ?_⟩
      refine v_ixT (atI_map _ hn) ?_
      exact h1 g1 k1
    · exact absurd hn h2
def optLo (ts : List Th) (a : Str) : List (Option Int) := ts.filterMap fun t => match t with
  | .years lot lo hi => if a ∈ lot then some lo else none
  | _ => none
theorem optLo_low (ts : List Th) (a : Str) : lowsL ts a = (optLo ts a).filterMap id := by
  unfold lowsL optLo
  rw [List.filterMap_filterMap]
  congr 1
  funext t
  cases t with
  | years lot lo hi =>
    show loT _ _ = _
    unfold loT
    cases lo with
    | none => by_cases h : a ∈ lot <;> simp [h]
    | some x => by_cases h : a ∈ lot <;> simp [h]
  | _ => rfl
theorem optLo_len (ts : List Th) (a : Str) : (optLo ts a).length ≤ ts.length := List.length_filterMap_le ..
def r_llow : DN := fun ds g Q => ∃ ns ts a, ds = [dosD ns ts, .str a] ∧ DosOk ns ts ∧ ∀ g', Kp g g' → Q (oD (maxO (lowsL ts a))) g'
theorem w_llow {ns : List Str} {ts : List Th} {a : Str} {g : G} {Q : D → G → Prop} (h0 : DosOk ns ts) (h : ∀ g', Kp g g' → Q (oD (maxO (lowsL ts a))) g') : r_llow [dosD ns ts, .str a] g Q := ⟨ns, ts, a, rfl, h0, h⟩
theorem p_llow (ds : List D) (g : G) (Q : D → G → Prop) (h : r_llow ds g Q) : t__law_low { nx := fun _ g' => Q .non g', rt := Q } (dstart N__law_low.length ds) g := by
  obtain ⟨ns, ts, a, rfl, ok, hQ⟩ := h
  obtain ⟨n1, n2, n3, n4, n5, n6, n7, n8, n9, n10, n11, n12⟩ := ne_ws
  show t__law_low { nx := fun _ g' => Q .non g', rt := Q } [some (.tup [.fin (ns.map D.str), .tup (ts.map Th.d)]), some (.str a), none, none, none] g
  unfold t__law_low
  refine w_seq ?_
  refine w_set ?_
  refine w_lc ?_
  repeat walk_at "d"
  have htl := ok.t
  refine ⟨by rw [List.length_map, sizeLine_eq]; omega, fun i acc g' => acc = (optLo (ts.take i) a).map oD ∧ g' = g, ⟨rfl, rfl⟩, fun _ _ _ _ => trivial, ?_, ?_⟩
  · rintro i x acc g' hx ⟨rfl, rfl⟩
    rw [List.getElem?_map] at hx
    cases hxi : ts[i]? with
    | none => rw [hxi] at hx; cases hx
    | some t =>
    rw [hxi] at hx
    cases hx
    have stp : optLo (ts.take (i + 1)) a = optLo (ts.take i) a ++ (optLo [t] a) := by
      unfold optLo
      rw [List.take_add_one, hxi, List.filterMap_append]
      rfl
    refine w_gn ?_
    cases t with
    | elder u v =>
      rw [show (Th.elder u v).d = D.tup [.str "elder", sD u, sD v] from rfl]
      repeat walk_at "d"
      refine w_ite (fun hc => absurd (by simpa using hc) n3) fun _ => ?_
      refine iteF ?_
      exact ⟨by rw [stp]; simp [optLo], rfl⟩
    | ware u =>
      rw [show (Th.ware u).d = D.tup [.str "ware", sD u] from rfl]
      repeat walk_at "d"
      refine w_ite (fun hc => absurd (by simpa using hc) n5) fun _ => ?_
      refine iteF ?_
      exact ⟨by rw [stp]; simp [optLo], rfl⟩
    | series rows =>
      rw [show (Th.series rows).d = D.tup [.str "series", .tup (rows.map rowD)] from rfl]
      repeat walk_at "d"
      refine w_ite (fun hc => absurd (by simpa using hc) n8) fun _ => ?_
      refine iteF ?_
      exact ⟨by rw [stp]; simp [optLo], rfl⟩
    | years lot lo hi =>
      rw [show (Th.years lot lo hi).d = D.tup [.str "years", .tup (lot.map D.str), oD lo, oD hi] from rfl]
      repeat walk_at "d"
      refine w_ite (fun _ => ?_) fun hc => absurd (by simp) hc
      repeat walk_at "d"
      refine inD_strs (xs := lot) rfl ?_
      repeat walk_at "d"
      refine w_ite (fun hc => ?_) (fun hc => ?_)
      · have hm : a ∈ lot := by simpa using hc
        repeat walk_at "d"
        exact ⟨by rw [stp]; simp [optLo, hm], rfl⟩
      · have hm : a ∉ lot := by simpa using hc
        exact ⟨by rw [stp]; simp [optLo, hm], rfl⟩
  · rintro acc g' p1 ⟨rfl, rfl⟩ _ hp1
    rw [List.length_map, List.take_length]
    have hol := optLo_len ts a
    generalize optLo_low ts a = eqn
    refine w_seq ?_
    refine w_set ?_
    refine w_lc ?_
    repeat walk_at "d"
    refine ⟨by rw [List.length_map, sizeLine_eq]; omega, fun i acc g2 => acc = (((optLo ts a).take i).filterMap id).map D.int ∧ g2 = gup g' p1 (.lst ((optLo ts a).map oD)), ⟨rfl, rfl⟩, fun i acc g2 h => by rw [h.2]; exact gup_same, ?_, ?_⟩
    · rintro i x acc g2 hx ⟨rfl, rfl⟩
      rw [List.getElem?_map] at hx
      cases hxi : (optLo ts a)[i]? with
      | none => rw [hxi] at hx; cases hx
      | some o =>
      rw [hxi] at hx
      cases hx
      cases o with
      | none =>
        repeat walk_at "d"
        refine w_ite (fun hc => Bool.noConfusion hc) fun _ => ?_
        exact ⟨by rw [List.take_add_one, hxi]; simp, rfl⟩
      | some v =>
        repeat walk_at "d"
        refine w_ite (fun _ => ?_) fun hc => absurd rfl hc
        repeat walk_at "d"
        exact ⟨by rw [List.take_add_one, hxi]; simp [oD], rfl⟩
    · rintro acc g2 p2 ⟨rfl, rfl⟩ _ hp2
      rw [List.length_map, List.take_length, ← eqn]
      repeat walk_at "d"
      intro p3 hp3
      have e2 : (gup (gup (gup g' p1 (.lst ((optLo ts a).map oD))) p2 (.lst ((lowsL ts a).map D.int))) p3 (.lst [])) p2 = some (.lst ((lowsL ts a).map D.int)) := gup_old hp3 gup_same
      refine eq_ints_nil e2 gup_same ?_
      have kk : Kp g' (gup (gup (gup g' p1 (.lst ((optLo ts a).map oD))) p2 (.lst ((lowsL ts a).map D.int))) p3 (.lst [])) := (Kp.new hp1).trans ((Kp.new hp2).trans (Kp.new hp3))
      have fin := hQ _ kk
      repeat walk_at "d"
      rcases maxO_is (lowsL ts a) with ⟨h1, h2⟩ | ⟨m, h1, h2, h3⟩
      · refine w_ite (fun hc => absurd hc (by simp [h1])) fun _ => ?_
        repeat walk_at "d"
        rw [h2] at fin
        exact fin
      · have hne : lowsL ts a ≠ [] := fun z => by rw [z] at h2; cases h2
        refine w_ite (fun _ => ?_) fun hc => absurd (by simp [hne]) hc
        repeat walk_at "d"
        refine ⟨lowsL ts a, by simp only [lstOf, e2], List.length_pos_iff.mpr hne, fun m' hm' hy => ?_⟩
        have : m' = m := by
          have a1 := hy m h2
          have a2 := h3 m' hm'
          omega
        subst this
        rw [h1] at fin
        exact fin

def r_high_of (C : Addr) : DNX := fun ds g Q E => ∃ ns ts a, ds = [dosD ns ts, .str a] ∧ DosOk ns ts ∧ ((a ∈ ns ∧ ∀ g', Kp g g' → Q (oD (minO (highsL ts a))) g') ∨ (a ∉ ns ∧ a.length ≤ 1000 ∧ ∀ dd g', Kp g g' → g' dd = some (.xd [("name", .str a)]) → E C dd g'))
theorem p_high_of (C : Addr) (ds : List D) (g : G) (Q : D → G → Prop) (E0 : Addr → Addr → G → Prop) (h : r_high_of C ds g Q E0) : t_high_of r_highs C (mkS "name") (fun C dd _ g' => E0 C dd g') { nx := fun _ g' => Q .non g', rt := Q } (dstart N_high_of.length ds) g := by
  obtain ⟨ns, ts, a, rfl, ok, hQ⟩ := h
  show t_high_of r_highs C (mkS "name") (fun C dd _ g' => E0 C dd g') { nx := fun _ g' => Q .non g', rt := Q } [some (.tup [.fin (ns.map D.str), .tup (ts.map Th.d)]), some (.str a)] g
  unfold t_high_of
  refine w_seq ?_
  repeat walk_at "d"
  refine inD_strs (xs := ns) rfl ?_
  repeat walk_at "d"
  refine w_ite (fun hc => ?_) (fun hc => ?_)
  · have hn : a ∉ ns := by simpa using hc
    obtain ⟨h1, _⟩ | ⟨_, h2, h3⟩ := hQ
    · exact absurd h1 hn
    · refine w_raise ?_
      repeat walk_at "d"
      exact ⟨[("name", .str a)], by show (if a.length ≤ 1000 then _ else _) = _; rw [if_pos h2], fun dd hdd => h3 dd _ (Kp.new hdd) gup_same⟩
  · have hn : a ∈ ns := by simpa using hc
    obtain ⟨_, h1⟩ | ⟨h2, _⟩ := hQ
    · repeat walk_at "d"
      refine w_highs ok.n ok.t ok.ok fun g1 k1 => ?_
      refine w_idx ?_
      repeat walk_at "d"
      refine ⟨⟨_, rfl⟩, ?_⟩
      repeat walk_at "d"
      refine ⟨_, a, rfl, rfl, ns, rfl, hn, ?_⟩
      refine v_ixT (atI_map _ hn) ?_
      exact h1 g1 k1
    · exact absurd hn h2
def optHi (ts : List Th) (a : Str) : List (Option Int) := ts.filterMap fun t => match t with
  | .years lot lo hi => if a ∈ lot then some hi else none
  | _ => none
theorem optHi_low (ts : List Th) (a : Str) : highsL ts a = (optHi ts a).filterMap id := by
  unfold highsL optHi
  rw [List.filterMap_filterMap]
  congr 1
  funext t
  cases t with
  | years lot lo hi =>
    show hiT _ _ = _
    unfold hiT
    cases hi with
    | none => by_cases h : a ∈ lot <;> simp [h]
    | some x => by_cases h : a ∈ lot <;> simp [h]
  | _ => rfl
theorem optHi_len (ts : List Th) (a : Str) : (optHi ts a).length ≤ ts.length := List.length_filterMap_le ..
def r_lhigh : DN := fun ds g Q => ∃ ns ts a, ds = [dosD ns ts, .str a] ∧ DosOk ns ts ∧ ∀ g', Kp g g' → Q (oD (minO (highsL ts a))) g'
theorem w_lhigh {ns : List Str} {ts : List Th} {a : Str} {g : G} {Q : D → G → Prop} (h0 : DosOk ns ts) (h : ∀ g', Kp g g' → Q (oD (minO (highsL ts a))) g') : r_lhigh [dosD ns ts, .str a] g Q := ⟨ns, ts, a, rfl, h0, h⟩
theorem p_lhigh (ds : List D) (g : G) (Q : D → G → Prop) (h : r_lhigh ds g Q) : t__law_high { nx := fun _ g' => Q .non g', rt := Q } (dstart N__law_high.length ds) g := by
  obtain ⟨ns, ts, a, rfl, ok, hQ⟩ := h
  obtain ⟨n1, n2, n3, n4, n5, n6, n7, n8, n9, n10, n11, n12⟩ := ne_ws
  show t__law_high { nx := fun _ g' => Q .non g', rt := Q } [some (.tup [.fin (ns.map D.str), .tup (ts.map Th.d)]), some (.str a), none, none, none] g
  unfold t__law_high
  refine w_seq ?_
  refine w_set ?_
  refine w_lc ?_
  repeat walk_at "d"
  have htl := ok.t
  refine ⟨by rw [List.length_map, sizeLine_eq]; omega, fun i acc g' => acc = (optHi (ts.take i) a).map oD ∧ g' = g, ⟨rfl, rfl⟩, fun _ _ _ _ => trivial, ?_, ?_⟩
  · rintro i x acc g' hx ⟨rfl, rfl⟩
    rw [List.getElem?_map] at hx
    cases hxi : ts[i]? with
    | none => rw [hxi] at hx; cases hx
    | some t =>
    rw [hxi] at hx
    cases hx
    have stp : optHi (ts.take (i + 1)) a = optHi (ts.take i) a ++ (optHi [t] a) := by
      unfold optHi
      rw [List.take_add_one, hxi, List.filterMap_append]
      rfl
    refine w_gn ?_
    cases t with
    | elder u v =>
      rw [show (Th.elder u v).d = D.tup [.str "elder", sD u, sD v] from rfl]
      repeat walk_at "d"
      refine w_ite (fun hc => absurd (by simpa using hc) n3) fun _ => ?_
      refine iteF ?_
      exact ⟨by rw [stp]; simp [optHi], rfl⟩
    | ware u =>
      rw [show (Th.ware u).d = D.tup [.str "ware", sD u] from rfl]
      repeat walk_at "d"
      refine w_ite (fun hc => absurd (by simpa using hc) n5) fun _ => ?_
      refine iteF ?_
      exact ⟨by rw [stp]; simp [optHi], rfl⟩
    | series rows =>
      rw [show (Th.series rows).d = D.tup [.str "series", .tup (rows.map rowD)] from rfl]
      repeat walk_at "d"
      refine w_ite (fun hc => absurd (by simpa using hc) n8) fun _ => ?_
      refine iteF ?_
      exact ⟨by rw [stp]; simp [optHi], rfl⟩
    | years lot lo hi =>
      rw [show (Th.years lot lo hi).d = D.tup [.str "years", .tup (lot.map D.str), oD lo, oD hi] from rfl]
      repeat walk_at "d"
      refine w_ite (fun _ => ?_) fun hc => absurd (by simp) hc
      repeat walk_at "d"
      refine inD_strs (xs := lot) rfl ?_
      repeat walk_at "d"
      refine w_ite (fun hc => ?_) (fun hc => ?_)
      · have hm : a ∈ lot := by simpa using hc
        repeat walk_at "d"
        exact ⟨by rw [stp]; simp [optHi, hm], rfl⟩
      · have hm : a ∉ lot := by simpa using hc
        exact ⟨by rw [stp]; simp [optHi, hm], rfl⟩
  · rintro acc g' p1 ⟨rfl, rfl⟩ _ hp1
    rw [List.length_map, List.take_length]
    have hol := optHi_len ts a
    generalize optHi_low ts a = eqn
    refine w_seq ?_
    refine w_set ?_
    refine w_lc ?_
    repeat walk_at "d"
    refine ⟨by rw [List.length_map, sizeLine_eq]; omega, fun i acc g2 => acc = (((optHi ts a).take i).filterMap id).map D.int ∧ g2 = gup g' p1 (.lst ((optHi ts a).map oD)), ⟨rfl, rfl⟩, fun i acc g2 h => by rw [h.2]; exact gup_same, ?_, ?_⟩
    · rintro i x acc g2 hx ⟨rfl, rfl⟩
      rw [List.getElem?_map] at hx
      cases hxi : (optHi ts a)[i]? with
      | none => rw [hxi] at hx; cases hx
      | some o =>
      rw [hxi] at hx
      cases hx
      cases o with
      | none =>
        repeat walk_at "d"
        refine w_ite (fun hc => Bool.noConfusion hc) fun _ => ?_
        exact ⟨by rw [List.take_add_one, hxi]; simp, rfl⟩
      | some v =>
        repeat walk_at "d"
        refine w_ite (fun _ => ?_) fun hc => absurd rfl hc
        repeat walk_at "d"
        exact ⟨by rw [List.take_add_one, hxi]; simp [oD], rfl⟩
    · rintro acc g2 p2 ⟨rfl, rfl⟩ _ hp2
      rw [List.length_map, List.take_length, ← eqn]
      repeat walk_at "d"
      intro p3 hp3
      have e2 : (gup (gup (gup g' p1 (.lst ((optHi ts a).map oD))) p2 (.lst ((highsL ts a).map D.int))) p3 (.lst [])) p2 = some (.lst ((highsL ts a).map D.int)) := gup_old hp3 gup_same
      refine eq_ints_nil e2 gup_same ?_
      have kk : Kp g' (gup (gup (gup g' p1 (.lst ((optHi ts a).map oD))) p2 (.lst ((highsL ts a).map D.int))) p3 (.lst [])) := (Kp.new hp1).trans ((Kp.new hp2).trans (Kp.new hp3))
      have fin := hQ _ kk
      repeat walk_at "d"
      rcases minO_is (highsL ts a) with ⟨h1, h2⟩ | ⟨m, h1, h2, h3⟩
      · refine w_ite (fun hc => absurd hc (by simp [h1])) fun _ => ?_
        repeat walk_at "d"
        rw [h2] at fin
        exact fin
      · have hne : highsL ts a ≠ [] := fun z => by rw [z] at h2; cases h2
        refine w_ite (fun _ => ?_) fun hc => absurd (by simp [hne]) hc
        repeat walk_at "d"
        refine ⟨highsL ts a, by simp only [lstOf, e2], List.length_pos_iff.mpr hne, fun m' hm' hy => ?_⟩
        have : m' = m := by
          have a1 := hy m h2
          have a2 := h3 m' hm'
          omega
        subst this
        rw [h1] at fin
        exact fin
end L2.DL

namespace L2.DL
open PySem PySem.Spec PyProof.Rows
local macro_rules | `(tactic| walk_at "g") => `(tactic| first | assumption | exact gup_same | exact gup_old (by assumption) (by assumption) | exact gup_old (by assumption) (gup_old (by assumption) (by assumption)) | exact gup_old (by assumption) gup_same | exact gup_old (by assumption) (gup_old (by assumption) gup_same) | ((repeat (rw [gup_ne (by first | assumption | (apply Ne.symm; assumption))])); first | exact gup_same | assumption) | rfl)
local macro_rules | `(tactic| walk_at "b") => `(tactic| simp only [Bool.false_xor, Bool.true_xor, decide_eq_true_eq, Bool.not_eq_true', decide_eq_false_iff_not, Bool.and_eq_true, Bool.or_eq_true])
local macro_rules | `(tactic| walk_at "d") => `(tactic| first
  | with_reducible refine' w_seq1 ?_ | with_reducible refine' w_seq2 ?_ | with_reducible refine' w_seq3 ?_ | with_reducible refine' w_seq4 ?_ | with_reducible refine' w_seq5 ?_ | with_reducible refine' w_op ?_ | ((with_reducible refine' w_var ?e ?_); case e => rfl) | with_reducible refine' w_c ?_ | with_reducible refine' w_cons ?_ | with_reducible refine' w_nil ?_
  | with_reducible refine' w_rfl ?_ | ((with_reducible refine' w_len ?e ?_); case e => rfl) | ((with_reducible refine' w_le ?e ?_); case e => (rw [sizeLine_eq]; simp only [List.length_cons, List.length_nil]; omega)) | with_reducible refine' w_set ?_ | with_reducible refine' w_ret ?_ | with_reducible refine' w_if ?_ | with_reducible refine' w_cb ?_ | with_reducible refine' w_call ?_ | with_reducible refine' w_B ?_ | with_reducible refine' w_bl ?_
  | with_reducible refine' w_and ?_ | with_reducible refine' w_or ?_ | with_reducible refine' w_not ?_ | with_reducible refine' w_ifE ?_ | with_reducible refine' w_yes ?_ | with_reducible refine' w_sl ?_ | with_reducible refine' w_nop ?_ | with_reducible refine' w_p ?_ | with_reducible refine' w_in ?_
  | with_reducible refine' w_store ?_ | with_reducible refine' w_augS ?_ | ((with_reducible refine' w_aug ?e ?_); case e => rfl) | with_reducible refine' w_m ?_ | with_reducible refine' w_andV ?_ | with_reducible refine' w_orV ?_ | with_reducible refine' w_notV ?_ | with_reducible refine' w_chain ?_
  | with_reducible refine' w_drop ?_ | with_reducible refine' w_retN ?_ | with_reducible refine' w_nx ?_ | with_reducible refine' w_un ?_ | with_reducible refine' w_tup ?_ | with_reducible refine' w_lst ?_ | with_reducible refine' w_callK ?_ | with_reducible refine' w_callX ?_ | with_reducible refine' w_isi2 ?_ | with_reducible refine' w_get1 ?_ | with_reducible refine' w_get2 ?_ | with_reducible refine' w_rng1 ?_
  | with_reducible refine' v_add ?_ | with_reducible refine' v_intB ?_ | with_reducible refine' v_neg ?_ | with_reducible refine' v_eqS ?_ | with_reducible refine' v_eqI ?_ | with_reducible refine' v_eqB ?_ | with_reducible refine' v_eqN ?_ | with_reducible refine' v_is ?_ | with_reducible refine' v_intI ?_ | with_reducible refine' v_intBl ?_ | with_reducible refine' v_abs ?_
  | with_reducible refine' v_max2 ?_ | with_reducible refine' v_min2 ?_ | with_reducible refine' v_lenT ?_ | with_reducible refine' v_lenF ?_ | with_reducible refine' v_lenC ?_ | with_reducible refine' v_slT ?_ | with_reducible refine' v_slC ?_ | with_reducible refine' v_ipA ?_ | with_reducible refine' v_ipS ?_ | with_reducible refine' v_mtS ?_
  | with_reducible refine' iteT ?_ | with_reducible refine' iteF ?_
  | ((with_reducible refine' v_mul ?c ?_); case c => (unfold CMul; first | (apply Or.inr; constructor <;> decide) | (apply Or.inl; constructor <;> decide) | (apply Or.inl; constructor <;> omega) | (apply Or.inr; constructor <;> omega)))
  | ((with_reducible refine' v_int ?c ?_); case c => first | exact trivial | (show CPos _ _; first | decide | (show (0:Int) < _; omega)) | (show CDiv _ _; constructor <;> omega) | (show CPow _ _; refine ⟨?_, ?_, ?_⟩ <;> decide))
  | ((with_reducible refine' v_ixT ?c ?_); case c => rfl)
  | ((with_reducible refine' v_ixL ?e ?c ?_); (case e => walk_at "g"); (case c => rfl))
  | ((with_reducible refine' v_lenL ?e ?_); (case e => walk_at "g")) | ((with_reducible refine' v_tupL ?e ?_); (case e => walk_at "g"))
  | ((with_reducible refine' v_gt ?e ?c ?_); (case e => walk_at "g"); (case c => rfl)) | ((with_reducible refine' v_st ?e ?c ?_); (case e => walk_at "g"); (case c => rfl))
  | with_reducible refine' w_for ?_ | with_reducible refine' w_seqI ?_ | with_reducible refine' w_gn ?_ | with_reducible refine' w_gt ?_ | with_reducible refine' w_gc ?_ | with_reducible refine' w_g0 ?_ | with_reducible refine' v_itT ?_ | with_reducible refine' v_itF ?_ | with_reducible refine' v_itC ?_
  | ((with_reducible refine' v_itL ?e ?_); (case e => walk_at "g"))
  | ((with_reducible refine' v_lstL ?e ?_); (case e => walk_at "g")) | ((with_reducible refine' v_addL ?e ?e2 ?l ?_); (case e => walk_at "g"); (case e2 => walk_at "g"); (case l => (rw [sizeLine_eq]; simp only [List.length_cons, List.length_nil]; omega))) | ((with_reducible refine' v_slL ?e ?_); (case e => walk_at "g")) | ((with_reducible refine' v_mtL ?e ?_); (case e => walk_at "g"))
  | dsimp only
  | with_reducible refine' w_par ?_ | ((with_reducible refine' v_addT ?l ?_); (case l => (rw [sizeLine_eq]; simp only [List.length_cons, List.length_nil]; omega))))
/-! _law_told -/
def toldD (lo : Bool) (ns : List Str) (ts : List Th) (a : Str) : D := if a ∈ ns then .tup [.str "told", oD (if lo then maxO (lowsL ts a) else minO (highsL ts a))] else .tup [.str "unknown", .str a]
def wayS (lo : Bool) : Str := if lo then "low" else "high"
def r_told : DN := fun ds g Q => ∃ ns ts a b lo, ds = [.str (wayS lo), dosD ns ts, .str a, .bl b] ∧ DosOk ns ts ∧ a.length ≤ 1000 ∧ ∀ g', Kp g g' → Q (toldD lo ns ts a) g'
theorem w_told {ns : List Str} {ts : List Th} {a : Str} {b : Bool} (lo : Bool) {g : G} {Q : D → G → Prop} (h0 : DosOk ns ts) (h1 : a.length ≤ 1000) (h : ∀ g', Kp g g' → Q (toldD lo ns ts a) g') : r_told [.str (wayS lo), dosD ns ts, .str a, .bl b] g Q := ⟨ns, ts, a, b, lo, rfl, h0, h1, h⟩
theorem ne_hl : ¬ (("high" : Str) = "low") := by decide +kernel
theorem p_told (C : Addr) (ds : List D) (g : G) (Q : D → G → Prop) (h : r_told ds g Q) : t__law_told (r_low_of C) (r_high_of C) C (mkS "name") { nx := fun _ g' => Q .non g', rt := Q } (dstart N__law_told.length ds) g := by
  obtain ⟨ns, ts, a, b, lo, rfl, ok, la, hQ⟩ := h
  show t__law_told (r_low_of C) (r_high_of C) C (mkS "name") { nx := fun _ g' => Q .non g', rt := Q } [some (.str (wayS lo)), some (dosD ns ts), some (.str a), some (.bl b), none] g
  unfold t__law_told
  have handler : ∀ (dd : Addr) (g' : G), a ∉ ns → Kp g g' → g' dd = some (.xd [("name", .str a)]) → ∀ aa : Addr, g' aa = none → (dRet (dTup (dCons (dC (.str ("unknown" : Str))) (dCons (dXf aa dd "name" (dVar 4)) dNil)))) { nx := fun ρ2 g2 => Q .non g2, rt := Q, bk := fun ρ2 g2 => False, ct := fun ρ2 g2 => False } ([some (.str (wayS lo)), some (dosD ns ts), some (.str a), some (.bl b), none].set 4 (some (.obj aa))) g' := by
    intro dd g' hn k hx aa haa
    repeat walk_at "d"
    refine w_xf ?_
    repeat walk_at "d"
    refine ⟨_, .str a, hx, by rw [lookup_cons_ite, if_pos rfl], ?_⟩
    repeat walk_at "d"
    have := hQ g' k
    unfold toldD at this
    rw [if_neg hn] at this
    exact this
  have thrown : ∀ (dd : Addr) (g' : G), a ∉ ns → Kp g g' → g' dd = some (.xd [("name", .str a)]) → C = C ∧ ∀ aa : Addr, g' aa = none → (dRet (dTup (dCons (dC (.str ("unknown" : Str))) (dCons (dXf aa dd "name" (dVar 4)) dNil)))) { nx := fun ρ2 g2 => Q .non g2, rt := Q, bk := fun ρ2 g2 => False, ct := fun ρ2 g2 => False } ([some (.str (wayS lo)), some (dosD ns ts), some (.str a), some (.bl b), none].set 4 (some (.obj aa))) g' :=
    fun dd g' hn k hx => ⟨rfl, handler dd g' hn k hx⟩
  unfold dTry
  refine w_seq ?_
  cases lo with
  | true =>
    have fin : ∀ g', a ∈ ns → Kp g g' → Q (.tup [.str "told", oD (maxO (lowsL ts a))]) g' := fun g' hm k => by
      have := hQ g' k
      unfold toldD at this
      rw [if_pos hm] at this
      exact this
    have call : ∀ (K : D → G → Prop), (∀ g', a ∈ ns → Kp g g' → K (oD (maxO (lowsL ts a))) g') → r_low_of C [dosD ns ts, .str a] g K fun C' dd g2 => C' = C ∧ ∀ aa : Addr, g2 aa = none → (dRet (dTup (dCons (dC (.str ("unknown" : Str))) (dCons (dXf aa dd "name" (dVar 4)) dNil)))) { nx := fun ρ2 g2 => Q .non g2, rt := Q, bk := fun ρ2 g2 => False, ct := fun ρ2 g2 => False } ([some (.str (wayS true)), some (dosD ns ts), some (.str a), some (.bl b), none].set 4 (some (.obj aa))) g2 := fun K hK => by
      refine ⟨ns, ts, a, rfl, ok, ?_⟩
      by_cases hm : a ∈ ns
      · exact .inl ⟨hm, fun g' k => hK g' hm k⟩
      · exact .inr ⟨hm, la, fun dd g' k hx => thrown dd g' hm k hx⟩
    show dIf _ _ _ _ [some (.str ("low" : Str)), some (dosD ns ts), some (.str a), some (.bl b), none] g
    repeat walk_at "d"
    refine w_ite (fun _ => ?_) fun hc => absurd (by simp) hc
    repeat walk_at "d"
    refine w_ite (fun _ => ?_) fun _ => ?_
    · repeat walk_at "d"
      refine call _ fun g' hm k => ?_
      repeat walk_at "d"
      exact fin g' hm k
    · repeat walk_at "d"
      refine call _ fun g' hm k => ?_
      repeat walk_at "d"
      exact fin g' hm k
  | false =>
    have fin : ∀ g', a ∈ ns → Kp g g' → Q (.tup [.str "told", oD (minO (highsL ts a))]) g' := fun g' hm k => by
      have := hQ g' k
      unfold toldD at this
      rw [if_pos hm] at this
      exact this
    have call : ∀ (K : D → G → Prop), (∀ g', a ∈ ns → Kp g g' → K (oD (minO (highsL ts a))) g') → r_high_of C [dosD ns ts, .str a] g K fun C' dd g2 => C' = C ∧ ∀ aa : Addr, g2 aa = none → (dRet (dTup (dCons (dC (.str ("unknown" : Str))) (dCons (dXf aa dd "name" (dVar 4)) dNil)))) { nx := fun ρ2 g2 => Q .non g2, rt := Q, bk := fun ρ2 g2 => False, ct := fun ρ2 g2 => False } ([some (.str (wayS false)), some (dosD ns ts), some (.str a), some (.bl b), none].set 4 (some (.obj aa))) g2 := fun K hK => by
      refine ⟨ns, ts, a, rfl, ok, ?_⟩
      by_cases hm : a ∈ ns
      · exact .inl ⟨hm, fun g' k => hK g' hm k⟩
      · exact .inr ⟨hm, la, fun dd g' k hx => thrown dd g' hm k hx⟩
    show dIf _ _ _ _ [some (.str ("high" : Str)), some (dosD ns ts), some (.str a), some (.bl b), none] g
    repeat walk_at "d"
    refine w_ite (fun hc => absurd (by simpa using hc) ne_hl) fun _ => ?_
    repeat walk_at "d"
    refine w_ite (fun _ => ?_) fun _ => ?_
    · repeat walk_at "d"
      refine call _ fun g' hm k => ?_
      repeat walk_at "d"
      exact fin g' hm k
    · repeat walk_at "d"
      refine call _ fun g' hm k => ?_
      repeat walk_at "d"
      exact fin g' hm k
/-! year_pairs -/
def piD (p : Str × Int) : D := .tup [.str p.1, .int p.2]
def his (ns : List Str) (ts : List Th) : List (Str × Int) := ns.filterMap fun a => (minO (highsL ts a)).map fun h => (a, h)
def los (ns : List Str) (ts : List Th) : List (Str × Int) := ns.filterMap fun a => (maxO (lowsL ts a)).map fun h => (a, h)
def ypF (ls : List (Str × Int)) (x : Str × Int) : List (Str × Str) := (ls.filter fun y => decide (x.2 < y.2)).map fun y => (x.1, y.1)
def yps (ns : List Str) (ts : List Th) : List (Str × Str) := (his ns ts).flatMap (ypF (los ns ts))
theorem his_len (ns : List Str) (ts : List Th) : (his ns ts).length ≤ ns.length := List.length_filterMap_le ..
theorem los_len (ns : List Str) (ts : List Th) : (los ns ts).length ≤ ns.length := List.length_filterMap_le ..
theorem ypF_len (ls : List (Str × Int)) (x : Str × Int) : (ypF ls x).length ≤ ls.length := by
  unfold ypF
  rw [List.length_map]
  exact List.length_filter_le ..
theorem yp_len {ls hs : List (Str × Int)} (h : ls.length ≤ 100) : (hs.flatMap (ypF ls)).length ≤ hs.length * 100 := by
  induction hs with
  | nil => simp
  | cons x r ih =>
    rw [List.flatMap_cons, List.length_append, List.length_cons]
    have := ypF_len ls x
    omega
theorem mem_yps {ns : List Str} {ts : List Th} {p : Str × Str} : p ∈ yps ns ts ↔ p.1 ∈ ns ∧ p.2 ∈ ns ∧ ∃ h l, minO (highsL ts p.1) = some h ∧ maxO (lowsL ts p.2) = some l ∧ h < l := by
  unfold yps ypF his los
  simp only [List.mem_flatMap, List.mem_map, List.mem_filter, List.mem_filterMap, Option.map_eq_some_iff, decide_eq_true_eq]
  constructor
  · rintro ⟨x, ⟨a, ha, h, h1, rfl⟩, y, ⟨⟨b, hb, l, h2, rfl⟩, h3⟩, rfl⟩
    exact ⟨ha, hb, h, l, h1, h2, h3⟩
  · rintro ⟨ha, hb, h, l, h1, h2, h3⟩
    exact ⟨(p.1, h), ⟨p.1, ha, h, h1, rfl⟩, (p.2, l), ⟨⟨p.2, hb, l, h2, rfl⟩, h3⟩, rfl⟩
def r_yps : DN := fun ds g Q => ∃ ns ts, ds = [dosD ns ts] ∧ DosOk ns ts ∧ ∀ p g', Kp g g' → g' p = some (.lst ((yps ns ts).map pairD)) → g p = none → Q (.obj p) g'
theorem w_yps {ns : List Str} {ts : List Th} {g : G} {Q : D → G → Prop} (h0 : DosOk ns ts) (h : ∀ p g', Kp g g' → g' p = some (.lst ((yps ns ts).map pairD)) → g p = none → Q (.obj p) g') : r_yps [dosD ns ts] g Q := ⟨ns, ts, rfl, h0, h⟩
theorem w_lc2 {ρ : Rho} {g : G} {Q : D → G → Prop} {ti ti1 : DI} {gt gt1 : DG} {tt tt1 : DT} {te : DE} {vs vs1 : List Nat} (h : ti ρ g fun ds stay g1 => ∃ P : Nat → List D → G → Prop, P 0 [] g1 ∧ (∀ i acc g, P i acc g → stay g) ∧
  (∀ i x acc g, ds[i]? = some x → P i acc g → gt x (dwipe ρ vs) g fun ρ2 g2 => tt ρ2 g2 fun b g3 => if b = true then
    ti1 ρ2 g3 fun ds1 stay1 g4 => ∃ P1 : Nat → List D → G → Prop, P1 0 acc g4 ∧ (∀ j acc g, P1 j acc g → stay1 g) ∧
      (∀ j y acc1 g, ds1[j]? = some y → P1 j acc1 g → gt1 y (dwipe ρ2 vs1) g fun ρ3 g5 => tt1 ρ3 g5 fun b1 g6 => if b1 = true then te ρ3 g6 fun z g7 => acc1.length < sizeLine ∧ P1 (j + 1) (acc1 ++ [z]) g7 else P1 (j + 1) acc1 g6) ∧
      ∀ acc1 g, P1 ds1.length acc1 g → P (i + 1) acc1 g
    else P (i + 1) acc g3) ∧
  ∀ acc g p, P ds.length acc g → g p = none → Q (.obj p) (gup g p (.lst acc))) : dLc2 ti gt tt ti1 gt1 tt1 te vs vs1 ρ g Q := h
theorem zip_comp {ρ : Rho} {g : G} {Q : D → G → Prop} {ns : List Str} {f : Str → Option Int} {i j : Nat} {ta : DA} (L : List (Str × Int)) (hL : L = ns.filterMap fun a => (f a).map fun h => (a, h))
    (hz : ∀ R : List D → (G → Prop) → G → Prop, (∀ g', Kp g g' → R (zipD (ns.map D.str) (ns.map fun a => oD (f a))) (fun _ => True) g') → dZip ta ρ g R) (hl : ns.length ≤ 100)
    (ei : ∀ x y, (((dwipe ρ [i, j]).set i (some x)).set j (some y))[i]? = some (some x)) (ej : ∀ x y, (((dwipe ρ [i, j]).set i (some x)).set j (some y))[j]? = some (some y))
    (h : ∀ g' p, Kp g g' → g' p = none → Q (.obj p) (gup g' p (.lst (L.map piD)))) :
    dLc (dZip ta) (dgTup 2 (dgCons (dgName i) (dgCons (dgName j) dgNil))) (dB (dOp (isD true) (dVar j) (dC .non))) (dTup (dCons (dVar i) (dCons (dVar j) dNil))) [i, j] ρ g Q := by
  subst hL
  refine w_lc ?_
  refine hz _ fun g1 k1 => ?_
  rw [zip_map]
  refine ⟨by rw [List.length_map, sizeLine_eq]; omega, fun m acc g' => acc = ((ns.take m).filterMap fun a => (f a).map fun h => (a, h)).map piD ∧ g' = g1, ⟨rfl, rfl⟩, fun _ _ _ _ => trivial, ?_, ?_⟩
  · rintro m x acc g' hx ⟨rfl, rfl⟩
    rw [List.getElem?_map] at hx
    cases hxi : ns[m]? with
    | none => rw [hxi] at hx; cases hx
    | some z =>
    rw [hxi] at hx
    cases hx
    repeat walk_at "d"
    refine w_var (ej _ _) ?_
    repeat walk_at "d"
    cases hf : f z with
    | none =>
      refine w_ite (fun hc => Bool.noConfusion hc) fun _ => ?_
      exact ⟨by rw [List.take_add_one, hxi]; simp [hf], rfl⟩
    | some v =>
      refine w_ite (fun _ => ?_) fun hc => absurd rfl hc
      repeat walk_at "d"
      refine w_var (ei _ _) ?_
      repeat walk_at "d"
      refine w_var (ej _ _) ?_
      repeat walk_at "d"
      exact ⟨by rw [List.take_add_one, hxi]; simp [hf, piD, oD], rfl⟩
  · rintro acc g' p ⟨rfl, rfl⟩ _ hp
    rw [List.length_map, List.take_length]
    exact h g' p k1 hp
theorem p_yps (ds : List D) (g : G) (Q : D → G → Prop) (h : r_yps ds g Q) : t_year_pairs r_highs r_lows { nx := fun _ g' => Q .non g', rt := Q } (dstart N_year_pairs.length ds) g := by
  obtain ⟨ns, ts, rfl, ok, hQ⟩ := h
  show t_year_pairs r_highs r_lows { nx := fun _ g' => Q .non g', rt := Q } [some (.tup [.fin (ns.map D.str), .tup (ts.map Th.d)]), none, none, none, none, none, none, none] g
  unfold t_year_pairs
  refine w_seq ?_
  repeat walk_at "d"
  refine zip_comp (his ns ts) rfl (ns := ns) (f := fun a => minO (highsL ts a)) (i := 4) (j := 5) ?hz ok.n ?ei ?ej fun g1 p1 k1 hp1 => ?_
  case hz =>
    intro R hR
    refine w_zip ?_
    repeat walk_at "d"
    refine w_highs ok.n ok.t ok.ok fun g' k => ?_
    repeat walk_at "d"
    exact ⟨_, _, _, _, rfl, rfl, rfl, hR g' k⟩
  case ei => exact fun _ _ => rfl
  case ej => exact fun _ _ => rfl
  have ep1 : (gup g1 p1 (.lst ((his ns ts).map piD))) p1 = some (.lst ((his ns ts).map piD)) := gup_same
  have kk1 : Kp g (gup g1 p1 (.lst ((his ns ts).map piD))) := k1.trans (Kp.new hp1)
  generalize gup g1 p1 (.lst ((his ns ts).map piD)) = g2 at ep1 kk1
  repeat walk_at "d"
  refine zip_comp (los ns ts) rfl (ns := ns) (f := fun a => maxO (lowsL ts a)) (i := 6) (j := 7) ?hz ok.n ?ei ?ej fun g3 p2 k3 hp2 => ?_
  case hz =>
    intro R hR
    refine w_zip ?_
    repeat walk_at "d"
    refine w_lows ok.n ok.t ok.ok fun g' k => ?_
    repeat walk_at "d"
    exact ⟨_, _, _, _, rfl, rfl, rfl, hR g' k⟩
  case ei => exact fun _ _ => rfl
  case ej => exact fun _ _ => rfl
  have ep2 : (gup g3 p2 (.lst ((los ns ts).map piD))) p2 = some (.lst ((los ns ts).map piD)) := gup_same
  have ep1' : (gup g3 p2 (.lst ((los ns ts).map piD))) p1 = some (.lst ((his ns ts).map piD)) := gup_old hp2 (k3 _ _ ep1)
  have kk2 : Kp g (gup g3 p2 (.lst ((los ns ts).map piD))) := kk1.trans (k3.trans (Kp.new hp2))
  generalize gup g3 p2 (.lst ((los ns ts).map piD)) = g4 at ep1' ep2 kk2
  repeat walk_at "d"
  refine w_lc2 ?_
  repeat walk_at "d"
  have hl := los_len ns ts
  have hh := his_len ns ts
  have hn := ok.n
  refine ⟨fun i acc g' => acc = (((his ns ts).take i).flatMap (ypF (los ns ts))).map pairD ∧ g' = g4, ⟨rfl, rfl⟩, fun i acc g' h => by rw [h.2]; exact ep1', ?_, ?_⟩
  · rintro i x acc g' hx ⟨rfl, rfl⟩
    rw [List.getElem?_map] at hx
    cases hxi : (his ns ts)[i]? with
    | none => rw [hxi] at hx; cases hx
    | some z =>
    rw [hxi] at hx
    cases hx
    have hil : i < (his ns ts).length := (List.getElem?_eq_some_iff.mp hxi).1
    have hacc : (((his ns ts).take i).flatMap (ypF (los ns ts))).length ≤ 10000 := by
      have := yp_len (ls := los ns ts) (hs := (his ns ts).take i) (by omega)
      rw [List.length_take] at this
      have : min i (his ns ts).length * 100 ≤ 100 * 100 := Nat.mul_le_mul_right _ (by omega)
      omega
    rw [show piD z = D.tup [.str z.1, .int z.2] from rfl]
    repeat walk_at "d"
    refine ⟨fun j acc g2 => acc = (((his ns ts).take i).flatMap (ypF (los ns ts)) ++ (((los ns ts).take j).filter fun y => decide (z.2 < y.2)).map fun y => (z.1, y.1)).map pairD ∧ g2 = g', ⟨by simp, rfl⟩, fun i acc g2 h => by rw [h.2]; exact ep2, ?_, ?_⟩
    · rintro j y acc g2 hy ⟨rfl, rfl⟩
      rw [List.getElem?_map] at hy
      cases hyj : (los ns ts)[j]? with
      | none => rw [hyj] at hy; cases hy
      | some u =>
      rw [hyj] at hy
      cases hy
      rw [show piD u = D.tup [.str u.1, .int u.2] from rfl]
      repeat walk_at "d"
      refine w_ite (fun hc => ?_) (fun hc => ?_)
      · repeat walk_at "d"
        refine ⟨?_, ?_, rfl⟩
        · rw [List.length_map, List.length_append, List.length_map, sizeLine_eq]
          have h1 := List.length_filter_le (fun y : Str × Int => decide (z.2 < y.2)) ((los ns ts).take j)
          rw [List.length_take] at h1
          omega
        · rw [List.take_add_one, hyj]
          simp [List.filter_append, hc, pairD, of_decide_eq_true hc]
      · have hc' : ¬ z.2 < u.2 := by simpa using hc
        refine ⟨?_, rfl⟩
        rw [List.take_add_one, hyj]
        simp [List.filter_append, hc']
    · rintro acc g2 ⟨rfl, rfl⟩
      refine ⟨?_, rfl⟩
      rw [List.length_map, List.take_length, List.take_add_one, hxi]
      simp [ypF]
  · rintro acc g' p ⟨rfl, rfl⟩ hp
    rw [List.length_map, List.take_length]
    refine hQ p _ (kk2.trans (Kp.new hp)) gup_same ?_
    cases e : g p with
    | none => rfl
    | some o => rw [kk2 _ _ e] at hp; cases hp
end L2.DL

namespace L2.DL
open PySem PySem.Spec PyProof.Rows
local macro_rules | `(tactic| walk_at "g") => `(tactic| first | assumption | exact gup_same | exact gup_old (by assumption) (by assumption) | exact gup_old (by assumption) (gup_old (by assumption) (by assumption)) | exact gup_old (by assumption) gup_same | exact gup_old (by assumption) (gup_old (by assumption) gup_same) | ((repeat (rw [gup_ne (by first | assumption | (apply Ne.symm; assumption))])); first | exact gup_same | assumption) | rfl)
local macro_rules | `(tactic| walk_at "b") => `(tactic| simp only [Bool.false_xor, Bool.true_xor, decide_eq_true_eq, Bool.not_eq_true', decide_eq_false_iff_not, Bool.and_eq_true, Bool.or_eq_true])
local macro_rules | `(tactic| walk_at "d") => `(tactic| first
  | with_reducible refine' w_seq1 ?_ | with_reducible refine' w_seq2 ?_ | with_reducible refine' w_seq3 ?_ | with_reducible refine' w_seq4 ?_ | with_reducible refine' w_seq5 ?_ | with_reducible refine' w_op ?_ | ((with_reducible refine' w_var ?e ?_); case e => rfl) | with_reducible refine' w_c ?_ | with_reducible refine' w_cons ?_ | with_reducible refine' w_nil ?_
  | with_reducible refine' w_rfl ?_ | ((with_reducible refine' w_len ?e ?_); case e => rfl) | ((with_reducible refine' w_le ?e ?_); case e => (rw [sizeLine_eq]; simp only [List.length_cons, List.length_nil]; omega)) | with_reducible refine' w_set ?_ | with_reducible refine' w_ret ?_ | with_reducible refine' w_if ?_ | with_reducible refine' w_cb ?_ | with_reducible refine' w_call ?_ | with_reducible refine' w_B ?_ | with_reducible refine' w_bl ?_
  | with_reducible refine' w_and ?_ | with_reducible refine' w_or ?_ | with_reducible refine' w_not ?_ | with_reducible refine' w_ifE ?_ | with_reducible refine' w_yes ?_ | with_reducible refine' w_sl ?_ | with_reducible refine' w_nop ?_ | with_reducible refine' w_p ?_ | with_reducible refine' w_in ?_
  | with_reducible refine' w_store ?_ | with_reducible refine' w_augS ?_ | ((with_reducible refine' w_aug ?e ?_); case e => rfl) | with_reducible refine' w_m ?_ | with_reducible refine' w_andV ?_ | with_reducible refine' w_orV ?_ | with_reducible refine' w_notV ?_ | with_reducible refine' w_chain ?_
  | with_reducible refine' w_drop ?_ | with_reducible refine' w_retN ?_ | with_reducible refine' w_nx ?_ | with_reducible refine' w_un ?_ | with_reducible refine' w_tup ?_ | with_reducible refine' w_lst ?_ | with_reducible refine' w_callK ?_ | with_reducible refine' w_callX ?_ | with_reducible refine' w_isi2 ?_ | with_reducible refine' w_get1 ?_ | with_reducible refine' w_get2 ?_ | with_reducible refine' w_rng1 ?_
  | with_reducible refine' v_add ?_ | with_reducible refine' v_intB ?_ | with_reducible refine' v_neg ?_ | with_reducible refine' v_eqS ?_ | with_reducible refine' v_eqI ?_ | with_reducible refine' v_eqB ?_ | with_reducible refine' v_eqN ?_ | with_reducible refine' v_is ?_ | with_reducible refine' v_intI ?_ | with_reducible refine' v_intBl ?_ | with_reducible refine' v_abs ?_
  | with_reducible refine' v_max2 ?_ | with_reducible refine' v_min2 ?_ | with_reducible refine' v_lenT ?_ | with_reducible refine' v_lenF ?_ | with_reducible refine' v_lenC ?_ | with_reducible refine' v_slT ?_ | with_reducible refine' v_slC ?_ | with_reducible refine' v_ipA ?_ | with_reducible refine' v_ipS ?_ | with_reducible refine' v_mtS ?_
  | with_reducible refine' iteT ?_ | with_reducible refine' iteF ?_
  | ((with_reducible refine' v_mul ?c ?_); case c => (unfold CMul; first | (apply Or.inr; constructor <;> decide) | (apply Or.inl; constructor <;> decide) | (apply Or.inl; constructor <;> omega) | (apply Or.inr; constructor <;> omega)))
  | ((with_reducible refine' v_int ?c ?_); case c => first | exact trivial | (show CPos _ _; first | decide | (show (0:Int) < _; omega)) | (show CDiv _ _; constructor <;> omega) | (show CPow _ _; refine ⟨?_, ?_, ?_⟩ <;> decide))
  | ((with_reducible refine' v_ixT ?c ?_); case c => rfl)
  | ((with_reducible refine' v_ixL ?e ?c ?_); (case e => walk_at "g"); (case c => rfl))
  | ((with_reducible refine' v_lenL ?e ?_); (case e => walk_at "g")) | ((with_reducible refine' v_tupL ?e ?_); (case e => walk_at "g"))
  | ((with_reducible refine' v_gt ?e ?c ?_); (case e => walk_at "g"); (case c => rfl)) | ((with_reducible refine' v_st ?e ?c ?_); (case e => walk_at "g"); (case c => rfl))
  | with_reducible refine' w_for ?_ | with_reducible refine' w_seqI ?_ | with_reducible refine' w_gn ?_ | with_reducible refine' w_gt ?_ | with_reducible refine' w_gc ?_ | with_reducible refine' w_g0 ?_ | with_reducible refine' v_itT ?_ | with_reducible refine' v_itF ?_ | with_reducible refine' v_itC ?_
  | ((with_reducible refine' v_itL ?e ?_); (case e => walk_at "g"))
  | ((with_reducible refine' v_lstL ?e ?_); (case e => walk_at "g")) | ((with_reducible refine' v_addL ?e ?e2 ?l ?_); (case e => walk_at "g"); (case e2 => walk_at "g"); (case l => (rw [sizeLine_eq]; simp only [List.length_cons, List.length_nil]; omega))) | ((with_reducible refine' v_slL ?e ?_); (case e => walk_at "g")) | ((with_reducible refine' v_mtL ?e ?_); (case e => walk_at "g"))
  | dsimp only
  | with_reducible refine' w_par ?_ | ((with_reducible refine' v_addT ?l ?_); (case l => (rw [sizeLine_eq]; simp only [List.length_cons, List.length_nil]; omega))))
abbrev keyP (p : Str × Str) : List Key := [.inr p.1, .inr p.2]
theorem keyP_inj {p q : Str × Str} (h : keyP p = keyP q) : p = q := by
  injection h with h1 h2
  injection h1 with h1
  injection h2 with h2 _
  injection h2 with h2
  exact Prod.ext h1 h2
structure DPl (kvs : List (List Key × D)) (ps : List (Str × Str)) : Prop where
  keys : kvs.map (·.1) = ps.map keyP
  nd : ps.Nodup
def addP (ps : List (Str × Str)) (p : Str × Str) : List (Str × Str) := if p ∈ ps then ps else ps ++ [p]
theorem mem_addP {ps : List (Str × Str)} {p q : Str × Str} : q ∈ addP ps p ↔ q ∈ ps ∨ q = p := by
  unfold addP
  by_cases h : p ∈ ps
  · rw [if_pos h]
    constructor
    · exact .inl
    · rintro (h1 | rfl)
      · exact h1
      · exact h
  · rw [if_neg h]; simp
theorem addP_len {ps : List (Str × Str)} {p : Str × Str} : (addP ps p).length ≤ ps.length + 1 := by
  unfold addP
  split
  · omega
  · simp
theorem DPl.put {kvs : List (List Key × D)} {ps : List (Str × Str)} (h : DPl kvs ps) (p : Str × Str) (v : D) : DPl (putD kvs (keyP p) v) (addP ps p) := by
  have hm : (kvs.any fun kv => decide (kv.1 = keyP p)) = true ↔ p ∈ ps := by
    rw [List.any_eq_true]
    constructor
    · rintro ⟨kv, h1, h2⟩
      have : kv.1 ∈ ps.map keyP := by rw [← h.keys]; exact List.mem_map_of_mem h1
      obtain ⟨q, hq, e⟩ := List.mem_map.mp this
      rw [of_decide_eq_true h2] at e
      rw [← keyP_inj e]
      exact hq
    · intro hp
      have : keyP p ∈ kvs.map (·.1) := by rw [h.keys]; exact List.mem_map_of_mem hp
      obtain ⟨kv, h1, e⟩ := List.mem_map.mp this
      exact ⟨kv, h1, decide_eq_true e⟩
  unfold putD addP
  by_cases hp : p ∈ ps
  · rw [if_pos (hm.mpr hp), if_pos hp]
    refine ⟨?_, h.nd⟩
    rw [← h.keys, List.map_map]
    apply List.map_congr_left
    intro kv _
    show (if kv.1 = keyP p then (kv.1, v) else kv).1 = kv.1
    split <;> rfl
  · rw [if_neg (fun z => hp (hm.mp z)), if_neg hp]
    refine ⟨by rw [List.map_append, List.map_append, h.keys]; rfl, ?_⟩
    rw [List.nodup_append]
    refine ⟨h.nd, by simp, fun a ha b hb => ?_⟩
    rw [List.mem_singleton.mp hb]
    exact fun z => hp (z ▸ ha)
theorem DPl.len {kvs : List (List Key × D)} {ps : List (Str × Str)} (h : DPl kvs ps) : kvs.length = ps.length := by
  have := congrArg List.length h.keys
  rwa [List.length_map, List.length_map] at this
def eps : Th → List (Str × Str)
  | .elder a b => a.flatMap fun x => b.map fun y => (x, y)
  | _ => []
theorem mem_eps {a b : List Str} {q : Str × Str} : q ∈ eps (.elder a b) ↔ q.1 ∈ a ∧ q.2 ∈ b := by
  unfold eps
  simp only [List.mem_flatMap, List.mem_map]
  constructor
  · rintro ⟨x, hx, y, hy, rfl⟩; exact ⟨hx, hy⟩
  · rintro ⟨hx, hy⟩; exact ⟨q.1, hx, q.2, hy, rfl⟩
theorem elder_loop {d : DEnds} {g0 g : G} {ns : List Str} {ts : List Th} {pd : Addr} {rest : Rho} {x2 x3 x4 : Option D} {kvs : List (List Key × D)} {ps : List (Str × Str)} (ok : DosOk ns ts) (hpd : g0 pd = none) (k0 : Kp g0 g) (e : g pd = some (.dT kvs)) (dp : DPl kvs ps) (hl : ps.length ≤ 10000)
    (h : ∀ (g' : G) (kvs' : List (List Key × D)) (ps' : List (Str × Str)) (x2 x3 x4 : Option D), Kp g0 g' → g' pd = some (.dT kvs') → DPl kvs' ps' → ps'.length ≤ 410000 → (∀ q, q ∈ ps' ↔ q ∈ ps ∨ ∃ t ∈ ts, q ∈ eps t) → d.nx (some (.tup [.fin (ns.map D.str), .tup (ts.map Th.d)]) :: some (.obj pd) :: x2 :: x3 :: x4 :: rest) g') :
    dFor (dSeqI (dOp ixD (dVar 0) (dC (.int 1)))) (dgName 2) (dIf (dB (dOp (eqD false) (dOp ixD (dVar 2) (dC (.int 0))) (dC (.str ("elder" : Str))))) (dFor (dSeqI (dOp ixD (dVar 2) (dC (.int 1)))) (dgName 3) (dFor (dSeqI (dOp ixD (dVar 2) (dC (.int 2)))) (dgName 4) (dStore (dC (.bl true)) (dVar 1) (dTup (dCons (dVar 3) (dCons (dVar 4) dNil))) stD))) dNext)
      d (some (.tup [.fin (ns.map D.str), .tup (ts.map Th.d)]) :: some (.obj pd) :: x2 :: x3 :: x4 :: rest) g := by
  obtain ⟨n1, n2, n3, n4, n5, n6, n7, n8, n9, n10, n11, n12⟩ := ne_ws
  have htl := ok.t
  repeat walk_at "d"
  refine ⟨fun i ρ' g' => ∃ (kvs' : List (List Key × D)) (ps' : List (Str × Str)) (x2 x3 x4 : Option D), ρ' = (some (.tup [.fin (ns.map D.str), .tup (ts.map Th.d)]) :: some (.obj pd) :: x2 :: x3 :: x4 :: rest) ∧ Kp g0 g' ∧ g' pd = some (.dT kvs') ∧ DPl kvs' ps' ∧ ps'.length ≤ 10000 + i * 10000 ∧ (∀ q, q ∈ ps' ↔ q ∈ ps ∨ ∃ t ∈ ts.take i, q ∈ eps t), ⟨kvs, ps, _, _, _, rfl, k0, e, dp, by omega, fun q => by simp⟩, fun _ _ _ _ => trivial, ?_, ?_⟩
  · rintro i x ρ' g' hx ⟨kvs', ps', x2, x3, x4, rfl, k1, e1, dp1, l1, m1⟩
    rw [List.getElem?_map] at hx
    cases hxi : ts[i]? with
    | none => rw [hxi] at hx; cases hx
    | some t =>
    rw [hxi] at hx
    cases hx
    have hil : i < ts.length := (List.getElem?_eq_some_iff.mp hxi).1
    have htm : t.Ok := ok.ok t (List.mem_of_getElem? hxi)
    have tk : ∀ q, (∃ t' ∈ ts.take (i + 1), q ∈ eps t') ↔ (∃ t' ∈ ts.take i, q ∈ eps t') ∨ q ∈ eps t := fun q => by
      rw [List.take_add_one, hxi]
      simp only [List.mem_append, Option.toList_some, List.mem_singleton]
      constructor
      · rintro ⟨t', h | rfl, hq⟩
        · exact .inl ⟨t', h, hq⟩
        · exact .inr hq
      · rintro (⟨t', h, hq⟩ | hq)
        · exact ⟨t', .inl h, hq⟩
        · exact ⟨t, .inr rfl, hq⟩
    refine w_gn ?_
    cases t with
    | ware a =>
      show dIf _ _ _ _ (some (.tup [.fin (ns.map D.str), .tup (ts.map Th.d)]) :: some (.obj pd) :: some (.tup [.str "ware", sD a]) :: x3 :: x4 :: rest) g'
      repeat walk_at "d"
      refine w_ite (fun hc => absurd (by simpa using hc) n6) fun _ => ?_
      repeat walk_at "d"
      exact ⟨kvs', ps', _, _, _, rfl, k1, e1, dp1, by omega, fun q => by rw [m1 q, tk q]; simp [eps]⟩
    | series rows =>
      show dIf _ _ _ _ (some (.tup [.fin (ns.map D.str), .tup (ts.map Th.d)]) :: some (.obj pd) :: some (.tup [.str "series", .tup (rows.map rowD)]) :: x3 :: x4 :: rest) g'
      repeat walk_at "d"
      refine w_ite (fun hc => absurd (by simpa using hc) n9) fun _ => ?_
      repeat walk_at "d"
      exact ⟨kvs', ps', _, _, _, rfl, k1, e1, dp1, by omega, fun q => by rw [m1 q, tk q]; simp [eps]⟩
    | years lot lo hi =>
      show dIf _ _ _ _ (some (.tup [.fin (ns.map D.str), .tup (ts.map Th.d)]) :: some (.obj pd) :: some (.tup [.str "years", sD lot, oD lo, oD hi]) :: x3 :: x4 :: rest) g'
      repeat walk_at "d"
      refine w_ite (fun hc => absurd (by simpa using hc) n12) fun _ => ?_
      repeat walk_at "d"
      exact ⟨kvs', ps', _, _, _, rfl, k1, e1, dp1, by omega, fun q => by rw [m1 q, tk q]; simp [eps]⟩
    | elder as bs =>
      obtain ⟨ha, hb⟩ := htm
      show dIf _ _ _ _ (some (.tup [.fin (ns.map D.str), .tup (ts.map Th.d)]) :: some (.obj pd) :: some (.tup [.str "elder", .tup (as.map D.str), .tup (bs.map D.str)]) :: x3 :: x4 :: rest) g'
      repeat walk_at "d"
      refine w_ite (fun _ => ?_) fun hc => absurd (by simp) hc
      repeat walk_at "d"
      refine ⟨fun j ρ2 g2 => ∃ (kvs2 : List (List Key × D)) (ps2 : List (Str × Str)) (x3 x4 : Option D), ρ2 = (some (.tup [.fin (ns.map D.str), .tup (ts.map Th.d)]) :: some (.obj pd) :: some (.tup [.str "elder", .tup (as.map D.str), .tup (bs.map D.str)]) :: x3 :: x4 :: rest) ∧ Kp g0 g2 ∧ g2 pd = some (.dT kvs2) ∧ DPl kvs2 ps2 ∧ ps2.length ≤ 10000 + i * 10000 + j * 100 ∧ (∀ q, q ∈ ps2 ↔ q ∈ ps' ∨ (q.1 ∈ as.take j ∧ q.2 ∈ bs)), ⟨kvs', ps', _, _, rfl, k1, e1, dp1, by omega, fun q => by simp⟩, fun _ _ _ _ => trivial, ?_, ?_⟩
      · rintro j y ρ2 g2 hy ⟨kvs2, ps2, x3, x4, rfl, k2, e2, dp2, l2, m2⟩
        rw [List.getElem?_map] at hy
        cases hyj : as[j]? with
        | none => rw [hyj] at hy; cases hy
        | some a =>
        rw [hyj] at hy
        cases hy
        have hjl : j < as.length := (List.getElem?_eq_some_iff.mp hyj).1
        repeat walk_at "d"
        refine ⟨fun k ρ3 g3 => ∃ (kvs3 : List (List Key × D)) (ps3 : List (Str × Str)) (x4 : Option D), ρ3 = (some (.tup [.fin (ns.map D.str), .tup (ts.map Th.d)]) :: some (.obj pd) :: some (.tup [.str "elder", .tup (as.map D.str), .tup (bs.map D.str)]) :: some (.str a) :: x4 :: rest) ∧ Kp g0 g3 ∧ g3 pd = some (.dT kvs3) ∧ DPl kvs3 ps3 ∧ ps3.length ≤ 10000 + i * 10000 + j * 100 + k ∧ (∀ q, q ∈ ps3 ↔ q ∈ ps2 ∨ (q.1 = a ∧ q.2 ∈ bs.take k)), ⟨kvs2, ps2, _, rfl, k2, e2, dp2, by omega, fun q => by simp⟩, fun _ _ _ _ => trivial, ?_, ?_⟩
        · rintro k z ρ3 g3 hz ⟨kvs3, ps3, x4, rfl, k3, e3, dp3, l3, m3⟩
          rw [List.getElem?_map] at hz
          cases hzk : bs[k]? with
          | none => rw [hzk] at hz; cases hz
          | some b =>
          rw [hzk] at hz
          cases hz
          have hkl : k < bs.length := (List.getElem?_eq_some_iff.mp hzk).1
          repeat walk_at "d"
          refine v_stT (k := keyP (a, b)) e3 rfl (by rw [dp3.len, sizeLine_eq]; omega) ?_
          repeat walk_at "d"
          refine ⟨_, _, _, rfl, k3.put hpd, gup_same, dp3.put (a, b) _, by have := @addP_len ps3 (a, b); omega, fun q => ?_⟩
          rw [mem_addP, m3 q, List.take_add_one, hzk]
          simp only [Option.toList_some, List.mem_append, List.mem_singleton]
          constructor
          · rintro ((h1 | ⟨h1, h2⟩) | rfl)
            · exact .inl h1
            · exact .inr ⟨h1, .inl h2⟩
            · exact .inr ⟨rfl, .inr rfl⟩
          · rintro (h1 | ⟨h1, h2 | h2⟩)
            · exact .inl (.inl h1)
            · exact .inl (.inr ⟨h1, h2⟩)
            · exact .inr (Prod.ext h1 h2)
        · rintro ρ3 g3 ⟨kvs3, ps3, x4, rfl, k3, e3, dp3, l3, m3⟩
          rw [List.length_map] at l3
          refine ⟨kvs3, ps3, _, _, rfl, k3, e3, dp3, by omega, fun q => ?_⟩
          rw [m3 q, m2 q, List.length_map, List.take_length, List.take_add_one, hyj]
          simp only [Option.toList_some, List.mem_append, List.mem_singleton]
          constructor
          · rintro ((h1 | ⟨h1, h2⟩) | ⟨h1, h2⟩)
            · exact .inl h1
            · exact .inr ⟨.inl h1, h2⟩
            · exact .inr ⟨.inr h1, h2⟩
          · rintro (h1 | ⟨h1 | h1, h2⟩)
            · exact .inl (.inl h1)
            · exact .inl (.inr ⟨h1, h2⟩)
            · exact .inr ⟨h1, h2⟩
      · rintro ρ2 g2 ⟨kvs2, ps2, x3, x4, rfl, k2, e2, dp2, l2, m2⟩
        rw [List.length_map] at l2
        refine ⟨kvs2, ps2, _, _, _, rfl, k2, e2, dp2, by omega, fun q => ?_⟩
        rw [m2 q, m1 q, tk q, List.length_map, List.take_length, mem_eps]
        constructor
        · rintro ((h1 | h1) | h1)
          · exact .inl h1
          · exact .inr (.inl h1)
          · exact .inr (.inr h1)
        · rintro (h1 | h1 | h1)
          · exact .inl (.inl h1)
          · exact .inl (.inr h1)
          · exact .inr h1
  · rintro ρ' g' ⟨kvs', ps', x2, x3, x4, rfl, k1, e1, dp1, l1, m1⟩
    rw [List.length_map] at l1
    refine h g' kvs' ps' _ _ _ k1 e1 dp1 (by omega) fun q => ?_
    rw [m1 q, List.length_map, List.take_length]
def basicP (ns : List Str) (ts : List Th) (q : Str × Str) : Prop := q ∈ yps ns ts ∨ ∃ t ∈ ts, q ∈ eps t
def BasicD (ns : List Str) (ts : List Th) (d : D) : Prop := ∃ ps : List (Str × Str), ps.Nodup ∧ ps.length ≤ 1000000 ∧ (∀ q, q ∈ ps ↔ basicP ns ts q) ∧ d = .tup (sortD (ps.map pairD))
theorem BasicD.uniq {ns : List Str} {ts : List Th} {d d' : D} (h : BasicD ns ts d) (h' : BasicD ns ts d') : d = d' := by
  obtain ⟨ps, n1, _, m1, rfl⟩ := h
  obtain ⟨ps', n2, _, m2, rfl⟩ := h'
  rw [sort_pairs_eq ((List.perm_ext_iff_of_nodup n1 n2).mpr fun q => (m1 q).trans (m2 q).symm)]
theorem sorted_keys {g : G} {Q : D → G → Prop} {pd : Addr} {kvs : List (List Key × D)} {ps : List (Str × Str)} (e : g pd = some (.dT kvs)) (dp : DPl kvs ps) (h : ∀ g' p2, Kp g g' → g' p2 = some (.lst (sortD (ps.map pairD))) → Q (.obj p2) g') : sortN [.obj pd] g Q := by
  have hs : srcD g (.obj pd) = some (ps.map pairD) := by
    simp only [srcD, e]
    have : (kvs.map fun p => D.tup (p.1.map keyD)) = ps.map pairD := by
      have h1 : (kvs.map fun p => D.tup (p.1.map keyD)) = (kvs.map (·.1)).map fun k => D.tup (k.map keyD) := by rw [List.map_map]; rfl
      rw [h1, dp.keys, List.map_map]
      rfl
    rw [this]
  exact v_sort hs (sortOk_pairs ps) fun p2 hp2 => h _ p2 (Kp.new hp2) gup_same
def r_basic : DN := fun ds g Q => ∃ ns ts, ds = [dosD ns ts] ∧ DosOk ns ts ∧ ∀ d g', BasicD ns ts d → Kp g g' → Q d g'
theorem w_basic {ns : List Str} {ts : List Th} {g : G} {Q : D → G → Prop} (h0 : DosOk ns ts) (h : ∀ d g', BasicD ns ts d → Kp g g' → Q d g') : r_basic [dosD ns ts] g Q := ⟨ns, ts, rfl, h0, h⟩
theorem w_dcT {ρ : Rho} {g : G} {Q : D → G → Prop} {ti : DI} {gt : DG} {tt : DT} {tk tv : DE} {vs : List Nat} (h : ti ρ g fun ds stay g1 => ds.length ≤ sizeLine ∧ ∃ P : Nat → List (List Key × D) → G → Prop, P 0 [] g1 ∧ (∀ i acc g, P i acc g → stay g) ∧
  (∀ i x acc g, ds[i]? = some x → P i acc g → gt x (dwipe ρ vs) g fun ρ2 g2 => tt ρ2 g2 fun b g3 => if b = true then tk ρ2 g3 fun y g4 => tv ρ2 g4 fun z g5 => ∃ es k, y = .tup es ∧ keysOf es = some k ∧ P (i + 1) (putD acc k z) g5 else P (i + 1) acc g3) ∧
  ∀ acc g p, P ds.length acc g → acc.length ≤ ds.length → g p = none → Q (.obj p) (gup g p (.dT acc))) : dDcT ti gt tt tk tv vs ρ g Q := h
theorem yps_len {ns : List Str} {ts : List Th} (ok : DosOk ns ts) : (yps ns ts).length ≤ 10000 := by
  have h1 := los_len ns ts
  have h2 := his_len ns ts
  have hn := ok.n
  have := yp_len (ls := los ns ts) (hs := his ns ts) (by omega)
  unfold yps
  omega
theorem p_basic (ds : List D) (g : G) (Q : D → G → Prop) (h : r_basic ds g Q) : t_basic_pairs r_yps { nx := fun _ g' => Q .non g', rt := Q } (dstart N_basic_pairs.length ds) g := by
  obtain ⟨ns, ts, rfl, ok, hQ⟩ := h
  show t_basic_pairs r_yps { nx := fun _ g' => Q .non g', rt := Q } [some (dosD ns ts), none, none, none, none, none] g
  unfold t_basic_pairs
  refine w_seq ?_
  refine w_set ?_
  refine w_dcT ?_
  repeat walk_at "d"
  refine w_yps ok fun py g1 k1 ey np => ?_
  refine v_itL ey ?_
  have hyl := yps_len ok
  refine ⟨by rw [List.length_map, sizeLine_eq]; omega, fun i acc g' => ∃ ps : List (Str × Str), DPl acc ps ∧ (∀ q, q ∈ ps ↔ q ∈ (yps ns ts).take i) ∧ g' = g1, ⟨[], ⟨rfl, by simp⟩, fun q => by simp, rfl⟩, fun i acc g' ⟨_, _, _, h⟩ => by rw [h]; exact ey, ?_, ?_⟩
  · rintro i x acc g' hx ⟨ps, dp, m, rfl⟩
    rw [List.getElem?_map] at hx
    cases hxi : (yps ns ts)[i]? with
    | none => rw [hxi] at hx; cases hx
    | some z =>
    rw [hxi] at hx
    cases hx
    repeat walk_at "d"
    refine ⟨_, keyP z, rfl, rfl, addP ps z, dp.put z _, fun q => ?_, rfl⟩
    rw [mem_addP, m q, List.take_add_one, hxi]
    simp
  · rintro acc g' pd ⟨ps, dp, m, rfl⟩ hal hpd
    rw [List.length_map] at hal
    rw [List.length_map, List.take_length] at m
    have hpd0 : g pd = none := by
      cases e : g pd with
      | none => rfl
      | some o => rw [k1 _ _ e] at hpd; cases hpd
    refine w_seq ?_
    refine elder_loop (g0 := g) (rest := [none]) (x2 := none) (x3 := none) (x4 := none) ok hpd0 (k1.trans (Kp.new hpd)) gup_same dp (by rw [← dp.len]; omega) fun g2 kvs' ps' x2 x3 x4 k2 e2 dp2 l2 m2 => ?_
    repeat walk_at "d"
    refine sorted_keys e2 dp2 fun g3 p3 k3 e3 => ?_
    repeat walk_at "d"
    exact hQ _ _ ⟨ps', dp2.nd, by omega, fun q => by rw [m2 q, m q]; rfl, rfl⟩ (k2.trans k3)
theorem p_lbasic (ds : List D) (g : G) (Q : D → G → Prop) (h : r_basic ds g Q) : t__law_basic r_llow r_lhigh { nx := fun _ g' => Q .non g', rt := Q } (dstart N__law_basic.length ds) g := by
  obtain ⟨ns, ts, rfl, ok, hQ⟩ := h
  have hnl := ok.n
  show t__law_basic r_llow r_lhigh { nx := fun _ g' => Q .non g', rt := Q } [some (dosD ns ts), none, none, none, none, none, none] g
  unfold t__law_basic
  refine w_seq ?_
  refine w_set ?_
  intro pd hpd
  refine w_seq ?_
  refine elder_loop (g0 := g) (rest := [none, none]) (x2 := none) (x3 := none) (x4 := none) (kvs := []) (ps := []) ok hpd (Kp.new hpd) gup_same ⟨rfl, by simp⟩ (by simp) fun g2 kvs0 ps0 x2 x3 x4 k2 e2 dp2 l2 m2 => ?_
  dsimp only
  refine w_seq ?_
  have dosT : dosD ns ts = .tup [.fin (ns.map D.str), .tup (ts.map Th.d)] := rfl
  repeat walk_at "d"
  let cond : Str × Str → Prop := fun q => ∃ h l, minO (highsL ts q.1) = some h ∧ maxO (lowsL ts q.2) = some l ∧ h < l
  refine ⟨fun i ρ' g' => ∃ (kvs' : List (List Key × D)) (ps' : List (Str × Str)) (x2 x3 x4 x5 x6 : Option D), ρ' = [some (.tup [.fin (ns.map D.str), .tup (ts.map Th.d)]), some (.obj pd), x2, x3, x4, x5, x6] ∧ Kp g g' ∧ g' pd = some (.dT kvs') ∧ DPl kvs' ps' ∧ ps'.length ≤ 410000 + i * 100 ∧ (∀ q, q ∈ ps' ↔ q ∈ ps0 ∨ (q.1 ∈ ns.take i ∧ q.2 ∈ ns ∧ cond q)), ⟨kvs0, ps0, _, _, _, _, _, rfl, k2, e2, dp2, by omega, fun q => by simp⟩, fun _ _ _ _ => trivial, ?_, ?_⟩
  · rintro i x ρ' g' hx ⟨kvs1, ps1, x2, x3, x4, x5, x6, rfl, k1, e1, dp1, l1, m1⟩
    rw [List.getElem?_map] at hx
    cases hxi : ns[i]? with
    | none => rw [hxi] at hx; cases hx
    | some a =>
    rw [hxi] at hx
    cases hx
    have hil : i < ns.length := (List.getElem?_eq_some_iff.mp hxi).1
    repeat walk_at "d"
    refine ⟨fun j ρ' g' => ∃ (kvs' : List (List Key × D)) (ps' : List (Str × Str)) (x4 x5 x6 : Option D), ρ' = [some (.tup [.fin (ns.map D.str), .tup (ts.map Th.d)]), some (.obj pd), x2, some (.str a), x4, x5, x6] ∧ Kp g g' ∧ g' pd = some (.dT kvs') ∧ DPl kvs' ps' ∧ ps'.length ≤ 410000 + i * 100 + j ∧ (∀ q, q ∈ ps' ↔ q ∈ ps1 ∨ (q.1 = a ∧ q.2 ∈ ns.take j ∧ cond q)), ⟨kvs1, ps1, _, _, _, rfl, k1, e1, dp1, by omega, fun q => by simp⟩, fun _ _ _ _ => trivial, ?_, ?_⟩
    · rintro j y ρ' g3 hy ⟨kvs3, ps3, x4, x5, x6, rfl, k3, e3, dp3, l3, m3⟩
      rw [List.getElem?_map] at hy
      cases hyj : ns[j]? with
      | none => rw [hyj] at hy; cases hy
      | some b =>
      rw [hyj] at hy
      cases hy
      have hjl : j < ns.length := (List.getElem?_eq_some_iff.mp hyj).1
      have tk : ∀ q : Str × Str, (q.1 = a ∧ q.2 ∈ ns.take (j + 1) ∧ cond q) ↔ (q.1 = a ∧ q.2 ∈ ns.take j ∧ cond q) ∨ (q = (a, b) ∧ cond (a, b)) := fun q => by
        rw [List.take_add_one, hyj]
        simp only [Option.toList_some, List.mem_append, List.mem_singleton]
        constructor
        · rintro ⟨h1, h2 | h2, h3⟩
          · exact .inl ⟨h1, h2, h3⟩
          · have : q = (a, b) := Prod.ext h1 h2
            subst this
            exact .inr ⟨rfl, h3⟩
        · rintro (⟨h1, h2, h3⟩ | ⟨rfl, h3⟩)
          · exact ⟨h1, .inl h2, h3⟩
          · exact ⟨rfl, .inr rfl, h3⟩
      have skip : ¬ cond (a, b) → ∀ (g5 : G) (x5 x6 : Option D), Kp g3 g5 → ∃ (kvs' : List (List Key × D)) (ps' : List (Str × Str)) (x4' x5' x6' : Option D), [some (.tup [.fin (ns.map D.str), .tup (ts.map Th.d)]), some (.obj pd), x2, some (.str a), some (.str b), x5, x6] = [some (.tup [.fin (ns.map D.str), .tup (ts.map Th.d)]), some (.obj pd), x2, some (.str a), x4', x5', x6'] ∧ Kp g g5 ∧ g5 pd = some (.dT kvs') ∧ DPl kvs' ps' ∧ ps'.length ≤ 410000 + i * 100 + (j + 1) ∧ (∀ q, q ∈ ps' ↔ q ∈ ps1 ∨ (q.1 = a ∧ q.2 ∈ ns.take (j + 1) ∧ cond q)) := by
        intro hn g5 x5 x6 k5
        refine ⟨kvs3, ps3, _, _, _, rfl, k3.trans k5, k5 _ _ e3, dp3, by omega, fun q => ?_⟩
        rw [m3 q, tk q]
        constructor
        · rintro (h | h)
          · exact .inl h
          · exact .inr (.inl h)
        · rintro (h | h | h)
          · exact .inl h
          · exact .inr h
          · exact absurd h.2 hn
      refine w_gn ?_
      refine w_seq ?_
      refine w_par ?_
      repeat walk_at "d"
      refine w_lhigh (ns := ns) (ts := ts) ok fun g4 k4 => ?_
      repeat walk_at "d"
      refine w_llow (ns := ns) (ts := ts) ok fun g5 k5 => ?_
      repeat walk_at "d"
      have kk := k4.trans k5
      cases hh : minO (highsL ts a) with
      | none =>
        refine w_ite (fun hc => Bool.noConfusion hc) fun _ => ?_
        repeat walk_at "d"
        exact skip (fun ⟨h, l, e, _⟩ => by rw [hh] at e; cases e) _ _ _ kk
      | some h =>
        refine w_ite (fun _ => ?_) fun hc => absurd rfl hc
        repeat walk_at "d"
        cases hl : maxO (lowsL ts b) with
        | none =>
          refine w_ite (fun hc => Bool.noConfusion hc) fun _ => ?_
          repeat walk_at "d"
          exact skip (fun ⟨h, l, _, e, _⟩ => by rw [hl] at e; cases e) _ _ _ kk
        | some l =>
          refine w_ite (fun _ => ?_) fun hc => absurd rfl hc
          rw [show oD (some h) = D.int h from rfl, show oD (some l) = D.int l from rfl]
          repeat walk_at "d"
          refine w_ite (fun hc => ?_) fun hc => ?_
          · have hlt : h < l := of_decide_eq_true hc
            repeat walk_at "d"
            refine v_stT (k := keyP (a, b)) (kk _ _ e3) rfl (by rw [dp3.len, sizeLine_eq]; omega) ?_
            repeat walk_at "d"
            refine ⟨_, _, _, _, _, rfl, (k3.trans kk).put hpd, gup_same, dp3.put (a, b) _, by have := @addP_len ps3 (a, b); omega, fun q => ?_⟩
            rw [mem_addP, m3 q, tk q]
            constructor
            · rintro ((h1 | h1) | h1)
              · exact .inl h1
              · exact .inr (.inl h1)
              · exact .inr (.inr ⟨h1, h, l, hh, hl, hlt⟩)
            · rintro (h1 | h1 | h1)
              · exact .inl (.inl h1)
              · exact .inl (.inr h1)
              · exact .inr h1.1
          · have hlt : ¬ h < l := by simpa using hc
            repeat walk_at "d"
            exact skip (fun ⟨h', l', e1, e2, e3⟩ => by rw [hh] at e1; rw [hl] at e2; cases e1; cases e2; exact hlt e3) _ _ _ kk
    · rintro ρ' g3 ⟨kvs3, ps3, x4, x5, x6, rfl, k3, e3, dp3, l3, m3⟩
      rw [List.length_map] at l3
      refine ⟨kvs3, ps3, _, _, _, _, _, rfl, k3, e3, dp3, by omega, fun q => ?_⟩
      rw [m3 q, m1 q, List.length_map, List.take_length, List.take_add_one, hxi]
      simp only [Option.toList_some, List.mem_append, List.mem_singleton]
      constructor
      · rintro ((h1 | ⟨h1, h2⟩) | ⟨h1, h2⟩)
        · exact .inl h1
        · exact .inr ⟨.inl h1, h2⟩
        · exact .inr ⟨.inr h1, h2⟩
      · rintro (h1 | ⟨h1 | h1, h2⟩)
        · exact .inl (.inl h1)
        · exact .inl (.inr ⟨h1, h2⟩)
        · exact .inr ⟨h1, h2⟩
  · rintro ρ' g' ⟨kvs1, ps1, x2, x3, x4, x5, x6, rfl, k1, e1, dp1, l1, m1⟩
    rw [List.length_map] at l1
    repeat walk_at "d"
    refine sorted_keys e1 dp1 fun g3 p3 k3 e3 => ?_
    repeat walk_at "d"
    refine hQ _ _ ⟨ps1, dp1.nd, by omega, fun q => ?_, rfl⟩ (k1.trans k3)
    rw [m1 q, m2 q, List.length_map, List.take_length]
    unfold basicP
    rw [mem_yps]
    constructor
    · rintro ((h | h) | h)
      · cases h
      · exact .inr h
      · exact .inl h
    · rintro (h | h)
      · exact .inr h
      · exact .inl (.inr h)
end L2.DL

namespace L2.DL
open PySem PySem.Spec PyProof.Rows
local macro_rules | `(tactic| walk_at "g") => `(tactic| first | assumption | exact gup_same | exact gup_old (by assumption) (by assumption) | exact gup_old (by assumption) (gup_old (by assumption) (by assumption)) | exact gup_old (by assumption) gup_same | exact gup_old (by assumption) (gup_old (by assumption) gup_same) | ((repeat (rw [gup_ne (by first | assumption | (apply Ne.symm; assumption))])); first | exact gup_same | assumption) | rfl)
local macro_rules | `(tactic| walk_at "b") => `(tactic| simp only [Bool.false_xor, Bool.true_xor, decide_eq_true_eq, Bool.not_eq_true', decide_eq_false_iff_not, Bool.and_eq_true, Bool.or_eq_true])
local macro_rules | `(tactic| walk_at "d") => `(tactic| first
  | with_reducible refine' w_seq1 ?_ | with_reducible refine' w_seq2 ?_ | with_reducible refine' w_seq3 ?_ | with_reducible refine' w_seq4 ?_ | with_reducible refine' w_seq5 ?_ | with_reducible refine' w_op ?_ | ((with_reducible refine' w_var ?e ?_); case e => rfl) | with_reducible refine' w_c ?_ | with_reducible refine' w_cons ?_ | with_reducible refine' w_nil ?_
  | with_reducible refine' w_rfl ?_ | ((with_reducible refine' w_len ?e ?_); case e => rfl) | ((with_reducible refine' w_le ?e ?_); case e => (rw [sizeLine_eq]; simp only [List.length_cons, List.length_nil]; omega)) | with_reducible refine' w_set ?_ | with_reducible refine' w_ret ?_ | with_reducible refine' w_if ?_ | with_reducible refine' w_cb ?_ | with_reducible refine' w_call ?_ | with_reducible refine' w_B ?_ | with_reducible refine' w_bl ?_
  | with_reducible refine' w_and ?_ | with_reducible refine' w_or ?_ | with_reducible refine' w_not ?_ | with_reducible refine' w_ifE ?_ | with_reducible refine' w_yes ?_ | with_reducible refine' w_sl ?_ | with_reducible refine' w_nop ?_ | with_reducible refine' w_p ?_ | with_reducible refine' w_in ?_
  | with_reducible refine' w_store ?_ | with_reducible refine' w_augS ?_ | ((with_reducible refine' w_aug ?e ?_); case e => rfl) | with_reducible refine' w_m ?_ | with_reducible refine' w_andV ?_ | with_reducible refine' w_orV ?_ | with_reducible refine' w_notV ?_ | with_reducible refine' w_chain ?_
  | with_reducible refine' w_drop ?_ | with_reducible refine' w_retN ?_ | with_reducible refine' w_nx ?_ | with_reducible refine' w_un ?_ | with_reducible refine' w_tup ?_ | with_reducible refine' w_lst ?_ | with_reducible refine' w_callK ?_ | with_reducible refine' w_callX ?_ | with_reducible refine' w_isi2 ?_ | with_reducible refine' w_get1 ?_ | with_reducible refine' w_get2 ?_ | with_reducible refine' w_rng1 ?_
  | with_reducible refine' v_add ?_ | with_reducible refine' v_intB ?_ | with_reducible refine' v_neg ?_ | with_reducible refine' v_eqS ?_ | with_reducible refine' v_eqI ?_ | with_reducible refine' v_eqB ?_ | with_reducible refine' v_eqN ?_ | with_reducible refine' v_is ?_ | with_reducible refine' v_intI ?_ | with_reducible refine' v_intBl ?_ | with_reducible refine' v_abs ?_
  | with_reducible refine' v_max2 ?_ | with_reducible refine' v_min2 ?_ | with_reducible refine' v_lenT ?_ | with_reducible refine' v_lenF ?_ | with_reducible refine' v_lenC ?_ | with_reducible refine' v_slT ?_ | with_reducible refine' v_slC ?_ | with_reducible refine' v_ipA ?_ | with_reducible refine' v_ipS ?_ | with_reducible refine' v_mtS ?_
  | with_reducible refine' iteT ?_ | with_reducible refine' iteF ?_
  | ((with_reducible refine' v_mul ?c ?_); case c => (unfold CMul; first | (apply Or.inr; constructor <;> decide) | (apply Or.inl; constructor <;> decide) | (apply Or.inl; constructor <;> omega) | (apply Or.inr; constructor <;> omega)))
  | ((with_reducible refine' v_int ?c ?_); case c => first | exact trivial | (show CPos _ _; first | decide | (show (0:Int) < _; omega)) | (show CDiv _ _; constructor <;> omega) | (show CPow _ _; refine ⟨?_, ?_, ?_⟩ <;> decide))
  | ((with_reducible refine' v_ixT ?c ?_); case c => rfl)
  | ((with_reducible refine' v_ixL ?e ?c ?_); (case e => walk_at "g"); (case c => rfl))
  | ((with_reducible refine' v_lenL ?e ?_); (case e => walk_at "g")) | ((with_reducible refine' v_tupL ?e ?_); (case e => walk_at "g"))
  | ((with_reducible refine' v_gt ?e ?c ?_); (case e => walk_at "g"); (case c => rfl)) | ((with_reducible refine' v_st ?e ?c ?_); (case e => walk_at "g"); (case c => rfl))
  | with_reducible refine' w_for ?_ | with_reducible refine' w_seqI ?_ | with_reducible refine' w_gn ?_ | with_reducible refine' w_gt ?_ | with_reducible refine' w_gc ?_ | with_reducible refine' w_g0 ?_ | with_reducible refine' v_itT ?_ | with_reducible refine' v_itF ?_ | with_reducible refine' v_itC ?_
  | ((with_reducible refine' v_itL ?e ?_); (case e => walk_at "g"))
  | ((with_reducible refine' v_lstL ?e ?_); (case e => walk_at "g")) | ((with_reducible refine' v_addL ?e ?e2 ?l ?_); (case e => walk_at "g"); (case e2 => walk_at "g"); (case l => (rw [sizeLine_eq]; simp only [List.length_cons, List.length_nil]; omega))) | ((with_reducible refine' v_slL ?e ?_); (case e => walk_at "g")) | ((with_reducible refine' v_mtL ?e ?_); (case e => walk_at "g"))
  | dsimp only
  | with_reducible refine' w_par ?_ | ((with_reducible refine' v_addT ?l ?_); (case l => (rw [sizeLine_eq]; simp only [List.length_cons, List.length_nil]; omega))))
theorem eq_fin_nil {g : G} {ns : List Str} {neg : Bool} {Q : D → G → Prop} (hs : ∀ s ∈ ns, Nm s) (h : Q (.bl (neg ^^ decide (ns = []))) g) : eqD neg (.fin (ns.map D.str)) (.tup []) g Q := by
  have p1 : ∀ l : List Str, pyDs (l.map D.str) = some (l.map PyData.str) := by
    intro l
    induction l with
    | nil => simp [pyDs]
    | cons a l ih => rw [List.map_cons]; unfold pyDs; rw [ih]; simp [pyD]
  have p2 : ∀ l : List Str, (∀ s ∈ l, Nm s) → PyData.canLayAll0 (l.map PyData.str) = true ∧ PyData.depthAll (l.map PyData.str) ≤ 2 := by
    intro l hl
    induction l with
    | nil => exact ⟨rfl, by simp [PyData.depthAll]⟩
    | cons a l ih =>
      obtain ⟨h1, h2⟩ := ih fun s hs => hl s (List.mem_cons_of_mem _ hs)
      rw [List.map_cons]
      refine ⟨?_, ?_⟩
      · unfold PyData.canLayAll0
        rw [h1, Bool.and_true]
        unfold PyData.canLay0
        have := (hl a (List.mem_cons_self ..)).2
        unfold PyData.strOk
        rw [Array.all_eq_true']
        intro c hc
        exact decide_eq_true (this c (by simpa using hc))
      · unfold PyData.depthAll
        have : (PyData.str a).depth ≤ 2 := by simp [PyData.depth]
        omega
  obtain ⟨h1, h2⟩ := p2 ns hs
  refine ⟨.tuple (ns.map PyData.str), .tuple [], by simp [pyG, pyD, p1], by simp [pyG, pyD, pyDs], ?_, by decide, ?_⟩
  · unfold SeqAt.shaped
    rw [Bool.and_eq_true]
    refine ⟨by unfold PyData.canLay0; exact h1, ?_⟩
    have : (PyData.tuple (ns.map PyData.str)).depth ≤ 64 := by unfold PyData.depth; omega
    exact decide_eq_true this
  · have : PyData.eqv (.tuple (ns.map PyData.str)) (.tuple []) = decide (ns = []) := by
      cases ns with
      | nil => simp [PyData.eqv, PyData.eqvAll]
      | cons n ns => simp [PyData.eqv, PyData.eqvAll]
    rw [this]
    exact h
end L2.DL

namespace L2.DL
open PySem PySem.Spec PyProof.Rows
local macro_rules | `(tactic| walk_at "g") => `(tactic| first | assumption | exact gup_same | exact gup_old (by assumption) (by assumption) | exact gup_old (by assumption) (gup_old (by assumption) (by assumption)) | exact gup_old (by assumption) gup_same | exact gup_old (by assumption) (gup_old (by assumption) gup_same) | ((repeat (rw [gup_ne (by first | assumption | (apply Ne.symm; assumption))])); first | exact gup_same | assumption) | rfl)
local macro_rules | `(tactic| walk_at "b") => `(tactic| simp only [Bool.false_xor, Bool.true_xor, decide_eq_true_eq, Bool.not_eq_true', decide_eq_false_iff_not, Bool.and_eq_true, Bool.or_eq_true])
local macro_rules | `(tactic| walk_at "d") => `(tactic| first
  | with_reducible refine' w_seq1 ?_ | with_reducible refine' w_seq2 ?_ | with_reducible refine' w_seq3 ?_ | with_reducible refine' w_seq4 ?_ | with_reducible refine' w_seq5 ?_ | with_reducible refine' w_op ?_ | ((with_reducible refine' w_var ?e ?_); case e => rfl) | with_reducible refine' w_c ?_ | with_reducible refine' w_cons ?_ | with_reducible refine' w_nil ?_
  | with_reducible refine' w_rfl ?_ | ((with_reducible refine' w_len ?e ?_); case e => rfl) | ((with_reducible refine' w_le ?e ?_); case e => (rw [sizeLine_eq]; simp only [List.length_cons, List.length_nil]; omega)) | with_reducible refine' w_set ?_ | with_reducible refine' w_ret ?_ | with_reducible refine' w_if ?_ | with_reducible refine' w_cb ?_ | with_reducible refine' w_call ?_ | with_reducible refine' w_B ?_ | with_reducible refine' w_bl ?_
  | with_reducible refine' w_and ?_ | with_reducible refine' w_or ?_ | with_reducible refine' w_not ?_ | with_reducible refine' w_ifE ?_ | with_reducible refine' w_yes ?_ | with_reducible refine' w_sl ?_ | with_reducible refine' w_nop ?_ | with_reducible refine' w_p ?_ | with_reducible refine' w_in ?_
  | with_reducible refine' w_store ?_ | with_reducible refine' w_augS ?_ | ((with_reducible refine' w_aug ?e ?_); case e => rfl) | with_reducible refine' w_m ?_ | with_reducible refine' w_andV ?_ | with_reducible refine' w_orV ?_ | with_reducible refine' w_notV ?_ | with_reducible refine' w_chain ?_
  | with_reducible refine' w_drop ?_ | with_reducible refine' w_retN ?_ | with_reducible refine' w_nx ?_ | with_reducible refine' w_un ?_ | with_reducible refine' w_tup ?_ | with_reducible refine' w_lst ?_ | with_reducible refine' w_callK ?_ | with_reducible refine' w_callX ?_ | with_reducible refine' w_isi2 ?_ | with_reducible refine' w_get1 ?_ | with_reducible refine' w_get2 ?_ | with_reducible refine' w_rng1 ?_
  | with_reducible refine' v_add ?_ | with_reducible refine' v_intB ?_ | with_reducible refine' v_neg ?_ | with_reducible refine' v_eqS ?_ | with_reducible refine' v_eqI ?_ | with_reducible refine' v_eqB ?_ | with_reducible refine' v_eqN ?_ | with_reducible refine' v_is ?_ | with_reducible refine' v_intI ?_ | with_reducible refine' v_intBl ?_ | with_reducible refine' v_abs ?_
  | with_reducible refine' v_max2 ?_ | with_reducible refine' v_min2 ?_ | with_reducible refine' v_lenT ?_ | with_reducible refine' v_lenF ?_ | with_reducible refine' v_lenC ?_ | with_reducible refine' v_slT ?_ | with_reducible refine' v_slC ?_ | with_reducible refine' v_ipA ?_ | with_reducible refine' v_ipS ?_ | with_reducible refine' v_mtS ?_
  | with_reducible refine' iteT ?_ | with_reducible refine' iteF ?_
  | ((with_reducible refine' v_mul ?c ?_); case c => (unfold CMul; first | (apply Or.inr; constructor <;> decide) | (apply Or.inl; constructor <;> decide) | (apply Or.inl; constructor <;> omega) | (apply Or.inr; constructor <;> omega)))
  | ((with_reducible refine' v_int ?c ?_); case c => first | exact trivial | (show CPos _ _; first | decide | (show (0:Int) < _; omega)) | (show CDiv _ _; constructor <;> omega) | (show CPow _ _; refine ⟨?_, ?_, ?_⟩ <;> decide))
  | ((with_reducible refine' v_ixT ?c ?_); case c => rfl)
  | ((with_reducible refine' v_ixL ?e ?c ?_); (case e => walk_at "g"); (case c => rfl))
  | ((with_reducible refine' v_lenL ?e ?_); (case e => walk_at "g")) | ((with_reducible refine' v_tupL ?e ?_); (case e => walk_at "g"))
  | ((with_reducible refine' v_gt ?e ?c ?_); (case e => walk_at "g"); (case c => rfl)) | ((with_reducible refine' v_st ?e ?c ?_); (case e => walk_at "g"); (case c => rfl))
  | with_reducible refine' w_for ?_ | with_reducible refine' w_seqI ?_ | with_reducible refine' w_gn ?_ | with_reducible refine' w_gt ?_ | with_reducible refine' w_gc ?_ | with_reducible refine' w_g0 ?_ | with_reducible refine' v_itT ?_ | with_reducible refine' v_itF ?_ | with_reducible refine' v_itC ?_
  | ((with_reducible refine' v_itL ?e ?_); (case e => walk_at "g"))
  | ((with_reducible refine' v_lstL ?e ?_); (case e => walk_at "g")) | ((with_reducible refine' v_addL ?e ?e2 ?l ?_); (case e => walk_at "g"); (case e2 => walk_at "g"); (case l => (rw [sizeLine_eq]; simp only [List.length_cons, List.length_nil]; omega))) | ((with_reducible refine' v_slL ?e ?_); (case e => walk_at "g")) | ((with_reducible refine' v_mtL ?e ?_); (case e => walk_at "g"))
  | dsimp only
  | with_reducible refine' w_par ?_ | ((with_reducible refine' v_addT ?l ?_); (case l => (rw [sizeLine_eq]; simp only [List.length_cons, List.length_nil]; omega))))
abbrev dosT (ns : List Str) (ts : List Th) : D := .tup [.fin (ns.map D.str), .tup (ts.map Th.d)]
structure Dz (ns : List Str) (ts : List Th) (b : Nat) : Prop where
  n : ns.length ≤ 40
  nm : ∀ s ∈ ns, Nm s
  t : ts.length ≤ b
  ok : ∀ t ∈ ts, t.Ok
theorem Dz.dos {ns : List Str} {ts : List Th} {b : Nat} (h : Dz ns ts b) (hb : b ≤ 40) : DosOk ns ts := ⟨by have := h.n; omega, by have := h.t; omega, h.ok⟩
theorem Dz.add {ns : List Str} {ts : List Th} {b : Nat} (h : Dz ns ts b) {t : Th} (ht : t.Ok) : Dz ns (ts ++ [t]) (b + 1) := ⟨h.n, h.nm, by have := h.t; simp; omega, fun w hw => by
  rcases List.mem_append.mp hw with hw | hw
  · exact h.ok w hw
  · rw [List.mem_singleton.mp hw]; exact ht⟩
theorem Dz.mono {ns : List Str} {ts : List Th} {b c : Nat} (h : Dz ns ts b) (hc : b ≤ c) : Dz ns ts c := ⟨h.n, h.nm, Nat.le_trans h.t hc, h.ok⟩
/-! what is compared is plain -/
theorem bands_ok {t : Th} (h : t.Ok) : (bandsOf t).length ≤ 40000 ∧ ∀ b ∈ bandsOf t, b.length ≤ 200 := by
  cases t with
  | elder a b => exact ⟨by simp [bandsOf], fun _ h => by cases h⟩
  | years a b c => exact ⟨by simp [bandsOf], fun _ h => by cases h⟩
  | ware a =>
    have : a.length ≤ 100 := h
    exact ⟨by simp [bandsOf], fun b hb => by rw [List.mem_singleton.mp hb]; omega⟩
  | series rows =>
    obtain ⟨h1, h2⟩ := h
    refine ⟨?_, fun b hb => ?_⟩
    · have := flat_len (rows := rows) fun r hr => (h2 r hr).1
      have : rows.length * 400 ≤ 100 * 400 := Nat.mul_le_mul_right _ h1
      show (rows.flatMap rowB).length ≤ _
      omega
    · obtain ⟨row, hr, hb⟩ := List.mem_flatMap.mp hb
      have hrow := (h2 row hr).2
      rcases List.mem_append.mp hb with hb | hb
      · have := hrow b hb; omega
      · obtain ⟨k, _, rfl⟩ := List.mem_map.mp hb
        have lb : ∀ j : Nat, (row.getD j []).length ≤ 100 := fun j => by
          rw [List.getD_eq_getElem?_getD]
          cases e : row[j]? with
          | none => simp
          | some w => exact hrow w (List.mem_of_getElem? e)
        have l1 := lb k
        have l2 := lb (k + 1)
        have : (adjF row k).length = (row.getD k [] ++ row.getD (k + 1) []).length := by
          have := congrArg List.length (sortS_eq (row.getD k [] ++ row.getD (k + 1) []))
          rw [sortD_length, List.length_map, List.length_map] at this
          exact this.symm
        rw [this, List.length_append]
        omega
theorem Pl_sD {n : Nat} {b : List Str} (h : b.length ≤ 1000) : Pl (n + 1) (sD b) := by
  show (b.map D.str).length ≤ 16777216 ∧ ∀ d ∈ b.map D.str, Pl n d
  refine ⟨by rw [List.length_map]; omega, fun d hd => ?_⟩
  obtain ⟨s, _, rfl⟩ := List.mem_map.mp hd
  cases n <;> trivial
theorem Pl_bands {t : Th} (h : t.Ok) : Pl 5 (bandsD (bandsOf t)) := by
  obtain ⟨h1, h2⟩ := bands_ok h
  show ((bandsOf t).map sD).length ≤ 16777216 ∧ ∀ d ∈ (bandsOf t).map sD, Pl 4 d
  refine ⟨by rw [List.length_map]; omega, fun d hd => ?_⟩
  obtain ⟨s, hs, rfl⟩ := List.mem_map.mp hd
  exact Pl_sD (by have := h2 s hs; omega)
theorem Pl_two {n : Nat} {a b : D} (ha : Pl n a) (hb : Pl n b) : Pl (n + 1) (.tup [a, b]) := by
  show [a, b].length ≤ 16777216 ∧ ∀ d ∈ [a, b], Pl n d
  refine ⟨by simp, fun d hd => ?_⟩
  simp at hd
  rcases hd with rfl | rfl
  · exact ha
  · exact hb
theorem Pl_oD {n : Nat} (o : Option Int) : Pl n (oD o) := by cases o <;> cases n <;> trivial
theorem Pl_str {n : Nat} (s : Str) : Pl n (.str s) := by cases n <;> trivial
theorem Pl_told (lo : Bool) (ns : List Str) (ts : List Th) (a : Str) : Pl 5 (toldD lo ns ts a) := by
  unfold toldD
  split
  · exact Pl_two (Pl_str _) (Pl_oD _)
  · exact Pl_two (Pl_str _) (Pl_str _)
theorem Pl_basic {ns : List Str} {ts : List Th} {d : D} (h : BasicD ns ts d) : Pl 5 d := by
  obtain ⟨ps, _, hl, _, rfl⟩ := h
  show (sortD (ps.map pairD)).length ≤ 16777216 ∧ ∀ d ∈ sortD (ps.map pairD), Pl 4 d
  refine ⟨by rw [sortD_length, List.length_map]; omega, fun d hd => ?_⟩
  obtain ⟨p, _, rfl⟩ := List.mem_map.mp ((sortD_perm _).mem_iff.mp hd)
  exact Pl_two (Pl_str _) (Pl_str _)
theorem w_same {d : D} {g : G} {Q : D → G → Prop} (h : Pl 5 d) (q : Q (.bl true) g) : r_same 5 [d, d] g Q := ⟨d, rfl, h, q⟩
def r_law : DN := fun ds g Q => ∃ ns : List Int, ds = [.scr ns] ∧ ∀ g', Q (.bl true) g'
theorem p_law (ds : List D) (g : G) (Q : D → G → Prop) (h : r_law ds g Q) : t_law r_start r_take r_dos r_years r_shuf r_pick r_lot r_free (r_same 5) r_bands r_bands r_llow r_told r_lhigh r_basic r_basic { nx := fun _ g' => Q .non g', rt := Q } (dstart N_law.length ds) g := by
  obtain ⟨n0, rfl, hQ⟩ := h
  show t_law r_start r_take r_dos r_years r_shuf r_pick r_lot r_free (r_same 5) r_bands r_bands r_llow r_told r_lhigh r_basic r_basic { nx := fun _ g' => Q .non g', rt := Q } [some (.scr n0), none, none, none, none, none, none, none, none, none, none] g
  unfold t_law
  repeat walk_at "d"
  refine w_start fun st cl g1 _ s1 _ => ?_
  repeat walk_at "d"
  refine w_seq ?_
  repeat walk_at "d"
  refine ⟨_, rfl, by constructor <;> decide, fun i ρ' g' => ∃ (x2 x3 x4 x5 x6 x7 x8 x9 x10 : Option D), ρ' = [some (.scr n0), some (.obj st), x2, x3, x4, x5, x6, x7, x8, x9, x10] ∧ St g' st cl, ⟨_, _, _, _, _, _, _, _, _, rfl, s1⟩, fun _ _ _ _ => trivial, ?_, ?_⟩
  case refine_2 =>
    rintro ρ' g' ⟨x2, x3, x4, x5, x6, x7, x8, x9, x10, rfl, s2⟩
    repeat walk_at "d"
    exact hQ _
  rintro i x ρ' g' hx ⟨x2, x3, x4, x5, x6, x7, x8, x9, x10, rfl, s2⟩
  clear hx
  refine w_gn ?_
  generalize hT : (fun (ρ' : Rho) (g' : G) => ∃ (x2 x3 x4 x5 x6 x7 x8 x9 x10 : Option D), ρ' = [some (.scr n0), some (.obj st), x2, x3, x4, x5, x6, x7, x8, x9, x10] ∧ St g' st cl) = T
  have hK0 : ∀ (g' : G) (x2 x3 x4 x5 x6 x7 x8 x9 x10 : Option D), St g' st cl → T [some (.scr n0), some (.obj st), x2, x3, x4, x5, x6, x7, x8, x9, x10] g' := fun g' x2 x3 x4 x5 x6 x7 x8 x9 x10 s => by subst hT; exact ⟨_, _, _, _, _, _, _, _, _, rfl, s⟩
  -- great
  refine w_seqK (fun ρ' g' => ∃ (gb : Bool) (x2 x4 x5 x6 x7 x8 x9 x10 : Option D), ρ' = [some (.scr n0), some (.obj st), x2, some (.bl gb), x4, x5, x6, x7, x8, x9, x10] ∧ St g' st cl) (fun ρ' g' h => ?_) (fun K hK => ?_)
  case refine_2 =>
    repeat walk_at "d"
    refine w_take s2 (by decide) (by decide) fun gv g2 _ _ s3 _ => ?_
    repeat walk_at "d"
    exact hK _ _ ⟨_, _, _, _, _, _, _, _, _, rfl, s3⟩
  clear s2
  obtain ⟨gb, x2, x4, x5, x6, x7, x8, x9, x10, rfl, s2⟩ := h
  -- the dossier
  refine w_seqK (fun ρ' g' => ∃ (ns : List Str) (ts : List Th) (x2 x3 x5 x6 x7 x8 x9 x10 : Option D), ρ' = [some (.scr n0), some (.obj st), x2, x3, some (dosT ns ts), x5, x6, x7, x8, x9, x10] ∧ Dz ns ts 10 ∧ St g' st cl) (fun ρ' g' h => ?_) (fun K hK => ?_)
  case refine_2 =>
    have fin : ∀ (m k : Int) (g3 : G), 0 ≤ m → m ≤ 40 → 0 ≤ k → k ≤ 10 → St g3 st cl → r_dos [.obj st, .int m, .int k] g3 fun x g1 => K ([some (.scr n0), some (.obj st), x2, some (.bl gb), x4, x5, x6, x7, x8, x9, x10].set 4 (some x)) g1 := fun m k g3 a1 a2 a3 a4 s4 =>
      w_dos a1 a2 a3 a4 s4 fun ns ts g4 b1 b2 b3 b4 s5 _ => hK _ _ ⟨ns, ts, _, _, _, _, _, _, _, _, rfl, ⟨b1, b2, b3, b4⟩, s5⟩
    repeat walk_at "d"
    refine w_ite (fun _ => ?_) fun _ => ?_
    · repeat walk_at "d"
      refine w_ite (fun _ => ?_) fun _ => ?_
      · repeat walk_at "d"
        exact fin 40 4 _ (by decide) (by decide) (by decide) (by decide) s2
      · repeat walk_at "d"
        refine w_take s2 (by decide) (by decide) fun v g3 v0 v1 s3 _ => ?_
        repeat walk_at "d"
        exact fin 40 v _ (by decide) (by decide) v0 (by omega) s3
    · repeat walk_at "d"
      refine w_take s2 (by decide) (by decide) fun u g3 u0 u1 s3 _ => ?_
      repeat walk_at "d"
      refine w_ite (fun _ => ?_) fun _ => ?_
      · repeat walk_at "d"
        exact fin u 4 _ u0 (by omega) (by decide) (by decide) s3
      · repeat walk_at "d"
        refine w_take s3 (by decide) (by decide) fun v g4 v0 v1 s4 _ => ?_
        repeat walk_at "d"
        exact fin u v _ u0 (by omega) v0 (by omega) s4
  clear s2
  obtain ⟨ns, ts, x2, x3, x5, x6, x7, x8, x9, x10, rfl, dz, s2⟩ := h
  -- things more
  refine w_seqK (fun ρ' g' => ∃ (ns : List Str) (ts : List Th) (x2 x3 x5 x6 x7 x8 x9 x10 : Option D), ρ' = [some (.scr n0), some (.obj st), x2, x3, some (dosT ns ts), x5, x6, x7, x8, x9, x10] ∧ Dz ns ts 20 ∧ St g' st cl) (fun ρ' g' h => ?_) (fun K hK => ?_)
  case refine_2 =>
    repeat walk_at "d"
    refine eq_fin_nil dz.nm ?_
    repeat walk_at "d"
    refine w_ite (fun hc => ?_) fun _ => ?_
    case refine_2 =>
      repeat walk_at "d"
      refine ⟨_, rfl, by constructor <;> decide, fun i ρ' g'' => i = 0 ∧ ρ' = [some (.scr n0), some (.obj st), x2, x3, some (dosT ns ts), x5, x6, x7, x8, x9, x10] ∧ g'' = g', ⟨rfl, rfl, rfl⟩, fun _ _ _ _ => trivial, fun i x ρ' g' hx _ => by obtain ⟨hi, _⟩ := rangeD_get hx; omega, ?_⟩
      rintro ρ' g'' ⟨_, rfl, rfl⟩
      exact hK _ _ ⟨ns, ts, _, _, _, _, _, _, _, _, rfl, dz.mono (by omega), s2⟩
    have hne : ns ≠ [] := by simpa using hc
    have hnl := dz.n
    repeat walk_at "d"
    refine w_take s2 (by decide) (by decide) fun cnt g3 c0 c1 s3 _ => ?_
    repeat walk_at "d"
    refine ⟨_, rfl, by constructor <;> omega, fun i ρ' g' => ∃ (ts : List Th) (x2 x3 x5 x6 x7 x8 x9 x10 : Option D), ρ' = [some (.scr n0), some (.obj st), x2, x3, some (dosT ns ts), x5, x6, x7, x8, x9, x10] ∧ Dz ns ts (10 + 2 * i) ∧ St g' st cl, ⟨ts, _, _, _, _, _, _, _, _, rfl, dz, s3⟩, fun _ _ _ _ => trivial, ?_, ?_⟩
    case refine_2 =>
      rintro ρ' g' ⟨ts, x2, x3, x5, x6, x7, x8, x9, x10, rfl, dz, s3⟩
      have : (rangeD 0 cnt.toNat).length ≤ 3 := by simp [rangeD]; omega
      exact hK _ _ ⟨ns, ts, _, _, _, _, _, _, _, _, rfl, dz.mono (by omega), s3⟩
    rintro i x ρ' g' hx ⟨ts, x2, x3, x5, x6, x7, x8, x9, x10, rfl, dz, s4⟩
    obtain ⟨hi, rfl⟩ := rangeD_get hx
    have htl := dz.t
    repeat walk_at "d"
    refine w_shuf (xs := ns.map D.str) rfl (by intro s h; cases h) (by rw [List.length_map]; omega) s4 fun p ys g5 hp ep lp mp s5 _ => ?_
    obtain ⟨sh, rfl, q1, _⟩ := strs_of mp
    rw [List.length_map, List.length_map] at lp
    repeat walk_at "d"
    refine w_years (s4.ne hp) ep (fun z => by rw [z] at lp; simp at lp; exact hne (List.length_eq_zero_iff.mp lp.symm)) (by omega) s5 fun t g6 okt s6 _ => ?_
    repeat walk_at "d"
    refine v_addT (by rw [List.length_map, sizeLine_eq]; simp; omega) ?_
    have e1 : ts.map Th.d ++ [t.d] = (ts ++ [t]).map Th.d := by simp
    rw [e1]
    have dz1 := dz.add okt
    generalize ts ++ [t] = ts1 at dz1
    have htl1 := dz1.t
    repeat walk_at "d"
    refine w_lot (xs := ns) rfl (by intro s h; cases h) hne (by omega) s6 (fun _ _ => rfl) fun lot g7 _ ll _ s7 _ => ?_
    repeat walk_at "d"
    intro p1 hp1
    repeat walk_at "d"
    refine pick_ints (ns := [-9999, 9999, 0]) (by simp) (by simp) s7 hp1 fun lo g8 _ s8 _ => ?_
    repeat walk_at "d"
    intro p2 hp2
    repeat walk_at "d"
    refine w_pick (xs := [.non, .int 9999]) (by simp only [seqOf, lstOf, gup_same]) (by intro s h; cases h) (by simp) (by simp) (s8.kp (Kp.new hp2)) (fun g' f => by simp only [seqOf, lstOf, f _ _ (s8.ne hp2) gup_same]) fun hi' g9 hhi s9 _ => ?_
    obtain ⟨ho, rfl⟩ : ∃ o : Option Int, hi' = oD o := by
      simp at hhi
      rcases hhi with rfl | rfl
      · exact ⟨none, rfl⟩
      · exact ⟨some 9999, rfl⟩
    have okl : lot.length ≤ 100 := by omega
    repeat walk_at "d"
    intro p3 hp3
    repeat walk_at "d"
    refine pick_ints (ns := [-9999, 0, 9999]) (by simp) (by simp) s9 hp3 fun lo2 g10 _ s10 _ => ?_
    repeat walk_at "d"
    refine v_addT (Nat.le_trans (Nat.add_le_add_right cut_len _) (by rw [sizeLine_eq]; simp)) ?_
    repeat walk_at "d"
    refine w_take s10 (by decide) (by decide) fun w g11 w0 w1 s11 _ => ?_
    obtain ⟨t2, ok2, et2⟩ : ∃ t2 : Th, t2.Ok ∧ atI [D.tup [.str "years", sD lot, .int lo, oD ho], D.tup (cutD [.str "years", sD lot, .int lo, oD ho] none (some 2) ++ [.non, .int lo2])] w = some t2.d := by
      have : w = 0 ∨ w = 1 := by omega
      rcases this with rfl | rfl
      · exact ⟨.years lot (some lo) ho, okl, rfl⟩
      · exact ⟨.years lot none (some lo2), okl, rfl⟩
    refine v_ixT et2 ?_
    repeat walk_at "d"
    refine v_addT (by rw [List.length_map, sizeLine_eq]; simp; omega) ?_
    have e2 : ts1.map Th.d ++ [t2.d] = (ts1 ++ [t2]).map Th.d := by simp
    rw [e2]
    repeat walk_at "d"
    exact ⟨ts1 ++ [t2], _, _, _, _, _, _, _, _, rfl, (dz1.add ok2).mono (by omega), s11⟩
  clear s2 dz
  obtain ⟨ns, ts, x2, x3, x5, x6, x7, x8, x9, x10, rfl, dz, s2⟩ := h
  -- the free series
  refine w_seqK (fun ρ' g' => ∃ (ns : List Str) (ts : List Th) (x2 x3 x5 x6 x7 x8 x9 x10 : Option D), ρ' = [some (.scr n0), some (.obj st), x2, x3, some (dosT ns ts), x5, x6, x7, x8, x9, x10] ∧ Dz ns ts 21 ∧ St g' st cl) (fun ρ' g' h => ?_) (fun K hK => ?_)
  case refine_2 =>
    have hnl := dz.n
    have htl := dz.t
    repeat walk_at "d"
    refine w_ite (fun _ => ?_) fun _ => ?_
    · repeat walk_at "d"
      refine w_free (by omega) s2 fun t g3 ok3 s3 _ => ?_
      repeat walk_at "d"
      refine v_addT (by rw [List.length_map, sizeLine_eq]; simp; omega) ?_
      have e2 : ts.map Th.d ++ [t.d] = (ts ++ [t]).map Th.d := by simp
      rw [e2]
      repeat walk_at "d"
      exact hK _ _ ⟨ns, ts ++ [t], _, _, _, _, _, _, _, _, rfl, dz.add ok3, s3⟩
    · repeat walk_at "d"
      exact hK _ _ ⟨ns, ts, _, _, _, _, _, _, _, _, rfl, dz.mono (by omega), s2⟩
  clear s2 dz
  obtain ⟨ns, ts, x2, x3, x5, x6, x7, x8, x9, x10, rfl, dz, s2⟩ := h
  have dos := dz.dos (by omega)
  have hnl := dz.n
  -- the bands
  refine w_seqK (fun ρ' g' => ∃ (x2 x3 x5 x6 x7 x8 x9 x10 : Option D), ρ' = [some (.scr n0), some (.obj st), x2, x3, some (dosT ns ts), x5, x6, x7, x8, x9, x10] ∧ St g' st cl) (fun ρ' g' h => ?_) (fun K hK => ?_)
  case refine_2 =>
    repeat walk_at "d"
    refine ⟨fun i ρ' g' => ∃ (x2 x3 x5 x6 x7 x8 x9 x10 : Option D), ρ' = [some (.scr n0), some (.obj st), x2, x3, some (dosT ns ts), x5, x6, x7, x8, x9, x10] ∧ St g' st cl, ⟨_, _, _, _, _, _, _, _, rfl, s2⟩, fun _ _ _ _ => trivial, ?_, ?_⟩
    · rintro i x ρ' g' hx ⟨x2, x3, x5, x6, x7, x8, x9, x10, rfl, s3⟩
      rw [List.getElem?_map] at hx
      cases hxi : ts[i]? with
      | none => rw [hxi] at hx; cases hx
      | some t =>
      rw [hxi] at hx
      cases hx
      have okt := dz.ok t (List.mem_of_getElem? hxi)
      repeat walk_at "d"
      refine w_bands okt fun g4 k4 => ?_
      repeat walk_at "d"
      refine w_bands okt fun g5 k5 => ?_
      repeat walk_at "d"
      refine w_same (Pl_bands okt) ?_
      repeat walk_at "d"
      refine w_ite (fun hc => Bool.noConfusion hc) fun _ => ?_
      repeat walk_at "d"
      refine w_bands okt fun g6 k6 => ?_
      repeat walk_at "d"
      refine w_bands okt fun g7 k7 => ?_
      repeat walk_at "d"
      refine w_same (Pl_bands okt) ?_
      repeat walk_at "d"
      refine w_ite (fun hc => Bool.noConfusion hc) fun _ => ?_
      repeat walk_at "d"
      exact ⟨_, _, _, _, _, _, _, _, rfl, s3.kp (k4.trans (k5.trans (k6.trans k7)))⟩
    · rintro ρ' g' ⟨x2, x3, x5, x6, x7, x8, x9, x10, rfl, s3⟩
      exact hK _ _ ⟨_, _, _, _, _, _, _, _, rfl, s3⟩
  clear s2
  obtain ⟨x2, x3, x5, x6, x7, x8, x9, x10, rfl, s2⟩ := h
  -- the told ones
  have toldY : ∀ (lo : Bool) (a : Str), a ∈ ns → toldD lo ns ts a = .tup [.str "told", oD (if lo then maxO (lowsL ts a) else minO (highsL ts a))] := fun lo a h => by unfold toldD; rw [if_pos h]
  have toldN : ∀ (lo : Bool) (a : Str), a ∉ ns → toldD lo ns ts a = .tup [.str "unknown", .str a] := fun lo a h => by unfold toldD; rw [if_neg h]
  refine w_seqK (fun ρ' g' => ∃ (x2 x3 x5 x6 x7 x8 x9 x10 : Option D), ρ' = [some (.scr n0), some (.obj st), x2, x3, some (dosT ns ts), x5, x6, x7, x8, x9, x10] ∧ St g' st cl) (fun ρ' g' h => ?_) (fun K hK => ?_)
  case refine_2 =>
    repeat walk_at "d"
    refine ⟨fun i ρ' g' => ∃ (x2 x3 x5 x6 x7 x8 x9 x10 : Option D), ρ' = [some (.scr n0), some (.obj st), x2, x3, some (dosT ns ts), x5, x6, x7, x8, x9, x10] ∧ St g' st cl, ⟨_, _, _, _, _, _, _, _, rfl, s2⟩, fun _ _ _ _ => trivial, ?_, ?_⟩
    · rintro i x ρ' g' hx ⟨x2, x3, x5, x6, x7, x8, x9, x10, rfl, s3⟩
      rw [List.getElem?_map] at hx
      cases hxi : ns[i]? with
      | none => rw [hxi] at hx; cases hx
      | some a =>
      rw [hxi] at hx
      cases hx
      have ha : a ∈ ns := List.mem_of_getElem? hxi
      have hal : a.length ≤ 1000 := by have := (dz.nm a ha).1; omega
      repeat walk_at "d"
      refine ⟨fun i ρ' g' => ∃ (x2 x3 x5 x6 x7 x9 x10 : Option D), ρ' = [some (.scr n0), some (.obj st), x2, x3, some (dosT ns ts), x5, x6, x7, some (.str a), x9, x10] ∧ St g' st cl, ⟨_, _, _, _, _, _, _, rfl, s3⟩, fun _ _ _ _ => trivial, ?_, ?_⟩
      · rintro j y ρ' g' hy ⟨x2, x3, x5, x6, x7, x9, x10, rfl, s4⟩
        obtain ⟨b, rfl⟩ : ∃ b, y = .bl b := by
          have := List.mem_of_getElem? hy
          simp at this
          rcases this with rfl | rfl
          · exact ⟨_, rfl⟩
          · exact ⟨_, rfl⟩
        refine w_gn ?_
        refine w_seq ?_
        repeat walk_at "d"
        refine w_told (ns := ns) (ts := ts) (a := a) (b := b) true dos hal fun g5 k5 => ?_
        repeat walk_at "d"
        refine w_llow (ns := ns) (ts := ts) (a := a) dos fun g6 k6 => ?_
        repeat walk_at "d"
        rw [toldY true a ha]
        refine w_same (by have := Pl_told true ns ts a; rw [toldY true a ha] at this; exact this) ?_
        repeat walk_at "d"
        refine w_ite (fun hc => Bool.noConfusion hc) fun _ => ?_
        repeat walk_at "d"
        refine w_told (ns := ns) (ts := ts) (a := a) (b := b) false dos hal fun g7 k7 => ?_
        repeat walk_at "d"
        refine w_lhigh (ns := ns) (ts := ts) (a := a) dos fun g8 k8 => ?_
        repeat walk_at "d"
        rw [toldY false a ha]
        refine w_same (by have := Pl_told false ns ts a; rw [toldY false a ha] at this; exact this) ?_
        repeat walk_at "d"
        refine w_ite (fun hc => Bool.noConfusion hc) fun _ => ?_
        repeat walk_at "d"
        exact ⟨_, _, _, _, _, _, _, rfl, s4.kp (k5.trans (k6.trans (k7.trans k8)))⟩
      · rintro ρ' g' ⟨x2, x3, x5, x6, x7, x9, x10, rfl, s4⟩
        exact ⟨_, _, _, _, _, _, _, _, rfl, s4⟩
    · rintro ρ' g' ⟨x2, x3, x5, x6, x7, x8, x9, x10, rfl, s3⟩
      exact hK _ _ ⟨_, _, _, _, _, _, _, _, rfl, s3⟩
  clear s2
  obtain ⟨x2, x3, x5, x6, x7, x8, x9, x10, rfl, s2⟩ := h
  -- the basic pairs
  repeat walk_at "d"
  refine w_basic (ns := ns) (ts := ts) dos fun due g3 hdue k3 => ?_
  repeat walk_at "d"
  refine w_seq ?_
  repeat walk_at "d"
  refine w_basic (ns := ns) (ts := ts) dos fun d1 g4 h1 k4 => ?_
  obtain rfl := h1.uniq hdue
  repeat walk_at "d"
  refine w_same (Pl_basic h1) ?_
  repeat walk_at "d"
  refine w_ite (fun hc => Bool.noConfusion hc) fun _ => ?_
  repeat walk_at "d"
  refine w_basic (ns := ns) (ts := ts) dos fun d2 g5 h2 k5 => ?_
  obtain rfl := h2.uniq h1
  repeat walk_at "d"
  refine w_same (Pl_basic h1) ?_
  repeat walk_at "d"
  refine w_ite (fun hc => Bool.noConfusion hc) fun _ => ?_
  have s5 := s2.kp (k3.trans (k4.trans k5))
  -- names that are not
  have last : ∀ (w : Str) (g6 : G), St g6 st cl → w.length ≤ 1000 → ∃ P : Nat → Rho → G → Prop, P 0 [some (.scr n0), some (.obj st), x2, x3, some (dosT ns ts), x5, x6, x7, x8, x9, some d2] g6 ∧ (∀ i ρ g, P i ρ g → True) ∧
      (∀ i x ρ g, ([.str "a.b.c.d", .str "zzzzzzzzzzzz", .str w] : List D)[i]? = some x → P i ρ g → dgName 8 x ρ g fun ρ2 g2 => (dIf (dB (dOp (inD true) (dVar 8) (dOp ixD (dVar 4) (dC (.int 0))))) (dSeq (dIf (dNot (dB (dCall 2 (r_same 5) (dCons (dCall 4 r_told (dCons (dC (.str ("low" : Str))) (dCons (dVar 4) (dCons (dVar 8) (dCons (dC (.bl false)) dNil))))) (dCons (dTup (dCons (dC (.str ("unknown" : Str))) (dCons (dVar 8) dNil))) dNil))))) (dRet (dC (.bl false))) dNext)
  (dIf (dNot (dB (dCall 2 (r_same 5) (dCons (dCall 4 r_told (dCons (dC (.str ("high" : Str))) (dCons (dVar 4) (dCons (dVar 8) (dCons (dC (.bl true)) dNil))))) (dCons (dTup (dCons (dC (.str ("unknown" : Str))) (dCons (dVar 8) dNil))) dNil))))) (dRet (dC (.bl false))) dNext)) dNext) { nx := P (i + 1), rt := Q, bk := T, ct := P (i + 1) } ρ2 g2) ∧
      ∀ ρ g, P ([.str "a.b.c.d", .str "zzzzzzzzzzzz", .str w] : List D).length ρ g → T ρ g := by
    intro w g6 s6 hw
    refine ⟨fun i ρ' g' => ∃ (x2 x3 x5 x6 x7 x8 x9 x10 : Option D), ρ' = [some (.scr n0), some (.obj st), x2, x3, some (dosT ns ts), x5, x6, x7, x8, x9, x10] ∧ St g' st cl, ⟨_, _, _, _, _, _, _, _, rfl, s6⟩, fun _ _ _ _ => trivial, ?_, ?_⟩
    · rintro i x ρ' g' hx ⟨x2, x3, x5, x6, x7, x8, x9, x10, rfl, s7⟩
      obtain ⟨u, rfl, hu⟩ : ∃ u : Str, x = .str u ∧ u.length ≤ 1000 := by
        have := List.mem_of_getElem? hx
        simp at this
        rcases this with rfl | rfl | rfl
        · exact ⟨_, rfl, by decide +kernel⟩
        · exact ⟨_, rfl, by decide +kernel⟩
        · exact ⟨_, rfl, hw⟩
      repeat walk_at "d"
      refine inD_strs (xs := ns) rfl ?_
      repeat walk_at "d"
      refine w_ite (fun hc => ?_) fun _ => ?_
      · have hn : u ∉ ns := by simpa using hc
        refine w_seq ?_
        repeat walk_at "d"
        refine w_told (ns := ns) (ts := ts) (a := u) (b := false) true dos hu fun g8 k8 => ?_
        repeat walk_at "d"
        rw [toldN true u hn]
        refine w_same (by have := Pl_told true ns ts u; rw [toldN true u hn] at this; exact this) ?_
        repeat walk_at "d"
        refine w_ite (fun hc => Bool.noConfusion hc) fun _ => ?_
        repeat walk_at "d"
        refine w_told (ns := ns) (ts := ts) (a := u) (b := true) false dos hu fun g9 k9 => ?_
        repeat walk_at "d"
        rw [toldN false u hn]
        refine w_same (by have := Pl_told false ns ts u; rw [toldN false u hn] at this; exact this) ?_
        repeat walk_at "d"
        refine w_ite (fun hc => Bool.noConfusion hc) fun _ => ?_
        repeat walk_at "d"
        exact ⟨_, _, _, _, _, _, _, _, rfl, s7.kp (k8.trans k9)⟩
      · repeat walk_at "d"
        exact ⟨_, _, _, _, _, _, _, _, rfl, s7⟩
    · rintro ρ' g' ⟨x2, x3, x5, x6, x7, x8, x9, x10, rfl, s7⟩
      exact hK0 _ _ _ _ _ _ _ _ _ _ s7
  repeat walk_at "d"
  refine eq_fin_nil dz.nm ?_
  repeat walk_at "d"
  refine w_ite (fun hc => ?_) fun _ => ?_
  · have hne : ns ≠ [] := by simpa using hc
    have hpos : 0 < ns.length := List.length_pos_iff.mpr hne
    repeat walk_at "d"
    obtain ⟨y, e1, e2, _⟩ := atI_get (xs := ns.map D.str) (i := 0) (by omega) (by rw [List.length_map]; omega)
    refine v_ixF e1 ?_
    obtain ⟨a, ha, rfl⟩ := List.mem_map.mp e2
    have hal := (dz.nm a ha).1
    have hz : ("z" : Str).length = 1 := by decide +kernel
    repeat walk_at "d"
    refine v_addS (by rw [sizeLine_eq, hz]; omega) ?_
    repeat walk_at "d"
    refine v_slS (by rw [sizeLine_eq, PySem.Str.length_append, hz]; omega) ?_
    have hcl := @cutS_len (a ++ ("z" : Str)) 12 (by decide)
    repeat walk_at "d"
    exact last _ g5 s5 (by have : (12 : Int).toNat = 12 := rfl; omega)
  · repeat walk_at "d"
    exact last _ g5 s5 (by decide +kernel)
end L2.DL

namespace L2.DL
open PySem PySem.Spec PyProof.Rows
local macro_rules | `(tactic| walk_at "g") => `(tactic| first | assumption | exact gup_same | exact gup_old (by assumption) (by assumption) | exact gup_old (by assumption) (gup_old (by assumption) (by assumption)) | exact gup_old (by assumption) gup_same | exact gup_old (by assumption) (gup_old (by assumption) gup_same) | ((repeat (rw [gup_ne (by first | assumption | (apply Ne.symm; assumption))])); first | exact gup_same | assumption) | rfl)
local macro_rules | `(tactic| walk_at "b") => `(tactic| simp only [Bool.false_xor, Bool.true_xor, decide_eq_true_eq, Bool.not_eq_true', decide_eq_false_iff_not, Bool.and_eq_true, Bool.or_eq_true])
local macro_rules | `(tactic| walk_at "d") => `(tactic| first
  | with_reducible refine' w_seq1 ?_ | with_reducible refine' w_seq2 ?_ | with_reducible refine' w_seq3 ?_ | with_reducible refine' w_seq4 ?_ | with_reducible refine' w_seq5 ?_ | with_reducible refine' w_op ?_ | ((with_reducible refine' w_var ?e ?_); case e => rfl) | with_reducible refine' w_c ?_ | with_reducible refine' w_cons ?_ | with_reducible refine' w_nil ?_
  | with_reducible refine' w_rfl ?_ | ((with_reducible refine' w_len ?e ?_); case e => rfl) | ((with_reducible refine' w_le ?e ?_); case e => (rw [sizeLine_eq]; simp only [List.length_cons, List.length_nil]; omega)) | with_reducible refine' w_set ?_ | with_reducible refine' w_ret ?_ | with_reducible refine' w_if ?_ | with_reducible refine' w_cb ?_ | with_reducible refine' w_call ?_ | with_reducible refine' w_B ?_ | with_reducible refine' w_bl ?_
  | with_reducible refine' w_and ?_ | with_reducible refine' w_or ?_ | with_reducible refine' w_not ?_ | with_reducible refine' w_ifE ?_ | with_reducible refine' w_yes ?_ | with_reducible refine' w_sl ?_ | with_reducible refine' w_nop ?_ | with_reducible refine' w_p ?_ | with_reducible refine' w_in ?_
  | with_reducible refine' w_store ?_ | with_reducible refine' w_augS ?_ | ((with_reducible refine' w_aug ?e ?_); case e => rfl) | with_reducible refine' w_m ?_ | with_reducible refine' w_andV ?_ | with_reducible refine' w_orV ?_ | with_reducible refine' w_notV ?_ | with_reducible refine' w_chain ?_
  | with_reducible refine' w_drop ?_ | with_reducible refine' w_retN ?_ | with_reducible refine' w_nx ?_ | with_reducible refine' w_un ?_ | with_reducible refine' w_tup ?_ | with_reducible refine' w_lst ?_ | with_reducible refine' w_callK ?_ | with_reducible refine' w_callX ?_ | with_reducible refine' w_isi2 ?_ | with_reducible refine' w_get1 ?_ | with_reducible refine' w_get2 ?_ | with_reducible refine' w_rng1 ?_
  | with_reducible refine' v_add ?_ | with_reducible refine' v_intB ?_ | with_reducible refine' v_neg ?_ | with_reducible refine' v_eqS ?_ | with_reducible refine' v_eqI ?_ | with_reducible refine' v_eqB ?_ | with_reducible refine' v_eqN ?_ | with_reducible refine' v_is ?_ | with_reducible refine' v_intI ?_ | with_reducible refine' v_intBl ?_ | with_reducible refine' v_abs ?_
  | with_reducible refine' v_max2 ?_ | with_reducible refine' v_min2 ?_ | with_reducible refine' v_lenT ?_ | with_reducible refine' v_lenF ?_ | with_reducible refine' v_lenC ?_ | with_reducible refine' v_slT ?_ | with_reducible refine' v_slC ?_ | with_reducible refine' v_ipA ?_ | with_reducible refine' v_ipS ?_ | with_reducible refine' v_mtS ?_
  | with_reducible refine' iteT ?_ | with_reducible refine' iteF ?_
  | ((with_reducible refine' v_mul ?c ?_); case c => (unfold CMul; first | (apply Or.inr; constructor <;> decide) | (apply Or.inl; constructor <;> decide) | (apply Or.inl; constructor <;> omega) | (apply Or.inr; constructor <;> omega)))
  | ((with_reducible refine' v_int ?c ?_); case c => first | exact trivial | (show CPos _ _; first | decide | (show (0:Int) < _; omega)) | (show CDiv _ _; constructor <;> omega) | (show CPow _ _; refine ⟨?_, ?_, ?_⟩ <;> decide))
  | ((with_reducible refine' v_ixT ?c ?_); case c => rfl)
  | ((with_reducible refine' v_ixL ?e ?c ?_); (case e => walk_at "g"); (case c => rfl))
  | ((with_reducible refine' v_lenL ?e ?_); (case e => walk_at "g")) | ((with_reducible refine' v_tupL ?e ?_); (case e => walk_at "g"))
  | ((with_reducible refine' v_gt ?e ?c ?_); (case e => walk_at "g"); (case c => rfl)) | ((with_reducible refine' v_st ?e ?c ?_); (case e => walk_at "g"); (case c => rfl))
  | with_reducible refine' w_for ?_ | with_reducible refine' w_seqI ?_ | with_reducible refine' w_gn ?_ | with_reducible refine' w_gt ?_ | with_reducible refine' w_gc ?_ | with_reducible refine' w_g0 ?_ | with_reducible refine' v_itT ?_ | with_reducible refine' v_itF ?_ | with_reducible refine' v_itC ?_
  | ((with_reducible refine' v_itL ?e ?_); (case e => walk_at "g"))
  | ((with_reducible refine' v_lstL ?e ?_); (case e => walk_at "g")) | ((with_reducible refine' v_addL ?e ?e2 ?l ?_); (case e => walk_at "g"); (case e2 => walk_at "g"); (case l => (rw [sizeLine_eq]; simp only [List.length_cons, List.length_nil]; omega))) | ((with_reducible refine' v_slL ?e ?_); (case e => walk_at "g")) | ((with_reducible refine' v_mtL ?e ?_); (case e => walk_at "g"))
  | dsimp only
  | with_reducible refine' w_par ?_ | ((with_reducible refine' v_addT ?l ?_); (case l => (rw [sizeLine_eq]; simp only [List.length_cons, List.length_nil]; omega))))
abbrev exBody2 (n cst : Str) (p0 p1 p2 p3 p4 p5 p6 p7 p8 p9 q0 q1 q2 : Pos) (kk : Nat) : List Stmt :=
  [.Expr (.Call (.Attribute (.Call (.Name "super" p0) [] [] p1) "__init__" p2) [.JoinedStr [.Constant (.str cst) kk p3, .FormattedValue (.Name n p4) (-1) none p5] p6] [] p7) p8,
    .Assign [.Attribute (.Name "self" p9) n q0] (.Name n q1) q2]
section
variable {P : Program} {w : World} {K : PySem.W.Frag} {mg : Str → Option Value} {base : Heap} {x qual n cst : Str} {C fI cc cda : Addr} {params : Arguments} {scope : Scope} {dV kV doc pm ct : Value} {an : Option Addr} {p0 p1 p2 p3 p4 p5 p6 p7 p8 p9 q0 q1 q2 : Pos} {kk : Nat}
theorem ok_exc2 (T : SupF P K mg C fI cc cda (PySem.W.ksFn "__init__" qual params (exBody2 n cst p0 p1 p2 p3 p4 p5 p6 p7 p8 p9 q0 q1 q2 kk) scope dV kV doc pm an (.ref cda) ct cc) "self") (hcd : PySem.W.codeIn K (.ref cda) qual = true)
    (S : FnScopeS ["self", n] ["self", n] scope) (hno : PySem.W.findIn K (.ref C) n = some none) (hl : cst.length ≤ 1000) (hd : (n == ("__debug__" : Str)) = false) (hcd2 : (n == ("__classdict__" : Str)) = false)
    (hc : ∀ env, ∃ pl, eval (.Call (.Attribute (.Call (.Name "super" p0) [] [] p1) "__init__" p2) [.JoinedStr [.Constant (.str cst) kk p3, .FormattedValue (.Name n p4) (-1) none p5] p6] [] p7) env = (do
      let ov ← attributeBase (.Call (.Name "super" p0) [] [] p1) "__init__" env (eval (.Call (.Name "super" p0) [] [] p1) env)
      standAt p2.atName
      let (f, first) ← holding [ov] (getMethod ov "__init__" pl)
      callWith p7 f first (backTo p7 (starEach [.JoinedStr [.Constant (.str cst) kk p3, .FormattedValue (.Name n p4) (-1) none p5] p6] env)) [])) :
    FnOk P w K mg base CX0 1 fI (PySem.W.ksFn "__init__" qual params (exBody2 n cst p0 p1 p2 p3 p4 p5 p6 p7 p8 p9 q0 q1 q2 kk) scope dV kV doc pm an (.ref cda) ct cc) ["self", n] (spIN C (mkSV n)) := by
  refine sup_ok (N := ["self", n]) (k := 0) T hcd S rfl rfl (fun vs H Q E h => ?_) (fun _ => rfl) (fun _ => rfl) hc (fun A outer s H vs Q E hr h => ?_)
  · obtain ⟨a, ws, fs, rfl, h1, _⟩ := h
    unfold mkSV at h1
    split at h1
    · rfl
    · cases h1
  · obtain ⟨a, ws, fs, rfl, h1, h2, h3⟩ := h
    unfold mkSV at h1
    split at h1
    · rename_i y
      split at h1
      · rename_i hy
        cases h1
        have v0 : ∀ {B : XK}, PE (cxI CX0 P w K mg base ["self", n] qual scope fI cda cc A outer s H E) (.Name "self" p9) (tVar 0) := pe_var rfl (.inl (S.par _ (List.mem_cons_self ..))) (by decide) (by decide)
        have v1 : ∀ p, PE (cxI CX0 P w K mg base ["self", n] qual scope fI cda cc A outer s H E) (.Name n p) (tVar 1) := fun p => pe_var rfl (.inl (S.par _ (List.mem_cons_of_mem _ (List.mem_cons_self ..)))) hd hcd2
        refine ⟨a, _, _, rfl, h2, pa_cons (pe_joined (.cons (pe_str (x := cst)) (.cons (pe_fmt (v1 _)) .nil))) pa_nil rfl, ?_, pss_one (ps_ost (v0 (B := E)) (v1 _) rfl), ?_⟩
        · refine ⟨cst, rfl, ?_, .str y, rfl, .inl ⟨y, rfl, ?_, y, rfl, ?_, rfl, by simp⟩⟩
          · rw [PySem.Str.length_append]; exact Nat.le_of_lt (small1000 (by show 0 + _ ≤ _; omega))
          · exact Nat.le_of_lt (small1000 hy)
          · rw [PySem.Str.length_append, PySem.Str.length_append, sizeLine_eq]
            have : (Str.empty).length = 0 := rfl
            omega
        · exact ⟨.str y, rfl, .ref a, rfl, a, C, rfl, T.cls, hno, .inl ⟨h2, fun dx hdx hne => h3 dx hdx hne⟩⟩
      · cases h1
    · cases h1
theorem exc2 (T : SupF P K mg C fI cc cda (PySem.W.ksFn "__init__" qual params (exBody2 n cst p0 p1 p2 p3 p4 p5 p6 p7 p8 p9 q0 q1 q2 kk) scope dV kV doc pm an (.ref cda) ct cc) "self") (hcd : PySem.W.codeIn K (.ref cda) qual = true)
    (S : FnScopeS ["self", n] ["self", n] scope) (hno : PySem.W.findIn K (.ref C) n = some none) (hl : cst.length ≤ 1000) (hd : (n == ("__debug__" : Str)) = false) (hcd2 : (n == ("__classdict__" : Str)) = false)
    (hc : ∀ env, ∃ pl, eval (.Call (.Attribute (.Call (.Name "super" p0) [] [] p1) "__init__" p2) [.JoinedStr [.Constant (.str cst) kk p3, .FormattedValue (.Name n p4) (-1) none p5] p6] [] p7) env = (do
      let ov ← attributeBase (.Call (.Name "super" p0) [] [] p1) "__init__" env (eval (.Call (.Name "super" p0) [] [] p1) env)
      standAt p2.atName
      let (f, first) ← holding [ov] (getMethod ov "__init__" pl)
      callWith p7 f first (backTo p7 (starEach [.JoinedStr [.Constant (.str cst) kk p3, .FormattedValue (.Name n p4) (-1) none p5] p6] env)) []))
    (hb : ∀ us : List Value, us.length = 2 → bindArgs (PySem.W.ksFn "__init__" qual params (exBody2 n cst p0 p1 p2 p3 p4 p5 p6 p7 p8 p9 q0 q1 q2 kk) scope dV kV doc pm an (.ref cda) ct cc) ⟨us, []⟩ = pure ((["self", n] : List Str).zip us))
    (iC : PySem.W.findIn K (.ref C) "__init__" = some (some (.ref fI))) (tI : PySem.W.typeIn K (.ref fI) = some (.type "function")) (xf : XfC K C) (hm : mg x = some (.ref C)) (exm : PySem.W.exmOne K (.ref C) (.ref C) = some true) : ExcOwn P w K mg base x C 1 (mkS n) :=
  ⟨T.cls, xf, hm, exm, fI, _, _, _, iC, tI, ok_exc2 T hcd S hno hl hd hcd2 hc, .all hb, mkS_rel⟩
end

section
variable {P : Program} {w : World} {K : PySem.W.Frag} {mg : Str → Option Value} {base : Heap} {C : Addr}
theorem own_same (T : Bt mg) (t : Tx K mg "_law_same" "_law_same" st__law_same ["told", "due"]) : ∀ n : Nat, Own P w K mg base "_law_same" ["told", "due"] (n + 1) (r_same n)
  | 0 => t.own (k := 0) (t__law_same fun _ _ _ => False) sc__law_same (fun f cdv A outer s H E B hr => walk__law_same T (t.none (k := 0)) (Nat.le_refl _) f cdv A outer s H E B hr) (fun ds g Q _ h => p_same 0 _ (fun _ _ _ h => h) ds g Q h)
  | n + 1 => t.own (k := n + 1) (t__law_same (r_same n)) sc__law_same (fun f cdv A outer s H E B hr => walk__law_same T (own_same T t n) (Nat.le_refl _) f cdv A outer s H E B hr) (fun ds g Q _ h => p_same (n + 1) _ (fun _ _ _ h => h) ds g Q h)
theorem own__law_mixed (T : Bt mg) (t : Tx K mg "_law_mixed" "_law_mixed" st__law_mixed ["number", "k"])  : Own P w K mg base "_law_mixed" ["number", "k"] 1 r_mixed :=
  t.own (k := 0) (t__law_mixed ) sc__law_mixed (fun f cdv A outer s H E B hr => walk__law_mixed T  f cdv A outer s H E B hr) (fun ds g Q _ h => p_mixed ds g Q h)
theorem own__law_start (T : Bt mg) (t : Tx K mg "_law_start" "_law_start" st__law_start ["script"]) (o_law_mixed : Own P w K mg base "_law_mixed" ["number", "k"] 1 r_mixed) : Own P w K mg base "_law_start" ["script"] 2 r_start :=
  t.own (k := 1) (t__law_start r_mixed) sc__law_start (fun f cdv A outer s H E B hr => walk__law_start T o_law_mixed (by decide) f cdv A outer s H E B hr) (fun ds g Q _ h => p_start ds g Q h)
theorem own__law_take (T : Bt mg) (t : Tx K mg "_law_take" "_law_take" st__law_take ["state", "limit"]) (o_law_mixed : Own P w K mg base "_law_mixed" ["number", "k"] 1 r_mixed) : Own P w K mg base "_law_take" ["state", "limit"] 2 r_take :=
  t.own (k := 1) (t__law_take r_mixed) sc__law_take (fun f cdv A outer s H E B hr => walk__law_take T o_law_mixed (by decide) f cdv A outer s H E B hr) (fun ds g Q _ h => p_take ds g Q h)
theorem own__law_pick (T : Bt mg) (t : Tx K mg "_law_pick" "_law_pick" st__law_pick ["state", "some"]) (o_law_take : Own P w K mg base "_law_take" ["state", "limit"] 2 r_take) : Own P w K mg base "_law_pick" ["state", "some"] 3 r_pick :=
  t.own (k := 2) (t__law_pick r_take) sc__law_pick (fun f cdv A outer s H E B hr => walk__law_pick T o_law_take (by decide) f cdv A outer s H E B hr) (fun ds g Q _ h => p_pick ds g Q h)
theorem own__law_shuffled (T : Bt mg) (t : Tx K mg "_law_shuffled" "_law_shuffled" st__law_shuffled ["state", "some"]) (o_law_take : Own P w K mg base "_law_take" ["state", "limit"] 2 r_take) : Own P w K mg base "_law_shuffled" ["state", "some"] 3 r_shuf :=
  t.own (k := 2) (t__law_shuffled r_take) sc__law_shuffled (fun f cdv A outer s H E B hr => walk__law_shuffled T o_law_take (by decide) f cdv A outer s H E B hr) (fun ds g Q _ h => p_shuf ds g Q h)
theorem own__law_names (T : Bt mg) (t : Tx K mg "_law_names" "_law_names" st__law_names ["state", "many"]) (o_law_take : Own P w K mg base "_law_take" ["state", "limit"] 2 r_take) : Own P w K mg base "_law_names" ["state", "many"] 3 r_names :=
  t.own (k := 2) (t__law_names r_take) sc__law_names (fun f cdv A outer s H E B hr => walk__law_names T o_law_take (by decide) f cdv A outer s H E B hr) (fun ds g Q _ h => p_names ds g Q h)
theorem own__law_lot (T : Bt mg) (t : Tx K mg "_law_lot" "_law_lot" st__law_lot ["state", "finds"]) (o_law_pick : Own P w K mg base "_law_pick" ["state", "some"] 3 r_pick) (o_law_take : Own P w K mg base "_law_take" ["state", "limit"] 2 r_take) : Own P w K mg base "_law_lot" ["state", "finds"] 4 r_lot :=
  t.own (k := 3) (t__law_lot r_pick r_take) sc__law_lot (fun f cdv A outer s H E B hr => walk__law_lot T o_law_pick (by decide) o_law_take (by decide) f cdv A outer s H E B hr) (fun ds g Q _ h => p_lot ds g Q h)
theorem own__law_series (T : Bt mg) (t : Tx K mg "_law_series" "_law_series" st__law_series ["state", "hidden", "many"]) (o_law_take : Own P w K mg base "_law_take" ["state", "limit"] 2 r_take) (o_law_shuffled : Own P w K mg base "_law_shuffled" ["state", "some"] 3 r_shuf) (o_law_pick : Own P w K mg base "_law_pick" ["state", "some"] 3 r_pick) : Own P w K mg base "_law_series" ["state", "hidden", "many"] 4 r_series :=
  t.own (k := 3) (t__law_series r_take r_shuf r_pick) sc__law_series (fun f cdv A outer s H E B hr => walk__law_series T o_law_take (by decide) o_law_shuffled (by decide) o_law_pick (by decide) f cdv A outer s H E B hr) (fun ds g Q _ h => p_series ds g Q h)
theorem own__law_years (T : Bt mg) (t : Tx K mg "_law_years" "_law_years" st__law_years ["state", "hidden"]) (o_law_pick : Own P w K mg base "_law_pick" ["state", "some"] 3 r_pick) (o_law_lot : Own P w K mg base "_law_lot" ["state", "finds"] 4 r_lot) (o_law_take : Own P w K mg base "_law_take" ["state", "limit"] 2 r_take) : Own P w K mg base "_law_years" ["state", "hidden"] 5 r_years :=
  t.own (k := 4) (t__law_years r_pick r_lot r_take) sc__law_years (fun f cdv A outer s H E B hr => walk__law_years T o_law_pick (by decide) o_law_lot (by decide) o_law_take (by decide) f cdv A outer s H E B hr) (fun ds g Q _ h => p_years ds g Q h)
theorem own__law_thing (T : Bt mg) (t : Tx K mg "_law_thing" "_law_thing" st__law_thing ["state", "hidden"]) (o_law_take : Own P w K mg base "_law_take" ["state", "limit"] 2 r_take) (o_law_lot : Own P w K mg base "_law_lot" ["state", "finds"] 4 r_lot) (o_law_years : Own P w K mg base "_law_years" ["state", "hidden"] 5 r_years) (o_law_series : Own P w K mg base "_law_series" ["state", "hidden", "many"] 4 r_series) : Own P w K mg base "_law_thing" ["state", "hidden"] 6 r_thing :=
  t.own (k := 5) (t__law_thing r_take r_lot r_years r_series) sc__law_thing (fun f cdv A outer s H E B hr => walk__law_thing T o_law_take (by decide) o_law_lot (by decide) o_law_years (by decide) o_law_series (by decide) f cdv A outer s H E B hr) (fun ds g Q _ h => p_thing ds g Q h)
theorem own__law_dossier (T : Bt mg) (t : Tx K mg "_law_dossier" "_law_dossier" st__law_dossier ["state", "many", "things"]) (o_law_names : Own P w K mg base "_law_names" ["state", "many"] 3 r_names) (o_law_shuffled : Own P w K mg base "_law_shuffled" ["state", "some"] 3 r_shuf) (o_law_take : Own P w K mg base "_law_take" ["state", "limit"] 2 r_take) (o_law_thing : Own P w K mg base "_law_thing" ["state", "hidden"] 6 r_thing) : Own P w K mg base "_law_dossier" ["state", "many", "things"] 7 r_dos :=
  t.own (k := 6) (t__law_dossier r_names r_shuf r_take r_thing) sc__law_dossier (fun f cdv A outer s H E B hr => walk__law_dossier T o_law_names (by decide) o_law_shuffled (by decide) o_law_take (by decide) o_law_thing (by decide) f cdv A outer s H E B hr) (fun ds g Q _ h => p_dos ds g Q h)
theorem own__law_free_series (T : Bt mg) (t : Tx K mg "_law_free_series" "_law_free_series" st__law_free_series ["state", "finds"]) (o_law_pick : Own P w K mg base "_law_pick" ["state", "some"] 3 r_pick) (o_law_shuffled : Own P w K mg base "_law_shuffled" ["state", "some"] 3 r_shuf) (o_law_take : Own P w K mg base "_law_take" ["state", "limit"] 2 r_take) : Own P w K mg base "_law_free_series" ["state", "finds"] 4 r_free :=
  t.own (k := 3) (t__law_free_series r_pick r_shuf r_take) sc__law_free_series (fun f cdv A outer s H E B hr => walk__law_free_series T o_law_pick (by decide) o_law_shuffled (by decide) o_law_take (by decide) f cdv A outer s H E B hr) (fun ds g Q _ h => p_free ds g Q h)
theorem own_bands_of (T : Bt mg) (t : Tx K mg "bands_of" "bands_of" st_bands_of ["thing"])  : Own P w K mg base "bands_of" ["thing"] 1 r_bands :=
  t.own (k := 0) (t_bands_of ) sc_bands_of (fun f cdv A outer s H E B hr => walk_bands_of T  f cdv A outer s H E B hr) (fun ds g Q _ h => p_bands ds g Q h)
theorem own__law_bands (T : Bt mg) (t : Tx K mg "_law_bands" "_law_bands" st__law_bands ["thing"])  : Own P w K mg base "_law_bands" ["thing"] 1 r_bands :=
  t.own (k := 0) (t__law_bands ) sc__law_bands (fun f cdv A outer s H E B hr => walk__law_bands T  f cdv A outer s H E B hr) (fun ds g Q _ h => p_lbands ds g Q h)
theorem own_lows_of (T : Bt mg) (t : Tx K mg "lows_of" "lows_of" st_lows_of ["dossier"])  : Own P w K mg base "lows_of" ["dossier"] 1 r_lows :=
  t.own (k := 0) (t_lows_of ) sc_lows_of (fun f cdv A outer s H E B hr => walk_lows_of T  f cdv A outer s H E B hr) (fun ds g Q _ h => p_lows ds g Q h)
theorem own_highs_of (T : Bt mg) (t : Tx K mg "highs_of" "highs_of" st_highs_of ["dossier"])  : Own P w K mg base "highs_of" ["dossier"] 1 r_highs :=
  t.own (k := 0) (t_highs_of ) sc_highs_of (fun f cdv A outer s H E B hr => walk_highs_of T  f cdv A outer s H E B hr) (fun ds g Q _ h => p_highs ds g Q h)
theorem own_low_of (T : Bt mg) (t : Tx K mg "low_of" "low_of" st_low_of ["dossier", "a"]) (olows_of : Own P w K mg base "lows_of" ["dossier"] 1 r_lows) (x : ExcOwn P w K mg base "UnknownName" C 1 (mkS "name")) (nx : ∀ n ∈ fields_UnknownName, PySem.W.findIn K (.ref C) n = some none) : OwnX P w K mg base "low_of" ["dossier", "a"] 3 (r_low_of C) :=
  t.ownX (k := 2) (t_low_of r_lows C (mkS "name")) sc_low_of (fun f cdv A outer s H E B W hr tk => walk_low_of T x (by decide) nx olows_of (by decide) f cdv A outer s H E B W hr tk) (fun ds g Q E0 _ h => p_low_of C ds g Q E0 h)
theorem own_high_of (T : Bt mg) (t : Tx K mg "high_of" "high_of" st_high_of ["dossier", "a"]) (ohighs_of : Own P w K mg base "highs_of" ["dossier"] 1 r_highs) (x : ExcOwn P w K mg base "UnknownName" C 1 (mkS "name")) (nx : ∀ n ∈ fields_UnknownName, PySem.W.findIn K (.ref C) n = some none) : OwnX P w K mg base "high_of" ["dossier", "a"] 3 (r_high_of C) :=
  t.ownX (k := 2) (t_high_of r_highs C (mkS "name")) sc_high_of (fun f cdv A outer s H E B W hr tk => walk_high_of T x (by decide) nx ohighs_of (by decide) f cdv A outer s H E B W hr tk) (fun ds g Q E0 _ h => p_high_of C ds g Q E0 h)
theorem own__law_told (T : Bt mg) (t : Tx K mg "_law_told" "_law_told" st__law_told ["way", "dossier", "a", "by_name"]) (olow_of : OwnX P w K mg base "low_of" ["dossier", "a"] 3 (r_low_of C)) (ohigh_of : OwnX P w K mg base "high_of" ["dossier", "a"] 3 (r_high_of C)) (x : ExcOwn P w K mg base "UnknownName" C 1 (mkS "name")) (nx : ∀ n ∈ fields_UnknownName, PySem.W.findIn K (.ref C) n = some none) : Own P w K mg base "_law_told" ["way", "dossier", "a", "by_name"] 4 r_told :=
  t.own (k := 3) (t__law_told (r_low_of C) (r_high_of C) C (mkS "name")) sc__law_told (fun f cdv A outer s H E B hr => walk__law_told T x (by decide) nx olow_of (by decide) ohigh_of (by decide) f cdv A outer s H E B hr) (fun ds g Q _ h => p_told C ds g Q h)
theorem own_year_pairs (T : Bt mg) (t : Tx K mg "year_pairs" "year_pairs" st_year_pairs ["dossier"]) (ohighs_of : Own P w K mg base "highs_of" ["dossier"] 1 r_highs) (olows_of : Own P w K mg base "lows_of" ["dossier"] 1 r_lows) : Own P w K mg base "year_pairs" ["dossier"] 2 r_yps :=
  t.own (k := 1) (t_year_pairs r_highs r_lows) sc_year_pairs (fun f cdv A outer s H E B hr => walk_year_pairs T ohighs_of (by decide) olows_of (by decide) f cdv A outer s H E B hr) (fun ds g Q _ h => p_yps ds g Q h)
theorem own_basic_pairs (T : Bt mg) (t : Tx K mg "basic_pairs" "basic_pairs" st_basic_pairs ["dossier"]) (oyear_pairs : Own P w K mg base "year_pairs" ["dossier"] 2 r_yps) : Own P w K mg base "basic_pairs" ["dossier"] 3 r_basic :=
  t.own (k := 2) (t_basic_pairs r_yps) sc_basic_pairs (fun f cdv A outer s H E B hr => walk_basic_pairs T oyear_pairs (by decide) f cdv A outer s H E B hr) (fun ds g Q _ h => p_basic ds g Q h)
theorem own__law_low (T : Bt mg) (t : Tx K mg "_law_low" "_law_low" st__law_low ["dossier", "a"])  : Own P w K mg base "_law_low" ["dossier", "a"] 1 r_llow :=
  t.own (k := 0) (t__law_low ) sc__law_low (fun f cdv A outer s H E B hr => walk__law_low T  f cdv A outer s H E B hr) (fun ds g Q _ h => p_llow ds g Q h)
theorem own__law_high (T : Bt mg) (t : Tx K mg "_law_high" "_law_high" st__law_high ["dossier", "a"])  : Own P w K mg base "_law_high" ["dossier", "a"] 1 r_lhigh :=
  t.own (k := 0) (t__law_high ) sc__law_high (fun f cdv A outer s H E B hr => walk__law_high T  f cdv A outer s H E B hr) (fun ds g Q _ h => p_lhigh ds g Q h)
theorem own__law_basic (T : Bt mg) (t : Tx K mg "_law_basic" "_law_basic" st__law_basic ["dossier"]) (o_law_low : Own P w K mg base "_law_low" ["dossier", "a"] 1 r_llow) (o_law_high : Own P w K mg base "_law_high" ["dossier", "a"] 1 r_lhigh) : Own P w K mg base "_law_basic" ["dossier"] 2 r_basic :=
  t.own (k := 1) (t__law_basic r_llow r_lhigh) sc__law_basic (fun f cdv A outer s H E B hr => walk__law_basic T o_law_low (by decide) o_law_high (by decide) f cdv A outer s H E B hr) (fun ds g Q _ h => p_lbasic ds g Q h)
/-- law's promise to the world -/
def spLaw (K : PySem.W.Frag) : Sp := fun vs H Q _ => ∃ (a : Addr) (ns : List Int), vs = [.ref a] ∧ ScrAt K H a (ns.map V.int) ∧ ∀ H', Q (.bl true) H'
theorem ok_law {f : Addr} {fd : FuncData} (F : Fun K "law" "law" st_law f fd) (T : Bt mg) (t_law_mixed : Tx K mg "_law_mixed" "_law_mixed" st__law_mixed ["number", "k"]) (t_law_start : Tx K mg "_law_start" "_law_start" st__law_start ["script"]) (t_law_take : Tx K mg "_law_take" "_law_take" st__law_take ["state", "limit"]) (t_law_pick : Tx K mg "_law_pick" "_law_pick" st__law_pick ["state", "some"]) (t_law_shuffled : Tx K mg "_law_shuffled" "_law_shuffled" st__law_shuffled ["state", "some"]) (t_law_names : Tx K mg "_law_names" "_law_names" st__law_names ["state", "many"]) (t_law_lot : Tx K mg "_law_lot" "_law_lot" st__law_lot ["state", "finds"]) (t_law_series : Tx K mg "_law_series" "_law_series" st__law_series ["state", "hidden", "many"]) (t_law_years : Tx K mg "_law_years" "_law_years" st__law_years ["state", "hidden"]) (t_law_thing : Tx K mg "_law_thing" "_law_thing" st__law_thing ["state", "hidden"]) (t_law_dossier : Tx K mg "_law_dossier" "_law_dossier" st__law_dossier ["state", "many", "things"]) (t_law_free_series : Tx K mg "_law_free_series" "_law_free_series" st__law_free_series ["state", "finds"]) (tbands_of : Tx K mg "bands_of" "bands_of" st_bands_of ["thing"]) (t_law_bands : Tx K mg "_law_bands" "_law_bands" st__law_bands ["thing"]) (tlows_of : Tx K mg "lows_of" "lows_of" st_lows_of ["dossier"]) (thighs_of : Tx K mg "highs_of" "highs_of" st_highs_of ["dossier"]) (tlow_of : Tx K mg "low_of" "low_of" st_low_of ["dossier", "a"]) (thigh_of : Tx K mg "high_of" "high_of" st_high_of ["dossier", "a"]) (t_law_told : Tx K mg "_law_told" "_law_told" st__law_told ["way", "dossier", "a", "by_name"]) (tyear_pairs : Tx K mg "year_pairs" "year_pairs" st_year_pairs ["dossier"]) (tbasic_pairs : Tx K mg "basic_pairs" "basic_pairs" st_basic_pairs ["dossier"]) (t_law_low : Tx K mg "_law_low" "_law_low" st__law_low ["dossier", "a"]) (t_law_high : Tx K mg "_law_high" "_law_high" st__law_high ["dossier", "a"]) (t_law_basic : Tx K mg "_law_basic" "_law_basic" st__law_basic ["dossier"]) (t_law_same : Tx K mg "_law_same" "_law_same" st__law_same ["told", "due"]) (x : ExcOwn P w K mg base "UnknownName" C 1 (mkS "name")) (nx : ∀ n ∈ fields_UnknownName, PySem.W.findIn K (.ref C) n = some none) : FnOk P w K mg base CX0 8 f fd ["script"] (spLaw K) := by
  have o_law_mixed := own__law_mixed (P := P) (w := w) (base := base) T t_law_mixed 
  have o_law_start := own__law_start (P := P) (w := w) (base := base) T t_law_start o_law_mixed
  have o_law_take := own__law_take (P := P) (w := w) (base := base) T t_law_take o_law_mixed
  have o_law_pick := own__law_pick (P := P) (w := w) (base := base) T t_law_pick o_law_take
  have o_law_shuffled := own__law_shuffled (P := P) (w := w) (base := base) T t_law_shuffled o_law_take
  have o_law_names := own__law_names (P := P) (w := w) (base := base) T t_law_names o_law_take
  have o_law_lot := own__law_lot (P := P) (w := w) (base := base) T t_law_lot o_law_pick o_law_take
  have o_law_series := own__law_series (P := P) (w := w) (base := base) T t_law_series o_law_take o_law_shuffled o_law_pick
  have o_law_years := own__law_years (P := P) (w := w) (base := base) T t_law_years o_law_pick o_law_lot o_law_take
  have o_law_thing := own__law_thing (P := P) (w := w) (base := base) T t_law_thing o_law_take o_law_lot o_law_years o_law_series
  have o_law_dossier := own__law_dossier (P := P) (w := w) (base := base) T t_law_dossier o_law_names o_law_shuffled o_law_take o_law_thing
  have o_law_free_series := own__law_free_series (P := P) (w := w) (base := base) T t_law_free_series o_law_pick o_law_shuffled o_law_take
  have obands_of := own_bands_of (P := P) (w := w) (base := base) T tbands_of 
  have o_law_bands := own__law_bands (P := P) (w := w) (base := base) T t_law_bands 
  have olows_of := own_lows_of (P := P) (w := w) (base := base) T tlows_of 
  have ohighs_of := own_highs_of (P := P) (w := w) (base := base) T thighs_of 
  have olow_of := own_low_of (P := P) (w := w) (base := base) (C := C) T tlow_of olows_of x nx
  have ohigh_of := own_high_of (P := P) (w := w) (base := base) (C := C) T thigh_of ohighs_of x nx
  have o_law_told := own__law_told (P := P) (w := w) (base := base) (C := C) T t_law_told olow_of ohigh_of x nx
  have oyear_pairs := own_year_pairs (P := P) (w := w) (base := base) T tyear_pairs ohighs_of olows_of
  have obasic_pairs := own_basic_pairs (P := P) (w := w) (base := base) T tbasic_pairs oyear_pairs
  have o_law_low := own__law_low (P := P) (w := w) (base := base) T t_law_low 
  have o_law_high := own__law_high (P := P) (w := w) (base := base) T t_law_high 
  have o_law_basic := own__law_basic (P := P) (w := w) (base := base) T t_law_basic o_law_low o_law_high
  have o_law_same := own_same (P := P) (w := w) (base := base) T t_law_same 5
  have main : FnOk P w K mg base CX0 8 f fd ["script"] (spD K 1 r_law) := okD (k := 7) (t_law r_start r_take r_dos r_years r_shuf r_pick r_lot r_free (r_same 5) r_bands r_bands r_llow r_told r_lhigh r_basic r_basic) F sc_law rfl (fun cdv A outer s H E B hr => walk_law T o_law_start (by decide) o_law_take (by decide) o_law_dossier (by decide) o_law_years (by decide) o_law_shuffled (by decide) o_law_pick (by decide) o_law_lot (by decide) o_law_free_series (by decide) o_law_same (by decide) o_law_bands (by decide) obands_of (by decide) o_law_low (by decide) o_law_told (by decide) o_law_high (by decide) o_law_basic (by decide) obasic_pairs (by decide) f cdv A outer s H E B hr) (fun ds g Q _ h => p_law ds g Q h)
  refine main.imp fun vs H Q E h => ?_
  obtain ⟨a, ns, rfl, hs, hQ⟩ := h
  refine ⟨[.scr ns], fun _ => none, fun d _ => d = .bl true, rfl, Rels.cons ?_ Rels.nil, (fun a o e => by cases e), ⟨ns, rfl, fun _ => rfl⟩, fun d g' v H' e _ _ r => ?_⟩
  · unfold Rel; exact ⟨a, rfl, hs⟩
  · subst e
    cases rel_bl r
    exact hQ H'
end
theorem scI : FnScopeS ["self", "name"] ["self", "name"] (defScope si_UnknownName) := ⟨rfl, rfl, rfl, by decide +kernel, rfl, by decide +kernel, by decide +kernel, rfl, rfl, by decide +kernel⟩
theorem bodyI : defBody si_UnknownName = exBody2 "name" "unknown name " ⟨7, 8, 7, 13⟩ ⟨7, 8, 7, 15⟩ ⟨7, 8, 7, 24⟩ ⟨7, 27, 7, 40⟩ ⟨7, 41, 7, 45⟩ ⟨7, 40, 7, 46⟩ ⟨7, 25, 7, 47⟩ ⟨7, 8, 7, 48⟩ ⟨7, 8, 7, 48⟩ ⟨8, 8, 8, 12⟩ ⟨8, 8, 8, 17⟩ ⟨8, 20, 8, 24⟩ ⟨8, 8, 8, 24⟩ 0 := rfl
theorem hcI : ∀ env, ∃ pl, eval (.Call (.Attribute (.Call (.Name "super" ⟨7, 8, 7, 13⟩) [] [] ⟨7, 8, 7, 15⟩) "__init__" ⟨7, 8, 7, 24⟩) [.JoinedStr [.Constant (.str "unknown name ") 0 ⟨7, 27, 7, 40⟩, .FormattedValue (.Name "name" ⟨7, 41, 7, 45⟩) (-1) none ⟨7, 40, 7, 46⟩] ⟨7, 25, 7, 47⟩] [] ⟨7, 8, 7, 48⟩) env = (do
      let ov ← attributeBase (.Call (.Name "super" ⟨7, 8, 7, 13⟩) [] [] ⟨7, 8, 7, 15⟩) "__init__" env (eval (.Call (.Name "super" ⟨7, 8, 7, 13⟩) [] [] ⟨7, 8, 7, 15⟩) env)
      standAt (⟨7, 8, 7, 24⟩ : Pos).atName
      let (f, first) ← holding [ov] (getMethod ov "__init__" pl)
      callWith ⟨7, 8, 7, 48⟩ f first (backTo ⟨7, 8, 7, 48⟩ (starEach [.JoinedStr [.Constant (.str "unknown name ") 0 ⟨7, 27, 7, 40⟩, .FormattedValue (.Name "name" ⟨7, 41, 7, 45⟩) (-1) none ⟨7, 40, 7, 46⟩] ⟨7, 25, 7, 47⟩] env)) []) := fun _ => ⟨_, rfl⟩
set_option maxHeartbeats 0 in
theorem all_mk {l : PySem.W.OpenLaw} {w : World} {K : PySem.W.Frag} {h : Heap} {mg : Str → Option Value} {fa : Addr} (X : K.In h) (G : h.Ns mainGlobals mg) (hfa : mg "law" = some (.ref fa))
    {f0 : Addr} {od0 an0 : Option Addr} {sl0 : Array (Option Value)} {oc0 kV0 dc0 pm0 cd0 ct0 : Value}
    {f1 : Addr} {od1 an1 : Option Addr} {sl1 : Array (Option Value)} {oc1 kV1 dc1 pm1 cd1 ct1 : Value}
    {f2 : Addr} {od2 an2 : Option Addr} {sl2 : Array (Option Value)} {oc2 kV2 dc2 pm2 cd2 ct2 : Value}
    {f3 : Addr} {od3 an3 : Option Addr} {sl3 : Array (Option Value)} {oc3 kV3 dc3 pm3 cd3 ct3 : Value}
    {f4 : Addr} {od4 an4 : Option Addr} {sl4 : Array (Option Value)} {oc4 kV4 dc4 pm4 cd4 ct4 : Value}
    {f5 : Addr} {od5 an5 : Option Addr} {sl5 : Array (Option Value)} {oc5 kV5 dc5 pm5 cd5 ct5 : Value}
    {f6 : Addr} {od6 an6 : Option Addr} {sl6 : Array (Option Value)} {oc6 kV6 dc6 pm6 cd6 ct6 : Value}
    {f7 : Addr} {od7 an7 : Option Addr} {sl7 : Array (Option Value)} {oc7 kV7 dc7 pm7 cd7 ct7 : Value}
    {f8 : Addr} {od8 an8 : Option Addr} {sl8 : Array (Option Value)} {oc8 kV8 dc8 pm8 cd8 ct8 : Value}
    {f9 : Addr} {od9 an9 : Option Addr} {sl9 : Array (Option Value)} {oc9 kV9 dc9 pm9 cd9 ct9 : Value}
    {f10 : Addr} {od10 an10 : Option Addr} {sl10 : Array (Option Value)} {oc10 kV10 dc10 pm10 cd10 ct10 : Value}
    {f11 : Addr} {od11 an11 : Option Addr} {sl11 : Array (Option Value)} {oc11 kV11 dc11 pm11 cd11 ct11 : Value}
    {f12 : Addr} {od12 an12 : Option Addr} {sl12 : Array (Option Value)} {oc12 kV12 dc12 pm12 cd12 ct12 : Value}
    {f13 : Addr} {od13 an13 : Option Addr} {sl13 : Array (Option Value)} {oc13 kV13 dc13 pm13 cd13 ct13 : Value}
    {f14 : Addr} {od14 an14 : Option Addr} {sl14 : Array (Option Value)} {oc14 kV14 dc14 pm14 cd14 ct14 : Value}
    {f15 : Addr} {od15 an15 : Option Addr} {sl15 : Array (Option Value)} {oc15 kV15 dc15 pm15 cd15 ct15 : Value}
    {f16 : Addr} {od16 an16 : Option Addr} {sl16 : Array (Option Value)} {oc16 kV16 dc16 pm16 cd16 ct16 : Value}
    {f17 : Addr} {od17 an17 : Option Addr} {sl17 : Array (Option Value)} {oc17 kV17 dc17 pm17 cd17 ct17 : Value}
    {f18 : Addr} {od18 an18 : Option Addr} {sl18 : Array (Option Value)} {oc18 kV18 dc18 pm18 cd18 ct18 : Value}
    {f19 : Addr} {od19 an19 : Option Addr} {sl19 : Array (Option Value)} {oc19 kV19 dc19 pm19 cd19 ct19 : Value}
    {f20 : Addr} {od20 an20 : Option Addr} {sl20 : Array (Option Value)} {oc20 kV20 dc20 pm20 cd20 ct20 : Value}
    {f21 : Addr} {od21 an21 : Option Addr} {sl21 : Array (Option Value)} {oc21 kV21 dc21 pm21 cd21 ct21 : Value}
    {f22 : Addr} {od22 an22 : Option Addr} {sl22 : Array (Option Value)} {oc22 kV22 dc22 pm22 cd22 ct22 : Value}
    {f23 : Addr} {od23 an23 : Option Addr} {sl23 : Array (Option Value)} {oc23 kV23 dc23 pm23 cd23 ct23 : Value}
    {f24 : Addr} {od24 an24 : Option Addr} {sl24 : Array (Option Value)} {oc24 kV24 dc24 pm24 cd24 ct24 : Value}
    {f25 : Addr} {od25 an25 : Option Addr} {sl25 : Array (Option Value)} {oc25 kV25 dc25 pm25 cd25 ct25 : Value}
    {C fI cc cda : Addr} {nmC qC : Str} {NC : Addr} {bsC bmC : List Value} {snC : List Str} {subC : List Value} {abC : Bool} {colC : Option Bool} {ddC : Option Addr} {k0C k1C k2C k3C k5C : Option Value} {ocI kVI dcI pmI ctI : Value} {odI anI : Option Addr} {slI : Array (Option Value)} {clc : Value} {cldc : Option Addr} {cslc : Array (Option Value)} {cclc : Value} {cddc : Option Addr} {ccsc : Array (Option Value)} {vsc : Array Value} {file : Str} {tf : Tok}
    (a0 : PySem.W.nsIn K mainGlobals "_law_mixed" = some (some (.ref f0))) (l0 : K.lookup f0 = some ⟨oc0, od0, .func (PySem.W.fnOf "_law_mixed" "_law_mixed" (defArgs st__law_mixed) (defBody st__law_mixed) (defScope st__law_mixed) .none kV0 dc0 pm0 an0 cd0 ct0), sl0⟩) (c0 : PySem.W.codeIn K cd0 "_law_mixed" = true) (k0 : PySem.W.keepIn K (.ref f0) = true)
    (a1 : PySem.W.nsIn K mainGlobals "_law_start" = some (some (.ref f1))) (l1 : K.lookup f1 = some ⟨oc1, od1, .func (PySem.W.fnOf "_law_start" "_law_start" (defArgs st__law_start) (defBody st__law_start) (defScope st__law_start) .none kV1 dc1 pm1 an1 cd1 ct1), sl1⟩) (c1 : PySem.W.codeIn K cd1 "_law_start" = true) (k1 : PySem.W.keepIn K (.ref f1) = true)
    (a2 : PySem.W.nsIn K mainGlobals "_law_take" = some (some (.ref f2))) (l2 : K.lookup f2 = some ⟨oc2, od2, .func (PySem.W.fnOf "_law_take" "_law_take" (defArgs st__law_take) (defBody st__law_take) (defScope st__law_take) .none kV2 dc2 pm2 an2 cd2 ct2), sl2⟩) (c2 : PySem.W.codeIn K cd2 "_law_take" = true) (k2 : PySem.W.keepIn K (.ref f2) = true)
    (a3 : PySem.W.nsIn K mainGlobals "_law_pick" = some (some (.ref f3))) (l3 : K.lookup f3 = some ⟨oc3, od3, .func (PySem.W.fnOf "_law_pick" "_law_pick" (defArgs st__law_pick) (defBody st__law_pick) (defScope st__law_pick) .none kV3 dc3 pm3 an3 cd3 ct3), sl3⟩) (c3 : PySem.W.codeIn K cd3 "_law_pick" = true) (k3 : PySem.W.keepIn K (.ref f3) = true)
    (a4 : PySem.W.nsIn K mainGlobals "_law_shuffled" = some (some (.ref f4))) (l4 : K.lookup f4 = some ⟨oc4, od4, .func (PySem.W.fnOf "_law_shuffled" "_law_shuffled" (defArgs st__law_shuffled) (defBody st__law_shuffled) (defScope st__law_shuffled) .none kV4 dc4 pm4 an4 cd4 ct4), sl4⟩) (c4 : PySem.W.codeIn K cd4 "_law_shuffled" = true) (k4 : PySem.W.keepIn K (.ref f4) = true)
    (a5 : PySem.W.nsIn K mainGlobals "_law_names" = some (some (.ref f5))) (l5 : K.lookup f5 = some ⟨oc5, od5, .func (PySem.W.fnOf "_law_names" "_law_names" (defArgs st__law_names) (defBody st__law_names) (defScope st__law_names) .none kV5 dc5 pm5 an5 cd5 ct5), sl5⟩) (c5 : PySem.W.codeIn K cd5 "_law_names" = true) (k5 : PySem.W.keepIn K (.ref f5) = true)
    (a6 : PySem.W.nsIn K mainGlobals "_law_lot" = some (some (.ref f6))) (l6 : K.lookup f6 = some ⟨oc6, od6, .func (PySem.W.fnOf "_law_lot" "_law_lot" (defArgs st__law_lot) (defBody st__law_lot) (defScope st__law_lot) .none kV6 dc6 pm6 an6 cd6 ct6), sl6⟩) (c6 : PySem.W.codeIn K cd6 "_law_lot" = true) (k6 : PySem.W.keepIn K (.ref f6) = true)
    (a7 : PySem.W.nsIn K mainGlobals "_law_series" = some (some (.ref f7))) (l7 : K.lookup f7 = some ⟨oc7, od7, .func (PySem.W.fnOf "_law_series" "_law_series" (defArgs st__law_series) (defBody st__law_series) (defScope st__law_series) .none kV7 dc7 pm7 an7 cd7 ct7), sl7⟩) (c7 : PySem.W.codeIn K cd7 "_law_series" = true) (k7 : PySem.W.keepIn K (.ref f7) = true)
    (a8 : PySem.W.nsIn K mainGlobals "_law_years" = some (some (.ref f8))) (l8 : K.lookup f8 = some ⟨oc8, od8, .func (PySem.W.fnOf "_law_years" "_law_years" (defArgs st__law_years) (defBody st__law_years) (defScope st__law_years) .none kV8 dc8 pm8 an8 cd8 ct8), sl8⟩) (c8 : PySem.W.codeIn K cd8 "_law_years" = true) (k8 : PySem.W.keepIn K (.ref f8) = true)
    (a9 : PySem.W.nsIn K mainGlobals "_law_thing" = some (some (.ref f9))) (l9 : K.lookup f9 = some ⟨oc9, od9, .func (PySem.W.fnOf "_law_thing" "_law_thing" (defArgs st__law_thing) (defBody st__law_thing) (defScope st__law_thing) .none kV9 dc9 pm9 an9 cd9 ct9), sl9⟩) (c9 : PySem.W.codeIn K cd9 "_law_thing" = true) (k9 : PySem.W.keepIn K (.ref f9) = true)
    (a10 : PySem.W.nsIn K mainGlobals "_law_dossier" = some (some (.ref f10))) (l10 : K.lookup f10 = some ⟨oc10, od10, .func (PySem.W.fnOf "_law_dossier" "_law_dossier" (defArgs st__law_dossier) (defBody st__law_dossier) (defScope st__law_dossier) .none kV10 dc10 pm10 an10 cd10 ct10), sl10⟩) (c10 : PySem.W.codeIn K cd10 "_law_dossier" = true) (k10 : PySem.W.keepIn K (.ref f10) = true)
    (a11 : PySem.W.nsIn K mainGlobals "_law_free_series" = some (some (.ref f11))) (l11 : K.lookup f11 = some ⟨oc11, od11, .func (PySem.W.fnOf "_law_free_series" "_law_free_series" (defArgs st__law_free_series) (defBody st__law_free_series) (defScope st__law_free_series) .none kV11 dc11 pm11 an11 cd11 ct11), sl11⟩) (c11 : PySem.W.codeIn K cd11 "_law_free_series" = true) (k11 : PySem.W.keepIn K (.ref f11) = true)
    (a12 : PySem.W.nsIn K mainGlobals "bands_of" = some (some (.ref f12))) (l12 : K.lookup f12 = some ⟨oc12, od12, .func (PySem.W.fnOf "bands_of" "bands_of" (defArgs st_bands_of) (defBody st_bands_of) (defScope st_bands_of) .none kV12 dc12 pm12 an12 cd12 ct12), sl12⟩) (c12 : PySem.W.codeIn K cd12 "bands_of" = true) (k12 : PySem.W.keepIn K (.ref f12) = true)
    (a13 : PySem.W.nsIn K mainGlobals "_law_bands" = some (some (.ref f13))) (l13 : K.lookup f13 = some ⟨oc13, od13, .func (PySem.W.fnOf "_law_bands" "_law_bands" (defArgs st__law_bands) (defBody st__law_bands) (defScope st__law_bands) .none kV13 dc13 pm13 an13 cd13 ct13), sl13⟩) (c13 : PySem.W.codeIn K cd13 "_law_bands" = true) (k13 : PySem.W.keepIn K (.ref f13) = true)
    (a14 : PySem.W.nsIn K mainGlobals "lows_of" = some (some (.ref f14))) (l14 : K.lookup f14 = some ⟨oc14, od14, .func (PySem.W.fnOf "lows_of" "lows_of" (defArgs st_lows_of) (defBody st_lows_of) (defScope st_lows_of) .none kV14 dc14 pm14 an14 cd14 ct14), sl14⟩) (c14 : PySem.W.codeIn K cd14 "lows_of" = true) (k14 : PySem.W.keepIn K (.ref f14) = true)
    (a15 : PySem.W.nsIn K mainGlobals "highs_of" = some (some (.ref f15))) (l15 : K.lookup f15 = some ⟨oc15, od15, .func (PySem.W.fnOf "highs_of" "highs_of" (defArgs st_highs_of) (defBody st_highs_of) (defScope st_highs_of) .none kV15 dc15 pm15 an15 cd15 ct15), sl15⟩) (c15 : PySem.W.codeIn K cd15 "highs_of" = true) (k15 : PySem.W.keepIn K (.ref f15) = true)
    (a16 : PySem.W.nsIn K mainGlobals "low_of" = some (some (.ref f16))) (l16 : K.lookup f16 = some ⟨oc16, od16, .func (PySem.W.fnOf "low_of" "low_of" (defArgs st_low_of) (defBody st_low_of) (defScope st_low_of) .none kV16 dc16 pm16 an16 cd16 ct16), sl16⟩) (c16 : PySem.W.codeIn K cd16 "low_of" = true) (k16 : PySem.W.keepIn K (.ref f16) = true)
    (a17 : PySem.W.nsIn K mainGlobals "high_of" = some (some (.ref f17))) (l17 : K.lookup f17 = some ⟨oc17, od17, .func (PySem.W.fnOf "high_of" "high_of" (defArgs st_high_of) (defBody st_high_of) (defScope st_high_of) .none kV17 dc17 pm17 an17 cd17 ct17), sl17⟩) (c17 : PySem.W.codeIn K cd17 "high_of" = true) (k17 : PySem.W.keepIn K (.ref f17) = true)
    (a18 : PySem.W.nsIn K mainGlobals "_law_told" = some (some (.ref f18))) (l18 : K.lookup f18 = some ⟨oc18, od18, .func (PySem.W.fnOf "_law_told" "_law_told" (defArgs st__law_told) (defBody st__law_told) (defScope st__law_told) .none kV18 dc18 pm18 an18 cd18 ct18), sl18⟩) (c18 : PySem.W.codeIn K cd18 "_law_told" = true) (k18 : PySem.W.keepIn K (.ref f18) = true)
    (a19 : PySem.W.nsIn K mainGlobals "year_pairs" = some (some (.ref f19))) (l19 : K.lookup f19 = some ⟨oc19, od19, .func (PySem.W.fnOf "year_pairs" "year_pairs" (defArgs st_year_pairs) (defBody st_year_pairs) (defScope st_year_pairs) .none kV19 dc19 pm19 an19 cd19 ct19), sl19⟩) (c19 : PySem.W.codeIn K cd19 "year_pairs" = true) (k19 : PySem.W.keepIn K (.ref f19) = true)
    (a20 : PySem.W.nsIn K mainGlobals "basic_pairs" = some (some (.ref f20))) (l20 : K.lookup f20 = some ⟨oc20, od20, .func (PySem.W.fnOf "basic_pairs" "basic_pairs" (defArgs st_basic_pairs) (defBody st_basic_pairs) (defScope st_basic_pairs) .none kV20 dc20 pm20 an20 cd20 ct20), sl20⟩) (c20 : PySem.W.codeIn K cd20 "basic_pairs" = true) (k20 : PySem.W.keepIn K (.ref f20) = true)
    (a21 : PySem.W.nsIn K mainGlobals "_law_low" = some (some (.ref f21))) (l21 : K.lookup f21 = some ⟨oc21, od21, .func (PySem.W.fnOf "_law_low" "_law_low" (defArgs st__law_low) (defBody st__law_low) (defScope st__law_low) .none kV21 dc21 pm21 an21 cd21 ct21), sl21⟩) (c21 : PySem.W.codeIn K cd21 "_law_low" = true) (k21 : PySem.W.keepIn K (.ref f21) = true)
    (a22 : PySem.W.nsIn K mainGlobals "_law_high" = some (some (.ref f22))) (l22 : K.lookup f22 = some ⟨oc22, od22, .func (PySem.W.fnOf "_law_high" "_law_high" (defArgs st__law_high) (defBody st__law_high) (defScope st__law_high) .none kV22 dc22 pm22 an22 cd22 ct22), sl22⟩) (c22 : PySem.W.codeIn K cd22 "_law_high" = true) (k22 : PySem.W.keepIn K (.ref f22) = true)
    (a23 : PySem.W.nsIn K mainGlobals "_law_basic" = some (some (.ref f23))) (l23 : K.lookup f23 = some ⟨oc23, od23, .func (PySem.W.fnOf "_law_basic" "_law_basic" (defArgs st__law_basic) (defBody st__law_basic) (defScope st__law_basic) .none kV23 dc23 pm23 an23 cd23 ct23), sl23⟩) (c23 : PySem.W.codeIn K cd23 "_law_basic" = true) (k23 : PySem.W.keepIn K (.ref f23) = true)
    (a24 : PySem.W.nsIn K mainGlobals "_law_same" = some (some (.ref f24))) (l24 : K.lookup f24 = some ⟨oc24, od24, .func (PySem.W.fnOf "_law_same" "_law_same" (defArgs st__law_same) (defBody st__law_same) (defScope st__law_same) .none kV24 dc24 pm24 an24 cd24 ct24), sl24⟩) (c24 : PySem.W.codeIn K cd24 "_law_same" = true) (k24 : PySem.W.keepIn K (.ref f24) = true)
    (a25 : PySem.W.nsIn K mainGlobals "law" = some (some (.ref f25))) (l25 : K.lookup f25 = some ⟨oc25, od25, .func (PySem.W.fnOf "law" "law" (defArgs st_law) (defBody st_law) (defScope st_law) .none kV25 dc25 pm25 an25 cd25 ct25), sl25⟩) (c25 : PySem.W.codeIn K cd25 "law" = true) (k25 : PySem.W.keepIn K (.ref f25) = true)
    (b_abs : PySem.W.nsIn K mainGlobals "abs" = some none)
    (b_bool : PySem.W.nsIn K mainGlobals "bool" = some none)
    (b_int : PySem.W.nsIn K mainGlobals "int" = some none)
    (b_isinstance : PySem.W.nsIn K mainGlobals "isinstance" = some none)
    (b_len : PySem.W.nsIn K mainGlobals "len" = some none)
    (b_list : PySem.W.nsIn K mainGlobals "list" = some none)
    (b_max : PySem.W.nsIn K mainGlobals "max" = some none)
    (b_min : PySem.W.nsIn K mainGlobals "min" = some none)
    (b_range : PySem.W.nsIn K mainGlobals "range" = some none)
    (b_sorted : PySem.W.nsIn K mainGlobals "sorted" = some none)
    (b_str : PySem.W.nsIn K mainGlobals "str" = some none)
    (b_tuple : PySem.W.nsIn K mainGlobals "tuple" = some none)
    (b_zip : PySem.W.nsIn K mainGlobals "zip" = some none)
    (aC : PySem.W.nsIn K mainGlobals "UnknownName" = some (some (.ref C)))
    (lC : K.lookup C = some (excClassObj nmC qC C NC bsC bmC true snC subC abC colC ddC k0C k1C k2C k3C k5C "ValueError.__new__"))
    (saC : PySem.W.findIn K (.ref C) "__setattr__" = some (some (.builtin "object.__setattr__")))
    (exC : PySem.W.subIn K (.ref C) (.type "BaseException") = some true)
    (tyC : PySem.W.typeIn K (.ref C) = some (.type "type"))
    (kC : PySem.W.keepIn K (.ref C) = true)
    (gaC : PySem.W.findIn K (.ref C) "__getattribute__" = some (some (.builtin "BaseException.__getattribute__")))
    (ggC : PySem.W.findIn K (.ref C) "__getattr__" = some none)
    (hdC : PySem.W.hasDictIn K C = true)
    (nC : PySem.W.findIn K (.ref C) "name" = some none)
    (veC : PySem.W.subIn K (.ref C) (.type "ValueError") = some true)
    (opC : PySem.W.nsIn K cStatics "thirdparty.any" = some none)
    (mrC : PySem.W.mroIn K C (.ref C) = some true)
    (iC : PySem.W.findIn K (.ref C) "__init__" = some (some (.ref fI)))
    (tI : PySem.W.typeIn K (.ref fI) = some (.type "function"))
    (lI : K.lookup fI = some ⟨ocI, odI, .func (PySem.W.ksFn "__init__" "UnknownName.__init__" (defArgs si_UnknownName) (defBody si_UnknownName) (defScope si_UnknownName) .none kVI dcI pmI anI (.ref cda) ctI cc), slI⟩)
    (cI : PySem.W.codeIn K (.ref cda) "UnknownName.__init__" = true)
    (lcc : K.lookup cc = some ⟨clc, cldc, .cell (some (.ref C)), cslc⟩)
    (lcd : K.lookup cda = some ⟨cclc, cddc, .fields vsc, ccsc⟩)
    (bsup : PySem.W.nsIn K mainGlobals "super" = some none)
    (spC : PySem.W.ks_superIn K C C "__init__" = some (some (.builtin "ValueError.__init__")))
    (rvC : PySem.HandSPX.refsVE bmC = true)
    (hvs : vsc[2]? = some (.str file tf))
    (hfile : ((l.prog.main.file : Str) == file) = true)
    (htop : (l.prog.main.scope.names.lookup ("super" : Str)).isSome = false)
    (exm : PySem.W.exmOne K (.ref C) (.ref C) = some true) :
    ∃ fd : FuncData, (∀ (s : Shared) (v : Value), BindsTo s fd ⟨[v], []⟩ [("script", v)]) ∧ ∀ base : Heap, K.In base → base.Ns mainGlobals mg → FnOk l.prog w K mg base CX0 8 fa fd ["script"] (spLaw K) := by
  have e := hfa.symm.trans (PySem.W.mg_of X G a25)
  cases e
  have T0 : Tx K mg "_law_mixed" "_law_mixed" st__law_mixed ["number", "k"] := tx_mk X G a0 l0 c0 k0 (fun _ _ _ _ _ _ us hl => match us, hl with | [_, _], _ => rfl) (fun _ _ _ _ _ _ us hl => match us, hl with | [_, _], _ => rfl)
  have T1 : Tx K mg "_law_start" "_law_start" st__law_start ["script"] := tx_mk X G a1 l1 c1 k1 (fun _ _ _ _ _ _ us hl => match us, hl with | [_], _ => rfl) (fun _ _ _ _ _ _ us hl => match us, hl with | [_], _ => rfl)
  have T2 : Tx K mg "_law_take" "_law_take" st__law_take ["state", "limit"] := tx_mk X G a2 l2 c2 k2 (fun _ _ _ _ _ _ us hl => match us, hl with | [_, _], _ => rfl) (fun _ _ _ _ _ _ us hl => match us, hl with | [_, _], _ => rfl)
  have T3 : Tx K mg "_law_pick" "_law_pick" st__law_pick ["state", "some"] := tx_mk X G a3 l3 c3 k3 (fun _ _ _ _ _ _ us hl => match us, hl with | [_, _], _ => rfl) (fun _ _ _ _ _ _ us hl => match us, hl with | [_, _], _ => rfl)
  have T4 : Tx K mg "_law_shuffled" "_law_shuffled" st__law_shuffled ["state", "some"] := tx_mk X G a4 l4 c4 k4 (fun _ _ _ _ _ _ us hl => match us, hl with | [_, _], _ => rfl) (fun _ _ _ _ _ _ us hl => match us, hl with | [_, _], _ => rfl)
  have T5 : Tx K mg "_law_names" "_law_names" st__law_names ["state", "many"] := tx_mk X G a5 l5 c5 k5 (fun _ _ _ _ _ _ us hl => match us, hl with | [_, _], _ => rfl) (fun _ _ _ _ _ _ us hl => match us, hl with | [_, _], _ => rfl)
  have T6 : Tx K mg "_law_lot" "_law_lot" st__law_lot ["state", "finds"] := tx_mk X G a6 l6 c6 k6 (fun _ _ _ _ _ _ us hl => match us, hl with | [_, _], _ => rfl) (fun _ _ _ _ _ _ us hl => match us, hl with | [_, _], _ => rfl)
  have T7 : Tx K mg "_law_series" "_law_series" st__law_series ["state", "hidden", "many"] := tx_mk X G a7 l7 c7 k7 (fun _ _ _ _ _ _ us hl => match us, hl with | [_, _, _], _ => rfl) (fun _ _ _ _ _ _ us hl => match us, hl with | [_, _, _], _ => rfl)
  have T8 : Tx K mg "_law_years" "_law_years" st__law_years ["state", "hidden"] := tx_mk X G a8 l8 c8 k8 (fun _ _ _ _ _ _ us hl => match us, hl with | [_, _], _ => rfl) (fun _ _ _ _ _ _ us hl => match us, hl with | [_, _], _ => rfl)
  have T9 : Tx K mg "_law_thing" "_law_thing" st__law_thing ["state", "hidden"] := tx_mk X G a9 l9 c9 k9 (fun _ _ _ _ _ _ us hl => match us, hl with | [_, _], _ => rfl) (fun _ _ _ _ _ _ us hl => match us, hl with | [_, _], _ => rfl)
  have T10 : Tx K mg "_law_dossier" "_law_dossier" st__law_dossier ["state", "many", "things"] := tx_mk X G a10 l10 c10 k10 (fun _ _ _ _ _ _ us hl => match us, hl with | [_, _, _], _ => rfl) (fun _ _ _ _ _ _ us hl => match us, hl with | [_, _, _], _ => rfl)
  have T11 : Tx K mg "_law_free_series" "_law_free_series" st__law_free_series ["state", "finds"] := tx_mk X G a11 l11 c11 k11 (fun _ _ _ _ _ _ us hl => match us, hl with | [_, _], _ => rfl) (fun _ _ _ _ _ _ us hl => match us, hl with | [_, _], _ => rfl)
  have T12 : Tx K mg "bands_of" "bands_of" st_bands_of ["thing"] := tx_mk X G a12 l12 c12 k12 (fun _ _ _ _ _ _ us hl => match us, hl with | [_], _ => rfl) (fun _ _ _ _ _ _ us hl => match us, hl with | [_], _ => rfl)
  have T13 : Tx K mg "_law_bands" "_law_bands" st__law_bands ["thing"] := tx_mk X G a13 l13 c13 k13 (fun _ _ _ _ _ _ us hl => match us, hl with | [_], _ => rfl) (fun _ _ _ _ _ _ us hl => match us, hl with | [_], _ => rfl)
  have T14 : Tx K mg "lows_of" "lows_of" st_lows_of ["dossier"] := tx_mk X G a14 l14 c14 k14 (fun _ _ _ _ _ _ us hl => match us, hl with | [_], _ => rfl) (fun _ _ _ _ _ _ us hl => match us, hl with | [_], _ => rfl)
  have T15 : Tx K mg "highs_of" "highs_of" st_highs_of ["dossier"] := tx_mk X G a15 l15 c15 k15 (fun _ _ _ _ _ _ us hl => match us, hl with | [_], _ => rfl) (fun _ _ _ _ _ _ us hl => match us, hl with | [_], _ => rfl)
  have T16 : Tx K mg "low_of" "low_of" st_low_of ["dossier", "a"] := tx_mk X G a16 l16 c16 k16 (fun _ _ _ _ _ _ us hl => match us, hl with | [_, _], _ => rfl) (fun _ _ _ _ _ _ us hl => match us, hl with | [_, _], _ => rfl)
  have T17 : Tx K mg "high_of" "high_of" st_high_of ["dossier", "a"] := tx_mk X G a17 l17 c17 k17 (fun _ _ _ _ _ _ us hl => match us, hl with | [_, _], _ => rfl) (fun _ _ _ _ _ _ us hl => match us, hl with | [_, _], _ => rfl)
  have T18 : Tx K mg "_law_told" "_law_told" st__law_told ["way", "dossier", "a", "by_name"] := tx_mk X G a18 l18 c18 k18 (fun _ _ _ _ _ _ us hl => match us, hl with | [_, _, _, _], _ => rfl) (fun _ _ _ _ _ _ us hl => match us, hl with | [_, _, _, _], _ => rfl)
  have T19 : Tx K mg "year_pairs" "year_pairs" st_year_pairs ["dossier"] := tx_mk X G a19 l19 c19 k19 (fun _ _ _ _ _ _ us hl => match us, hl with | [_], _ => rfl) (fun _ _ _ _ _ _ us hl => match us, hl with | [_], _ => rfl)
  have T20 : Tx K mg "basic_pairs" "basic_pairs" st_basic_pairs ["dossier"] := tx_mk X G a20 l20 c20 k20 (fun _ _ _ _ _ _ us hl => match us, hl with | [_], _ => rfl) (fun _ _ _ _ _ _ us hl => match us, hl with | [_], _ => rfl)
  have T21 : Tx K mg "_law_low" "_law_low" st__law_low ["dossier", "a"] := tx_mk X G a21 l21 c21 k21 (fun _ _ _ _ _ _ us hl => match us, hl with | [_, _], _ => rfl) (fun _ _ _ _ _ _ us hl => match us, hl with | [_, _], _ => rfl)
  have T22 : Tx K mg "_law_high" "_law_high" st__law_high ["dossier", "a"] := tx_mk X G a22 l22 c22 k22 (fun _ _ _ _ _ _ us hl => match us, hl with | [_, _], _ => rfl) (fun _ _ _ _ _ _ us hl => match us, hl with | [_, _], _ => rfl)
  have T23 : Tx K mg "_law_basic" "_law_basic" st__law_basic ["dossier"] := tx_mk X G a23 l23 c23 k23 (fun _ _ _ _ _ _ us hl => match us, hl with | [_], _ => rfl) (fun _ _ _ _ _ _ us hl => match us, hl with | [_], _ => rfl)
  have T24 : Tx K mg "_law_same" "_law_same" st__law_same ["told", "due"] := tx_mk X G a24 l24 c24 k24 (fun _ _ _ _ _ _ us hl => match us, hl with | [_, _], _ => rfl) (fun _ _ _ _ _ _ us hl => match us, hl with | [_, _], _ => rfl)
  have T : Bt mg := ⟨PySem.W.mg_none_of X G b_abs, PySem.W.mg_none_of X G b_bool, PySem.W.mg_none_of X G b_int, PySem.W.mg_none_of X G b_isinstance, PySem.W.mg_none_of X G b_len, PySem.W.mg_none_of X G b_list, PySem.W.mg_none_of X G b_max, PySem.W.mg_none_of X G b_min, PySem.W.mg_none_of X G b_range, PySem.W.mg_none_of X G b_sorted, PySem.W.mg_none_of X G b_str, PySem.W.mg_none_of X G b_tuple, PySem.W.mg_none_of X G b_zip⟩
  have TC : OexC K C := ⟨⟨_, _, _, _, _, _, _, _, _, _, _, _, _, _, _, lC, rvC⟩, saC, exC, tyC, kC⟩
  have TX : XfC K C := ⟨gaC, ggC, exC, hdC⟩
  have S : SupF l.prog K mg C fI cc cda (PySem.W.ksFn "__init__" "UnknownName.__init__" (defArgs si_UnknownName) (defBody si_UnknownName) (defScope si_UnknownName) .none kVI dcI pmI anI (.ref cda) ctI cc) "self" :=
    ⟨TC, spC, veC, opC, mrC, ⟨_, _, _, lI⟩, ⟨_, rfl, rfl⟩, ⟨_, _, _, lcc⟩, ⟨_, _, _, _, _, _, lcd, hvs, hfile⟩, PySem.W.mg_none_of X G bsup, htop⟩
  rw [bodyI] at S
  have xo : ∀ base : Heap, ExcOwn l.prog w K mg base "UnknownName" C 1 (mkS "name") := fun base => exc2 (P := l.prog) (w := w) (base := base) S cI scI nC (by decide +kernel) (by decide) (by decide) hcI (fun us hl => match us, hl with | [_, _], _ => rfl) iC tI TX (PySem.W.mg_of X G aC) exm
  have nx : ∀ n ∈ fields_UnknownName, PySem.W.findIn K (.ref C) n = some none := fun n hn => by
    rw [List.mem_singleton.mp hn]; exact nC
  exact ⟨_, fun s v => .of_eq rfl, fun base _ _ => ok_law (C := C) (fun_mk (st := st_law) l25 c25 k25) T T0 T1 T2 T3 T4 T5 T6 T7 T8 T9 T10 T11 T12 T13 T14 T15 T16 T17 T18 T19 T20 T21 T22 T23 T24 (xo base) nx⟩
theorem walk {l : PySem.W.OpenLaw} {q : Program} {loose : List Str} {XP : (Str → Option Value) → Heap → Prop} {YP : World → Heap → Prop} {d : DefRec} {K : Params → PySem.W.Frag} (hn : l.most = some 63) (hdf : d.params.defaults = [])
    (hY : ∀ (w : World) (h : Heap), YP w h → (K w.params).In h)
    (F : ∀ (w : World) (mg : Str → Option Value) (fa : Addr) (h : Heap), (K w.params).In h → h.Ns mainGlobals mg → mg d.name = some (.ref fa) →
      ∃ fd : FuncData, (∀ (s : Shared) (u : Value), BindsTo s fd ⟨[u], []⟩ [("script", u)]) ∧ ∀ base : Heap, (K w.params).In base → base.Ns mainGlobals mg → FnOk l.prog w (K w.params) mg base CX0 8 fa fd ["script"] (spLaw (K w.params))) :
    PySem.W.WalkO q loose XP YP l.row.toRowW d [] (fun f vs => PySem.call f vs) :=
  L2.walk_of (n := 63) (k := 8) (x := "script") (CX := fun _ => CX0) (sp := fun w => spLaw (K w.params)) hn (by decide) hdf ⟨rfl, by decide, by decide⟩ hY F (fun w H a ns hl hO hS => ⟨a, ns, rfl, by
    rcases hS with (h | h) | h
    · rcases hO a with e | ⟨o, xs, e⟩
      · rw [e] at h; cases h
      · rw [e] at h; cases h
    · exact .inl h
    · exact .inr h, fun _ => rfl⟩) fun _ _ _ _ _ z => z
end L2.DL
open PySem PySem.W PyProof.Rows
set_option maxRecDepth 100000 in
set_option maxHeartbeats 0 in
theorem PySem.Challenge.cw_surelyelder_k02_bands_bounds_and_basic_p_holds : PySem.Challenge.rw_surelyelder_k02_bands_bounds_and_basic_p.Holds := by
  w_on; o_law; k_head; (case hw => w_witness2)
  k_fill
  refine L2.DL.walk (l := PySem.Challenge.rw_surelyelder_k02_bands_bounds_and_basic_p) rfl rfl (fun w h Y => PySem.W.kIn_of Y) ?F
  case F =>
    intro w mg fa h KX G hmg
    refine' L2.DL.all_mk KX G hmg ?a0 ?l0 ?c0 ?k0 ?a1 ?l1 ?c1 ?k1 ?a2 ?l2 ?c2 ?k2 ?a3 ?l3 ?c3 ?k3 ?a4 ?l4 ?c4 ?k4 ?a5 ?l5 ?c5 ?k5 ?a6 ?l6 ?c6 ?k6 ?a7 ?l7 ?c7 ?k7 ?a8 ?l8 ?c8 ?k8 ?a9 ?l9 ?c9 ?k9 ?a10 ?l10 ?c10 ?k10 ?a11 ?l11 ?c11 ?k11 ?a12 ?l12 ?c12 ?k12 ?a13 ?l13 ?c13 ?k13 ?a14 ?l14 ?c14 ?k14 ?a15 ?l15 ?c15 ?k15 ?a16 ?l16 ?c16 ?k16 ?a17 ?l17 ?c17 ?k17 ?a18 ?l18 ?c18 ?k18 ?a19 ?l19 ?c19 ?k19 ?a20 ?l20 ?c20 ?k20 ?a21 ?l21 ?c21 ?k21 ?a22 ?l22 ?c22 ?k22 ?a23 ?l23 ?c23 ?k23 ?a24 ?l24 ?c24 ?k24 ?a25 ?l25 ?c25 ?k25 ?b_abs ?b_bool ?b_int ?b_isinstance ?b_len ?b_list ?b_max ?b_min ?b_range ?b_sorted ?b_str ?b_tuple ?b_zip ?aC ?lC ?saC ?exC ?tyC ?kC ?gaC ?ggC ?hdC ?nC ?veC ?opC ?mrC ?iC ?tI ?lI ?cI ?lcc ?lcd ?bsup ?spC ?rvC ?hvs ?hfile ?htop ?exm
    (case a0 => k_is)
    (case l0 => k_is)
    (case c0 => k_is)
    (case k0 => k_is)
    (case a1 => k_is)
    (case l1 => k_is)
    (case c1 => k_is)
    (case k1 => k_is)
    (case a2 => k_is)
    (case l2 => k_is)
    (case c2 => k_is)
    (case k2 => k_is)
    (case a3 => k_is)
    (case l3 => k_is)
    (case c3 => k_is)
    (case k3 => k_is)
    (case a4 => k_is)
    (case l4 => k_is)
    (case c4 => k_is)
    (case k4 => k_is)
    (case a5 => k_is)
    (case l5 => k_is)
    (case c5 => k_is)
    (case k5 => k_is)
    (case a6 => k_is)
    (case l6 => k_is)
    (case c6 => k_is)
    (case k6 => k_is)
    (case a7 => k_is)
    (case l7 => k_is)
    (case c7 => k_is)
    (case k7 => k_is)
    (case a8 => k_is)
    (case l8 => k_is)
    (case c8 => k_is)
    (case k8 => k_is)
    (case a9 => k_is)
    (case l9 => k_is)
    (case c9 => k_is)
    (case k9 => k_is)
    (case a10 => k_is)
    (case l10 => k_is)
    (case c10 => k_is)
    (case k10 => k_is)
    (case a11 => k_is)
    (case l11 => k_is)
    (case c11 => k_is)
    (case k11 => k_is)
    (case a12 => k_is)
    (case l12 => k_is)
    (case c12 => k_is)
    (case k12 => k_is)
    (case a13 => k_is)
    (case l13 => k_is)
    (case c13 => k_is)
    (case k13 => k_is)
    (case a14 => k_is)
    (case l14 => k_is)
    (case c14 => k_is)
    (case k14 => k_is)
    (case a15 => k_is)
    (case l15 => k_is)
    (case c15 => k_is)
    (case k15 => k_is)
    (case a16 => k_is)
    (case l16 => k_is)
    (case c16 => k_is)
    (case k16 => k_is)
    (case a17 => k_is)
    (case l17 => k_is)
    (case c17 => k_is)
    (case k17 => k_is)
    (case a18 => k_is)
    (case l18 => k_is)
    (case c18 => k_is)
    (case k18 => k_is)
    (case a19 => k_is)
    (case l19 => k_is)
    (case c19 => k_is)
    (case k19 => k_is)
    (case a20 => k_is)
    (case l20 => k_is)
    (case c20 => k_is)
    (case k20 => k_is)
    (case a21 => k_is)
    (case l21 => k_is)
    (case c21 => k_is)
    (case k21 => k_is)
    (case a22 => k_is)
    (case l22 => k_is)
    (case c22 => k_is)
    (case k22 => k_is)
    (case a23 => k_is)
    (case l23 => k_is)
    (case c23 => k_is)
    (case k23 => k_is)
    (case a24 => k_is)
    (case l24 => k_is)
    (case c24 => k_is)
    (case k24 => k_is)
    (case a25 => k_is)
    (case l25 => k_is)
    (case c25 => k_is)
    (case k25 => k_is)
    (case b_abs => k_is)
    (case b_bool => k_is)
    (case b_int => k_is)
    (case b_isinstance => k_is)
    (case b_len => k_is)
    (case b_list => k_is)
    (case b_max => k_is)
    (case b_min => k_is)
    (case b_range => k_is)
    (case b_sorted => k_is)
    (case b_str => k_is)
    (case b_tuple => k_is)
    (case b_zip => k_is)
    (case aC => k_is)
    (case lC => k_is)
    (case saC => k_is)
    (case exC => k_is)
    (case tyC => k_is)
    (case kC => k_is)
    (case gaC => k_is)
    (case ggC => k_is)
    (case hdC => k_is)
    (case nC => k_is)
    (case veC => k_is)
    (case opC => k_is)
    (case mrC => k_is)
    (case iC => k_is)
    (case tI => k_is)
    (case lI => k_is)
    (case cI => k_is)
    (case lcc => k_is)
    (case lcd => k_is)
    (case bsup => k_is)
    (case spC => ks_is)
    (case rvC => decide +kernel)
    (case hvs => exact rfl)
    (case hfile => decide +kernel)
    (case htop => decide +kernel)
    (case exm => exact PySem.W.exm_ref (by k_is) (by k_is) (by k_is) (show PySem.W.mroIn _ _ _ = some true by k_is))
