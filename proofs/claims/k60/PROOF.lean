import PyProof.Rows.All
import Wide.All
import OpenK.AllK
import Wide.FinOn
import KE.KStateDown
import Lean
import HandS.Base
import HandS.Call
import HandS.List
import HandS.Comp
import HandS.Ends
import HandS.Dict
import HandS.Iter
import HandS.Text
import HandS.More
import HandS.Words
import HandS.WordsList
import HandS.WordsExc
import HandS.Defaults
import HandS.Wide
import HandS.Deep
import HandS.TupAny
import HandS.TupMul
import HandS.Zip
import HandS.SortOrd
import HandS.Head0
import HandS.Head1
import HandS.Head2
import HandS.HeadEnd
import HandS.HeadHook1
import HandS.HeadHook2
import HandS.IsInst
import HandS.SortInts
import HandS.Flow
import HandS.Rev
import HandS.Style
import PySem.Challenge.RW_whoseitis_k60_stages_of_a_thing
set_option Elab.async false
set_option linter.all false
set_option maxRecDepth 100000
set_option maxHeartbeats 0
/-! DLCore: a data layer over HandS. Values are trees (D); what a def's body does is read as a predicate transformer over trees, no heap in sight. -/
namespace DL
open PySem PySem.Spec PyProof.Rows L2

/-! ### data -/
inductive D where
  | non | bl (b : Bool) | int (i : Int) | str (x : Str) | tup (xs : List D) | lst (xs : List D) | src
  /-- the law's script: a list of ints at a place, tracked or known to the top -/
  | scr (K : PySem.W.Frag) (a : Addr) (ns : List Int)
/-- the source and the script: kinds of their own -/
def D.isSrc : D → Bool
  | .src => true
  | .scr _ _ _ => true
  | _ => false

/-- a source of drawn numbers: what stands at its place, on which cells it leans -/
structure Src where
  ok : Hp → Addr → (Addr → Prop) → Prop
  loc : ∀ H H' p F, (∀ a, F a → H a = H' a) → ok H p F → ok H' p F
  tr : ∀ H p F a, ok H p F → F a → ∃ o, H a = some o
  nt : ∀ H p F a xs, ok H p F → F a → H a ≠ some (.tup xs)

/-- ghost: the frozen lists, the source's cells, the source's place -/
structure G where
  fz : Addr → Prop
  rl : Addr → Prop
  rp : Addr

structure HInv (S : Src) (g : G) (H : Hp) : Prop where
  fz : ∀ a, g.fz a → ∃ o, H a = some o
  dis : ∀ a, g.rl a → ¬ g.fz a
  rl : (∃ a, g.rl a) → S.ok H g.rp g.rl
theorem HInv.trl {S : Src} {g : G} {H : Hp} (I : HInv S g H) {a : Addr} (h : g.rl a) : ∃ o, H a = some o := S.tr _ _ _ _ (I.rl ⟨a, h⟩) h

structure Step (g : G) (H : Hp) (g' : G) (H' : Hp) : Prop where
  fz : ∀ a, g.fz a → g'.fz a
  fzn : ∀ a, g'.fz a → g.fz a ∨ H a = none
  rl : ∀ a, g.rl a → g'.rl a
  rln : ∀ a, g'.rl a → g.rl a ∨ H a = none
  rp : (∃ a, g.rl a) → g'.rp = g.rp
  keep : ∀ a o, H a = some o → ¬ g.rl a → H' a = some o
  there : ∀ a o, H a = some o → ∃ o', H' a = some o'
/-- the weaker relation that a datum's standing leans on -/
structure Up (g : G) (H : Hp) (g' : G) (H' : Hp) : Prop where
  fz : ∀ a, g.fz a → g'.fz a
  rl : ∀ a, g.rl a → g'.rl a
  rt : ∀ a xs, H a = some (.tup xs) → ¬ g.rl a → ¬ g'.rl a
  rp : (∃ a, g.rl a) → g'.rp = g.rp
  kt : ∀ a xs, H a = some (.tup xs) → H' a = some (.tup xs)
  kf : ∀ a o, g.fz a → H a = some o → H' a = some o
theorem Step.up {S : Src} {g g' : G} {H H' : Hp} (I : HInv S g H) (s : Step g H g' H') : Up g H g' H' :=
  ⟨s.fz, s.rl, fun a xs e n z => (s.rln a z).elim n (fun q => by rw [e] at q; cases q), s.rp, fun a xs e => s.keep a _ e fun z => S.nt _ _ _ a xs (I.rl ⟨a, z⟩) z e, fun a o f e => s.keep a o e fun z => I.dis a z f⟩
theorem Up.refl (g : G) (H : Hp) : Up g H g H := ⟨fun _ h => h, fun _ h => h, fun _ _ _ n => n, fun _ => rfl, fun _ _ e => e, fun _ _ _ e => e⟩
theorem Step.refl (g : G) (H : Hp) : Step g H g H :=
  ⟨fun _ h => h, fun _ h => .inl h, fun _ h => h, fun _ h => .inl h, fun _ => rfl, fun _ _ h _ => h, fun _ o h => ⟨o, h⟩⟩
theorem Step.free {g g' : G} {H H' : Hp} (s : Step g H g' H') {a : Addr} (h : H' a = none) : H a = none := by
  cases e : H a with
  | none => rfl
  | some o =>
    obtain ⟨o', e'⟩ := s.there a o e
    rw [h] at e'; cases e'
theorem Step.trans {g g1 g2 : G} {H H1 H2 : Hp} (a : Step g H g1 H1) (b : Step g1 H1 g2 H2) : Step g H g2 H2 where
  fz := fun x h => b.fz x (a.fz x h)
  fzn := fun x h => by
    rcases b.fzn x h with h | h
    · exact a.fzn x h
    · exact .inr (a.free h)
  rl := fun x h => b.rl x (a.rl x h)
  rln := fun x h => by
    rcases b.rln x h with h | h
    · exact a.rln x h
    · exact .inr (a.free h)
  rp := fun ⟨x, h⟩ => (b.rp ⟨x, a.rl x h⟩).trans (a.rp ⟨x, h⟩)
  keep := fun x o e n => b.keep x o (a.keep x o e n) fun h => by
    rcases a.rln x h with h | h
    · exact n h
    · rw [e] at h; cases h
  there := fun x o e => by
    obtain ⟨o1, e1⟩ := a.there x o e
    exact b.there x o1 e1
/-- a new cell is laid -/
theorem Step.laid (g : G) {H : Hp} {p : Addr} (o : HO) (h : H p = none) : Step g H g (upd H p o) :=
  ⟨fun _ h => h, fun _ h => .inl h, fun _ h => h, fun _ h => .inl h, fun _ => rfl, fun a u e _ => by rw [upd_ne (ne_of_none e h)]; exact e, fun a u e => ⟨u, by rw [upd_ne (ne_of_none e h)]; exact e⟩⟩
theorem HInv.laid {S : Src} {g : G} {H : Hp} (I : HInv S g H) {p : Addr} (o : HO) (h : H p = none) : HInv S g (upd H p o) where
  fz := fun a ha => by
    obtain ⟨u, e⟩ := I.fz a ha
    exact ⟨u, by rw [upd_ne (ne_of_none e h)]; exact e⟩
  dis := I.dis
  rl := fun x => S.loc _ _ _ _ (fun a ha => by
    obtain ⟨u, e⟩ := I.trl ha
    rw [upd_ne (ne_of_none e h)]) (I.rl x)

/-! ### a value stands for a datum -/
def RdT (g : G) (H : Hp) (a : Addr) (xs : List V) : Prop := H a = some (.tup xs) ∧ ¬ g.rl a
def RdL (g : G) (H : Hp) (a : Addr) (xs : List V) : Prop := H a = some (.lst xs) ∧ g.fz a
theorem RdT.sq {K : PySem.W.Frag} {g : G} {H : Hp} {a : Addr} {xs : List V} (h : RdT g H a xs) : SqT K H a xs := .inl (.inl h.1)
theorem RdL.sq {K : PySem.W.Frag} {g : G} {H : Hp} {a : Addr} {xs : List V} (h : RdL g H a xs) : SqL K H a xs := .inl (.inl h.1)
theorem RdL.rd {g : G} {H : Hp} {a : Addr} {xs : List V} (h : RdL g H a xs) : Rd H a (.lst xs) := .inl h.1

/-- a list that the top knows, as HandS reads it -/
def SqLK (K : PySem.W.Frag) (a : Addr) (xs : List V) : Prop := ∀ H, SqL K H a xs
mutual
def Rep (g : G) (H : Hp) : D → V → Prop
  | .non, v => v = .non
  | .bl b, v => v = .bl b
  | .int i, v => v = .int i
  | .str x, v => v = .str x
  | .tup ds, v => ∃ a xs, v = .ref a ∧ RdT g H a xs ∧ RepL g H ds xs
  | .lst ds, v => ∃ a xs, v = .ref a ∧ RdL g H a xs ∧ RepL g H ds xs
  | .src, v => v = .ref g.rp ∧ g.rl g.rp
  | .scr K a ns, v => v = .ref a ∧ ((Rd H a (.lst (ns.map .int)) ∧ g.fz a) ∨ SqLK K a (ns.map .int))
def RepL (g : G) (H : Hp) : List D → List V → Prop
  | [], vs => vs = []
  | d :: ds, vs => ∃ v r, vs = v :: r ∧ Rep g H d v ∧ RepL g H ds r
end

section
variable {S : Src} {g g' : G} {H H' : Hp}
theorem RdT.step (s : Up g H g' H') {a : Addr} {xs : List V} (h : RdT g H a xs) : RdT g' H' a xs := by
  obtain ⟨h, n⟩ := h
  exact ⟨s.kt a _ h, s.rt a _ h n⟩
theorem Rd.up (s : Up g H g' H') {a : Addr} {u : HO} (h : Rd H a u) (n : g.fz a) : Rd H' a u := by
  rcases h with h | ⟨o, h⟩
  · exact .inl (s.kf a _ n h)
  · exact .inr ⟨o, s.kf a _ n h⟩
theorem RdL.step (s : Up g H g' H') {a : Addr} {xs : List V} (h : RdL g H a xs) : RdL g' H' a xs := by
  obtain ⟨h, n⟩ := h
  exact ⟨s.kf a _ n h, s.fz a n⟩
mutual
theorem Rep.up (s : Up g H g' H') : ∀ (d : D) (v : V), Rep g H d v → Rep g' H' d v
  | .non, _, h => by rw [Rep] at h ⊢; exact h
  | .bl _, _, h => by rw [Rep] at h ⊢; exact h
  | .int _, _, h => by rw [Rep] at h ⊢; exact h
  | .str _, _, h => by rw [Rep] at h ⊢; exact h
  | .tup ds, v, h => by
    rw [Rep] at h ⊢
    obtain ⟨a, xs, e, r, l⟩ := h
    exact ⟨a, xs, e, r.step s, RepL.up s ds xs l⟩
  | .lst ds, v, h => by
    rw [Rep] at h ⊢
    obtain ⟨a, xs, e, r, l⟩ := h
    exact ⟨a, xs, e, r.step s, RepL.up s ds xs l⟩
  | .src, v, h => by
    rw [Rep] at h ⊢
    obtain ⟨e, r⟩ := h
    have e2 := s.rp ⟨_, r⟩
    rw [e2]
    exact ⟨e, s.rl _ r⟩
  | .scr K a ns, v, h => by
    rw [Rep] at h ⊢
    exact ⟨h.1, h.2.elim (fun r => .inl (.intro (Rd.up s r.1 r.2) (s.fz _ r.2))) .inr⟩
theorem RepL.up (s : Up g H g' H') : ∀ (ds : List D) (vs : List V), RepL g H ds vs → RepL g' H' ds vs
  | [], _, h => by rw [RepL] at h ⊢; exact h
  | d :: ds, vs, h => by
    rw [RepL] at h ⊢
    obtain ⟨v, r, e, h1, h2⟩ := h
    exact ⟨v, r, e, Rep.up s d v h1, RepL.up s ds r h2⟩
end
theorem Rep.step (I : HInv S g H) (s : Step g H g' H') {d : D} {v : V} (h : Rep g H d v) : Rep g' H' d v := Rep.up (s.up I) d v h
theorem RepL.step (I : HInv S g H) (s : Step g H g' H') {ds : List D} {vs : List V} (h : RepL g H ds vs) : RepL g' H' ds vs := RepL.up (s.up I) ds vs h
theorem RepL.nil : RepL g H [] [] := by rw [RepL]
theorem RepL.cons {d : D} {ds : List D} {v : V} {vs : List V} (h : Rep g H d v) (t : RepL g H ds vs) : RepL g H (d :: ds) (v :: vs) := by rw [RepL]; exact ⟨v, vs, rfl, h, t⟩
theorem RepL.len : ∀ {ds : List D} {vs : List V}, RepL g H ds vs → vs.length = ds.length
  | [], _, h => by rw [RepL] at h; rw [h]; rfl
  | d :: ds, vs, h => by
    rw [RepL] at h
    obtain ⟨v, r, rfl, _, h2⟩ := h
    rw [List.length_cons, List.length_cons, RepL.len h2]
theorem RepL.get : ∀ {ds : List D} {vs : List V} {i : Nat} {d : D}, RepL g H ds vs → ds[i]? = some d → ∃ v, vs[i]? = some v ∧ Rep g H d v
  | [], _, i, d, _, e => by simp at e
  | x :: ds, vs, i, d, h, e => by
    rw [RepL] at h
    obtain ⟨v, r, rfl, h1, h2⟩ := h
    cases i with
    | zero =>
      simp at e; subst e
      exact ⟨v, rfl, h1⟩
    | succ i =>
      simp at e
      obtain ⟨v', e', r'⟩ := RepL.get h2 e
      exact ⟨v', by simpa using e', r'⟩
theorem RepL.getV {ds : List D} {vs : List V} {i : Nat} {v : V} (h : RepL g H ds vs) (e : vs[i]? = some v) : ∃ d, ds[i]? = some d ∧ Rep g H d v := by
  have hi : i < vs.length := (List.getElem?_eq_some_iff.mp e).1
  rw [h.len] at hi
  obtain ⟨v', e', r⟩ := h.get (List.getElem?_eq_getElem hi)
  rw [e] at e'; cases e'
  exact ⟨_, List.getElem?_eq_getElem hi, r⟩
theorem RepL.append : ∀ {ds es : List D} {vs ws : List V}, RepL g H ds vs → RepL g H es ws → RepL g H (ds ++ es) (vs ++ ws)
  | [], es, vs, ws, h, t => by rw [RepL] at h; subst h; exact t
  | d :: ds, es, vs, ws, h, t => by
    rw [RepL] at h
    obtain ⟨v, r, rfl, h1, h2⟩ := h
    exact RepL.cons h1 (RepL.append h2 t)
theorem RepL.drop : ∀ {ds : List D} {vs : List V} (n : Nat), RepL g H ds vs → RepL g H (ds.drop n) (vs.drop n)
  | _, _, 0, h => h
  | [], vs, n + 1, h => by rw [RepL] at h; subst h; exact RepL.nil
  | d :: ds, vs, n + 1, h => by
    rw [RepL] at h
    obtain ⟨v, r, rfl, h1, h2⟩ := h
    exact RepL.drop n h2
theorem RepL.take : ∀ {ds : List D} {vs : List V} (n : Nat), RepL g H ds vs → RepL g H (ds.take n) (vs.take n)
  | ds, vs, 0, h => by rw [List.take_zero, List.take_zero]; exact RepL.nil
  | [], vs, n + 1, h => by rw [RepL] at h; subst h; exact RepL.nil
  | d :: ds, vs, n + 1, h => by
    rw [RepL] at h
    obtain ⟨v, r, rfl, h1, h2⟩ := h
    exact RepL.cons h1 (RepL.take n h2)
theorem RepL.set : ∀ {ds : List D} {vs : List V} {d : D} {v : V} (n : Nat), RepL g H ds vs → Rep g H d v → RepL g H (ds.set n d) (vs.set n v)
  | [], vs, d, v, n, h, _ => by rw [RepL] at h; subst h; exact RepL.nil
  | x :: ds, vs, d, v, n, h, t => by
    rw [RepL] at h
    obtain ⟨y, r, rfl, h1, h2⟩ := h
    cases n with
    | zero => exact RepL.cons t h2
    | succ n => exact RepL.cons h1 (RepL.set n h2 t)
end

/-! ### data without lists: they do not lean on what is frozen -/
mutual
@[simp] def noLst : D → Bool
  | .lst _ => false
  | .scr _ _ _ => false
  | .tup ds => noLstL ds
  | _ => true
@[simp] def noLstL : List D → Bool
  | [] => true
  | d :: ds => noLst d && noLstL ds
end
mutual
theorem Rep.noLst {g g' : G} {H : Hp} (h1 : g'.rl = g.rl) (h2 : g'.rp = g.rp) : ∀ (d : D) (v : V), DL.noLst d = true → Rep g H d v → Rep g' H d v
  | .non, _, _, h => by rw [Rep] at h ⊢; exact h
  | .bl _, _, _, h => by rw [Rep] at h ⊢; exact h
  | .int _, _, _, h => by rw [Rep] at h ⊢; exact h
  | .str _, _, _, h => by rw [Rep] at h ⊢; exact h
  | .tup ds, v, n, h => by
    rw [Rep] at h ⊢
    obtain ⟨a, xs, e, r, l⟩ := h
    refine ⟨a, xs, e, ?_, RepL.noLst h1 h2 ds xs (by rw [DL.noLst] at n; exact n) l⟩
    unfold RdT at r ⊢
    rw [h1]; exact r
  | .lst ds, v, n, h => by rw [DL.noLst] at n; cases n
  | .src, v, _, h => by rw [Rep] at h ⊢; rw [h1, h2]; exact h
  | .scr _ _ _, v, n, h => by rw [DL.noLst] at n; cases n
theorem RepL.noLst {g g' : G} {H : Hp} (h1 : g'.rl = g.rl) (h2 : g'.rp = g.rp) : ∀ (ds : List D) (vs : List V), DL.noLstL ds = true → RepL g H ds vs → RepL g' H ds vs
  | [], _, _, h => by rw [RepL] at h ⊢; exact h
  | d :: ds, vs, n, h => by
    rw [RepL] at h ⊢
    obtain ⟨v, r, e, a, b⟩ := h
    have n' : DL.noLst d = true ∧ DL.noLstL ds = true := by rw [DL.noLstL, Bool.and_eq_true] at n; exact n
    exact ⟨v, r, e, Rep.noLst h1 h2 d v n'.1 a, RepL.noLst h1 h2 ds r n'.2 b⟩
end

/-! ### readings over data -/
abbrev DEnv := List (Option (Bool × D))
abbrev UK := Bool → D → Prop
abbrev UE := DEnv → UK → Prop
abbrev UT := DEnv → (Bool → Prop) → Prop
abbrev UA := DEnv → (List D → Prop) → Prop

/-- a value for a datum: t: a new list that nobody else holds -/
def RepT (g : G) (H : Hp) (t : Bool) (d : D) (v : V) : Prop := match t with
  | false => Rep g H d v
  | true => ∃ a xs ds, v = .ref a ∧ d = .lst ds ∧ H a = some (.lst xs) ∧ ¬ g.fz a ∧ ¬ g.rl a ∧ RepL g H ds xs
structure EPost (S : Src) (g : G) (H : Hp) (Q : UK) (v : V) (H' : Hp) : Prop where
  ex : ∃ g' t d, Step g H g' H' ∧ HInv S g' H' ∧ RepT g' H' t d v ∧ (t = true → ∀ a, v = .ref a → H a = none) ∧ Q t d
def TPost (S : Src) (g : G) (H : Hp) (Q : Bool → Prop) (b : Bool) (H' : Hp) : Prop := ∃ g', Step g H g' H' ∧ HInv S g' H' ∧ Q b
def APost (S : Src) (g : G) (H : Hp) (Q : List D → Prop) (vs : List V) (H' : Hp) : Prop := ∃ g' ds, Step g H g' H' ∧ HInv S g' H' ∧ RepL g' H' ds vs ∧ Q ds

def frz (g : G) (a : Addr) : G := { g with fz := fun b => g.fz b ∨ b = a }
/-- the new list is frozen -/
theorem EPost.rep {S : Src} {g : G} {H : Hp} {Q : UK} {v : V} {H' : Hp} (h : EPost S g H Q v H') : ∃ g' d, Step g H g' H' ∧ HInv S g' H' ∧ Rep g' H' d v ∧ ∃ t, Q t d := by
  obtain ⟨g', t, d, s, I, r, f, q⟩ := h.ex
  cases t with
  | false => exact ⟨g', d, s, I, r, false, q⟩
  | true =>
    obtain ⟨a, xs, ds, rfl, rfl, ha, n1, n2, l⟩ := r
    have s2 : Step g H (frz g' a) H' := ⟨fun b h => .inl (s.fz b h), fun b h => by
      rcases h with h | h
      · exact s.fzn b h
      · exact .inr (by rw [h]; exact f rfl a rfl), s.rl, s.rln, s.rp, s.keep, s.there⟩
    have I2 : HInv S (frz g' a) H' := ⟨fun b h => by
      rcases h with h | h
      · exact I.fz b h
      · rw [h]; exact ⟨_, ha⟩, fun b h z => by
      rcases z with z | z
      · exact I.dis b h z
      · rw [z] at h; exact n2 h, I.rl⟩
    have u : Up g' H' (frz g' a) H' := ⟨fun b h => .inl h, fun _ h => h, fun _ _ _ n => n, fun _ => rfl, fun _ _ h => h, fun _ _ _ h => h⟩
    exact ⟨frz g' a, .lst ds, s2, I2, by rw [Rep]; exact ⟨a, xs, rfl, .intro ha (.inr rfl), RepL.up u ds xs l⟩, true, q⟩
end DL

/-! DLExpr: expressions over data. -/
namespace DL
open PySem PySem.Spec PyProof.Rows L2

/-! ### helpers -/
section
variable {S : Src} {g g' g1 : G} {H H' H1 : Hp} {Q : UK} {v : V} {d : D}
theorem EPost.after (s : Step g H g1 H1) (e : EPost S g1 H1 Q v H') : EPost S g H Q v H' := by
  obtain ⟨g', t, d, s', I, r, f, q⟩ := e.ex
  exact ⟨g', t, d, s.trans s', I, r, fun h a e => s.free (f h a e), q⟩
theorem EPost.val (I : HInv S g H) (r : Rep g H d v) (q : Q false d) : EPost S g H Q v H := ⟨g, false, d, Step.refl g H, I, r, (fun h => (by cases h)), q⟩
theorem HInv.nfz (I : HInv S g H) {p : Addr} (h : H p = none) : ¬ g.fz p := fun z => by
  obtain ⟨o, e⟩ := I.fz p z
  rw [h] at e; cases e
theorem HInv.nrl (I : HInv S g H) {p : Addr} (h : H p = none) : ¬ g.rl p := fun z => by
  obtain ⟨o, e⟩ := I.trl z
  rw [h] at e; cases e
theorem EPost.newL (I : HInv S g H) {p : Addr} (h : H p = none) {ds : List D} {xs : List V} (l : RepL g H ds xs) (q : Q true (.lst ds)) : EPost S g H Q (.ref p) (upd H p (.lst xs)) :=
  ⟨g, true, .lst ds, Step.laid g _ h, I.laid _ h, ⟨p, xs, ds, rfl, rfl, upd_same, I.nfz h, I.nrl h, l.step I (Step.laid g _ h)⟩, fun _ a e => by cases e; exact h, q⟩
theorem EPost.newT (I : HInv S g H) {p : Addr} (h : H p = none) {ds : List D} {xs : List V} (l : RepL g H ds xs) (q : Q false (.tup ds)) : EPost S g H Q (.ref p) (upd H p (.tup xs)) :=
  ⟨g, false, .tup ds, Step.laid g _ h, I.laid _ h, by show Rep _ _ _ _; rw [Rep]; exact ⟨p, xs, rfl, ⟨upd_same, I.nrl h⟩, l.step I (Step.laid g _ h)⟩, fun h => (by cases h), q⟩
end
theorem RepL.ints {g : G} {H : Hp} : ∀ {ns : List Int} {vs : List V}, RepL g H (ns.map D.int) vs → vs = ns.map V.int
  | [], _, h => by rw [List.map_nil, RepL] at h; exact h
  | n :: ns, vs, h => by
    rw [List.map_cons, RepL] at h
    obtain ⟨v, r, rfl, h1, h2⟩ := h
    rw [Rep] at h1
    rw [h1, RepL.ints h2, List.map_cons]
theorem RepL.ofInts {g : G} {H : Hp} : ∀ (ns : List Int), RepL g H (ns.map D.int) (ns.map V.int)
  | [] => RepL.nil
  | n :: ns => RepL.cons (by rw [Rep]) (RepL.ofInts ns)
theorem RepL.strs {g : G} {H : Hp} : ∀ {ns : List Str} {vs : List V}, RepL g H (ns.map D.str) vs → vs = ns.map V.str
  | [], _, h => by rw [List.map_nil, RepL] at h; exact h
  | n :: ns, vs, h => by
    rw [List.map_cons, RepL] at h
    obtain ⟨v, r, rfl, h1, h2⟩ := h
    rw [Rep] at h1
    rw [h1, RepL.strs h2, List.map_cons]
theorem RepL.ofStrs {g : G} {H : Hp} : ∀ (ns : List Str), RepL g H (ns.map D.str) (ns.map V.str)
  | [] => RepL.nil
  | n :: ns => RepL.cons (by rw [Rep]) (RepL.ofStrs ns)
theorem RepL.bls {g : G} {H : Hp} : ∀ {ns : List Bool} {vs : List V}, RepL g H (ns.map D.bl) vs → vs = ns.map V.bl
  | [], _, h => by rw [List.map_nil, RepL] at h; exact h
  | n :: ns, vs, h => by
    rw [List.map_cons, RepL] at h
    obtain ⟨v, r, rfl, h1, h2⟩ := h
    rw [Rep] at h1
    rw [h1, RepL.bls h2, List.map_cons]

/-! ### what the names hold -/
structure RepS (g : G) (H : Hp) (ρ : DEnv) (σ : L2.St) : Prop where
  len : ρ.length = σ.length
  get : ∀ (i : Nat) (t : Bool) (d : D), ρ[i]? = some (some (t, d)) → ∃ v, σ[i]? = some (some v) ∧ Rep g H d v
theorem RepS.step {S : Src} {g g' : G} {H H' : Hp} {ρ : DEnv} {σ : L2.St} (I : HInv S g H) (s : Step g H g' H') (R : RepS g H ρ σ) : RepS g' H' ρ σ :=
  ⟨R.len, fun i t d e => by
    obtain ⟨v, h1, h2⟩ := R.get i t d e
    exact ⟨v, h1, h2.step I s⟩⟩
theorem RepS.set {g : G} {H : Hp} {ρ : DEnv} {σ : L2.St} (R : RepS g H ρ σ) {i : Nat} {d : D} {v : V} (r : Rep g H d v) : RepS g H (ρ.set i (some (false, d))) (σ.set i (some v)) := by
  refine ⟨by rw [List.length_set, List.length_set]; exact R.len, fun j t e h => ?_⟩
  by_cases hj : i = j
  · subst hj
    have hl : i < ρ.length := by
      have := (List.getElem?_eq_some_iff.mp h).1
      rwa [List.length_set] at this
    rw [List.getElem?_set_self hl] at h
    cases h
    exact ⟨v, List.getElem?_set_self (by rw [← R.len]; exact hl), r⟩
  · rw [List.getElem?_set_ne hj] at h
    rw [List.getElem?_set_ne hj]
    exact R.get j t e h

structure JE (S : Src) (X : Cx) (e : Expr) (u : UE) : Prop where
  ex : ∃ t : TE, PE X e t ∧ ∀ (ρ : DEnv) (σ : L2.St) (g : G) (H : Hp) (Q : UK) (P : VK), HInv S g H → RepS g H ρ σ → u ρ Q → (∀ v H', EPost S g H Q v H' → P v H') → t σ H P
structure JT (S : Src) (X : Cx) (e : Expr) (u : UT) : Prop where
  ex : ∃ t : TT, PT X e t ∧ ∀ (ρ : DEnv) (σ : L2.St) (g : G) (H : Hp) (Q : Bool → Prop) (P : Bool → Hp → Prop), HInv S g H → RepS g H ρ σ → u ρ Q → (∀ b H', TPost S g H Q b H' → P b H') → t σ H P
structure JW (S : Src) (X : Cx) (e : Expr) (u : UT) : Prop where
  ex : ∃ t : TT, PW X e t ∧ ∀ (ρ : DEnv) (σ : L2.St) (g : G) (H : Hp) (Q : Bool → Prop) (P : Bool → Hp → Prop), HInv S g H → RepS g H ρ σ → u ρ Q → (∀ b H', TPost S g H Q b H' → P b H') → t σ H P
structure JA (S : Src) (X : Cx) (es : List Expr) (u : UA) : Prop where
  ex : ∃ t : TA, PA X es t ∧ ∀ (ρ : DEnv) (σ : L2.St) (g : G) (H : Hp) (Q : List D → Prop) (P : List V → Hp → Prop), HInv S g H → RepS g H ρ σ → u ρ Q → (∀ vs H', APost S g H Q vs H' → P vs H') → t σ H P

@[simp] def uVar (i : Nat) (ρ : DEnv) (Q : UK) : Prop := match ρ[i]? with
  | some (some (_, d)) => Q false d
  | _ => False
@[simp] def uC (d : D) (_ : DEnv) (Q : UK) : Prop := Q false d
/-- a value that is True or False -/
@[simp] def isB (Q : Bool → Prop) : D → Prop
  | .bl b => Q b
  | _ => False
@[simp] def uTest (u : UE) (ρ : DEnv) (Q : (Bool → Prop)) : Prop := u ρ fun _ x => isB Q x
@[simp] def uIte (c : UT) (a b : UE) (ρ : DEnv) (Q : UK) : Prop := c ρ fun k => if k = true then a ρ Q else b ρ Q
/-- a term that simp leaves alone while another argument hangs on it -/
structure Tag {α : Type} (x : α) : Type where
/-- what is wanted behind a call: left alone until the call's promise is opened -/
def Hold (P : UK → Prop) (Q : UK) (_ : Tag Q) : Prop := P Q
theorem hold {P : UK → Prop} {Q : UK} {t : Tag Q} (h : P Q) : Hold P Q t := h
@[simp] def uAnd (a b : UT) (ρ : DEnv) (Q : (Bool → Prop)) : Prop := a ρ fun k => if k = true then b ρ Q else Q false
@[simp] def uOr (a b : UT) (ρ : DEnv) (Q : (Bool → Prop)) : Prop := a ρ fun k => if k = true then Q true else b ρ Q
@[simp] def uNot (a : UT) (ρ : DEnv) (Q : (Bool → Prop)) : Prop := a ρ fun k => Q (!k)
@[simp] def uAndV (a b : UE) (ρ : DEnv) (Q : UK) : Prop := a ρ fun _ x => isB (fun k => if k = true then b ρ Q else Q false (.bl false)) x
@[simp] def uOrV (a b : UE) (ρ : DEnv) (Q : UK) : Prop := a ρ fun _ x => isB (fun k => if k = true then Q false (.bl true) else b ρ Q) x
@[simp] def uNotV (a : UE) (ρ : DEnv) (Q : UK) : Prop := a ρ fun _ x => isB (fun k => Q false (.bl (!k))) x
@[simp] def uNil (_ : DEnv) (Q : (List D → Prop)) : Prop := Q []
@[simp] def uCons (a : UE) (r : UA) (ρ : DEnv) (Q : (List D → Prop)) : Prop := a ρ fun _ x => r ρ fun xs => Q (x :: xs)
@[simp] def uTup (a : UA) (ρ : DEnv) (Q : UK) : Prop := a ρ fun xs => xs.length ≤ sizeLine ∧ Q false (.tup xs)
@[simp] def uLst (a : UA) (ρ : DEnv) (Q : UK) : Prop := a ρ fun xs => xs.length ≤ sizeLine ∧ Q true (.lst xs)
@[simp] def u2 (f : D → D → UK → Prop) (a b : UE) (ρ : DEnv) (Q : UK) : Prop := a ρ fun _ x => b ρ fun _ y => f x y Q
@[simp] def u1 (f : D → UK → Prop) (a : UE) (ρ : DEnv) (Q : UK) : Prop := a ρ fun _ x => f x Q
@[simp] def uF (f : List D → UK → Prop) (a : UA) (ρ : DEnv) (Q : UK) : Prop := a ρ fun xs => f xs Q

section
variable {S : Src} {X : Cx} {a b c : Expr} {pos : Pos} {ua ub uc : UE} {ta tb : UT}
theorem je_var (i : Nat) {x : Str} (hN : X.N[i]? = some x := by rfl) (hv : Vis X.env.scope x := by first | exact Or.inl rfl | exact Or.inr (Or.inl rfl) | exact Or.inr (Or.inr rfl)) (hd : (x == ("__debug__" : Str)) = false := by decide)
    (hcd : (x == ("__classdict__" : Str)) = false := by decide) : JE S X (.Name x pos) (uVar i) := by
  refine ⟨tVar i, pv i hN hv hd hcd, fun ρ σ g H Q P I R h hP => ?_⟩
  unfold uVar at h
  cases e : ρ[i]? with
  | none => rw [e] at h; exact h.elim
  | some o =>
    rw [e] at h
    cases o with
    | none => exact h.elim
    | some p =>
      obtain ⟨t, d⟩ := p
      obtain ⟨v, hv, r⟩ := R.get i t d e
      exact ⟨v, hv, hP v H (EPost.val I r h)⟩
theorem je_C {e : Expr} {d : D} {v : V} (h : PE X e (tC v)) (r : ∀ g H, Rep g H d v) : JE S X e (uC d) :=
  ⟨tC v, h, fun ρ σ g H Q P I R h hP => hP v H (EPost.val I (r g H) h)⟩
theorem je_int {i j pos} : JE S X (.Constant (.int i) j pos) (uC (.int i)) := je_C pe_int fun _ _ => by rw [Rep]
theorem je_bl {b j pos} : JE S X (.Constant (.bool b) j pos) (uC (.bl b)) := je_C pe_bl fun _ _ => by rw [Rep]
theorem je_non {j pos} : JE S X (.Constant .none j pos) (uC .non) := je_C pe_non fun _ _ => by rw [Rep]
theorem je_str {x j pos} : JE S X (.Constant (.str x) j pos) (uC (.str x)) := je_C pe_str fun _ _ => by rw [Rep]
/-- a module's name that is an int -/
theorem je_glob {x : Str} {i : Int} {t : Tok} (hg : Gl X x) (hm : X.mg x = some (.int i t)) (hd : (x == ("__debug__" : Str)) = false := by decide) : JE S X (.Name x pos) (uC (.int i)) :=
  je_C (v := .int i) (pe_glob (v := .int i) hg hm ⟨t, rfl⟩ hd) fun _ _ => by rw [Rep]

/-! ### lifting a rule by values -/
def Lift2 (S : Src) (r : R2) (f : D → D → UK → Prop) : Prop :=
  ∀ (g : G) (H : Hp) (x y : V) (dx dy : D) (Q : UK) (P : VK), HInv S g H → Rep g H dx x → Rep g H dy y → f dx dy Q → (∀ v H', EPost S g H Q v H' → P v H') → r x y H P
def Lift1 (S : Src) (r : V → Hp → VK → Prop) (f : D → UK → Prop) : Prop :=
  ∀ (g : G) (H : Hp) (x : V) (dx : D) (Q : UK) (P : VK), HInv S g H → Rep g H dx x → f dx Q → (∀ v H', EPost S g H Q v H' → P v H') → r x H P
def LiftA (S : Src) (r : List V → Hp → VK → Prop) (f : List D → UK → Prop) : Prop :=
  ∀ (g : G) (H : Hp) (xs : List V) (ds : List D) (Q : UK) (P : VK), HInv S g H → RepL g H ds xs → f ds Q → (∀ v H', EPost S g H Q v H' → P v H') → r xs H P
theorem two {r : R2} {f : D → D → UK → Prop} (hl : Lift2 S r f) (ha : JE S X a ua) (hb : JE S X b ub) : ∃ t1 t2 : TE, PE X a t1 ∧ PE X b t2 ∧ ∀ (ρ : DEnv) (σ : L2.St) (g : G) (H : Hp) (Q : UK) (P : VK), HInv S g H → RepS g H ρ σ → u2 f ua ub ρ Q → (∀ v H', EPost S g H Q v H' → P v H') → tOp r t1 t2 σ H P := by
  obtain ⟨t1, p1, h1⟩ := ha.ex
  obtain ⟨t2, p2, h2⟩ := hb.ex
  refine ⟨t1, t2, p1, p2, fun ρ σ g H Q P I R h hP => ?_⟩
  refine h1 ρ σ g H _ _ I R h fun x H1 e1 => ?_
  obtain ⟨g1, dx, s1, I1, r1, _, q1⟩ := e1.rep
  refine h2 ρ σ g1 H1 _ _ I1 (R.step I s1) q1 fun y H2 e2 => ?_
  obtain ⟨g2, dy, s2, I2, r2, _, q2⟩ := e2.rep
  exact hl g2 H2 x y dx dy Q P I2 (r1.step I1 s2) r2 q2 fun v H' e => hP v H' (e.after (s1.trans s2))
theorem je_op {op : Operator} {r : R2} {f : D → D → UK → Prop} (ho : OpR X (binaryOp op) r) (hl : Lift2 S r f) (ha : JE S X a ua) (hb : JE S X b ub) : JE S X (.BinOp a op b pos) (u2 f ua ub) := by
  obtain ⟨t1, t2, p1, p2, h⟩ := two hl ha hb
  exact ⟨tOp r t1 t2, pe_op ho p1 p2, h⟩
theorem je_cmp {op : CmpOp} {r : R2} {f : D → D → UK → Prop} (ho : OpR X (compareOp op) r) (hl : Lift2 S r f) (ha : JE S X a ua) (hb : JE S X b ub) (hm : behindInMarks op b = false) : JE S X (.Compare a [op] [b] pos) (u2 f ua ub) := by
  obtain ⟨t1, t2, p1, p2, h⟩ := two hl ha hb
  exact ⟨tOp r t1 t2, pe_cmpR ho p1 p2 hm, h⟩
theorem EPost.isB {g : G} {H H' : Hp} {Q : Bool → Prop} {v : V} (e : EPost S g H (fun _ x => isB Q x) v H') : ∃ k, v = .bl k ∧ TPost S g H Q k H' := by
  obtain ⟨g', d, s, I, r, _, q⟩ := e.rep
  cases d with
  | bl k =>
    rw [Rep] at r
    exact ⟨k, r, g', s, I, q⟩
  | _ => exact (show False from q).elim
theorem jt_cmp {op : CmpOp} {r : R2} {f : D → D → UK → Prop} (ho : OpR X (compareOp op) r) (hl : Lift2 S r f) (ha : JE S X a ua) (hb : JE S X b ub) (hm : behindInMarks op b = false) : JT S X (.Compare a [op] [b] pos) (uTest (u2 f ua ub)) := by
  obtain ⟨t1, t2, p1, p2, h⟩ := two hl ha hb
  refine ⟨_, pt_cmpR ho p1 p2 hm, fun ρ σ g H Q P I R hu hP => h ρ σ g H _ _ I R hu fun v H' e => ?_⟩
  obtain ⟨k, rfl, tp⟩ := e.isB
  exact ⟨k, rfl, hP k H' tp⟩
theorem je_ix {r : R2} {f : D → D → UK → Prop} (hr : IxR X r) (hl : Lift2 S r f) (ha : JE S X a ua) (hb : JE S X b ub) (hs : PlainIx b) : JE S X (.Subscript a b pos) (u2 f ua ub) := by
  obtain ⟨t1, t2, p1, p2, h⟩ := two hl ha hb
  exact ⟨tOp r t1 t2, pe_ix hr p1 p2 hs, h⟩
theorem one {r : V → Hp → VK → Prop} {f : D → UK → Prop} (hl : Lift1 S r f) (ha : JE S X a ua) : ∃ t1 : TE, PE X a t1 ∧ ∀ (ρ : DEnv) (σ : L2.St) (g : G) (H : Hp) (Q : UK) (P : VK), HInv S g H → RepS g H ρ σ → u1 f ua ρ Q → (∀ v H', EPost S g H Q v H' → P v H') → tUn r t1 σ H P := by
  obtain ⟨t1, p1, h1⟩ := ha.ex
  refine ⟨t1, p1, fun ρ σ g H Q P I R h hP => ?_⟩
  refine h1 ρ σ g H _ _ I R h fun x H1 e1 => ?_
  obtain ⟨g1, dx, s1, I1, r1, _, q1⟩ := e1.rep
  exact hl g1 H1 x dx Q P I1 r1 q1 fun v H' e => hP v H' (e.after s1)
theorem je_un {op : UnaryOp} {r : V → Hp → VK → Prop} {f : D → UK → Prop} (ho : UnR X (unaryOp op) r) (hl : Lift1 S r f) (ha : JE S X a ua) : JE S X (.UnaryOp op a pos) (u1 f ua) := by
  obtain ⟨t1, p1, h⟩ := one hl ha
  exact ⟨tUn r t1, pe_un ho p1, h⟩

/-! ### tests -/
theorem jt_val {e : Expr} {u : UE} (h : JE S X e u) (he : ∀ whole, isTrue e X.env whole = (do let v ← whole; standAt e.pos; holding [v] (truthy v)) := by intro _; rfl) : JT S X e (uTest u) := by
  obtain ⟨t1, p1, h1⟩ := h.ex
  refine ⟨_, pt_val p1 he, fun ρ σ g H Q P I R hu hP => h1 ρ σ g H _ _ I R hu fun v H' e => ?_⟩
  obtain ⟨k, rfl, tp⟩ := e.isB
  exact ⟨k, rfl, hP k H' tp⟩
theorem JW.jt {e : Expr} {u : UT} (h : JW S X e u) : JT S X e u := by
  obtain ⟨t, p, h⟩ := h.ex
  exact ⟨t, p.pt, h⟩
variable {rest : List Expr}
theorem jw_and1 (h : JT S X a ta) : JW S X (.BoolOp .And [a] pos) ta := by
  obtain ⟨t, p, h⟩ := h.ex
  exact ⟨t, pw_and1 p, h⟩
theorem jw_or1 (h : JT S X a ta) : JW S X (.BoolOp .Or [a] pos) ta := by
  obtain ⟨t, p, h⟩ := h.ex
  exact ⟨t, pw_or1 p, h⟩
theorem TPost.after {g g1 : G} {H H1 H' : Hp} {Q : Bool → Prop} {k : Bool} (s : Step g H g1 H1) (e : TPost S g1 H1 Q k H') : TPost S g H Q k H' := by
  obtain ⟨g', s', I, q⟩ := e
  exact ⟨g', s.trans s', I, q⟩
theorem jw_and (ha : JT S X a ta) (hb : JW S X (.BoolOp .And (b :: rest) pos) tb) : JW S X (.BoolOp .And (a :: b :: rest) pos) (uAnd ta tb) := by
  obtain ⟨t, p, h⟩ := ha.ex
  obtain ⟨t2, p2, h2⟩ := hb.ex
  refine ⟨_, pw_and p p2, fun ρ σ g H Q P I R hu hP => h ρ σ g H _ _ I R hu fun k H1 e => ?_⟩
  obtain ⟨g1, s1, I1, q1⟩ := e
  cases k with
  | true => exact h2 ρ σ g1 H1 Q P I1 (R.step I s1) q1 fun k H' e => hP k H' (e.after s1)
  | false => exact hP false H1 ⟨g1, s1, I1, q1⟩
theorem jw_or (ha : JT S X a ta) (hb : JW S X (.BoolOp .Or (b :: rest) pos) tb) : JW S X (.BoolOp .Or (a :: b :: rest) pos) (uOr ta tb) := by
  obtain ⟨t, p, h⟩ := ha.ex
  obtain ⟨t2, p2, h2⟩ := hb.ex
  refine ⟨_, pw_or p p2, fun ρ σ g H Q P I R hu hP => h ρ σ g H _ _ I R hu fun k H1 e => ?_⟩
  obtain ⟨g1, s1, I1, q1⟩ := e
  cases k with
  | false => exact h2 ρ σ g1 H1 Q P I1 (R.step I s1) q1 fun k H' e => hP k H' (e.after s1)
  | true => exact hP true H1 ⟨g1, s1, I1, q1⟩
theorem jt_not (ha : JT S X a ta) : JT S X (.UnaryOp .Not a pos) (uNot ta) := by
  obtain ⟨t, p, h⟩ := ha.ex
  refine ⟨_, pt_not p, fun ρ σ g H Q P I R hu hP => h ρ σ g H _ _ I R hu fun k H1 e => hP _ _ e⟩
theorem je_one {op} {u : UE} (h : JE S X a u) : JE S X (.BoolOp op [a] pos) u := by
  obtain ⟨t, p, h⟩ := h.ex
  exact ⟨t, pe_one p, h⟩
theorem je_and (ha : JE S X a ua) (hb : JE S X (.BoolOp .And (b :: rest) pos) ub) : JE S X (.BoolOp .And (a :: b :: rest) pos) (uAndV ua ub) := by
  obtain ⟨t, p, h⟩ := ha.ex
  obtain ⟨t2, p2, h2⟩ := hb.ex
  refine ⟨_, pe_and p p2, fun ρ σ g H Q P I R hu hP => h ρ σ g H _ _ I R hu fun v H1 e => ?_⟩
  obtain ⟨k, rfl, g1, s1, I1, q1⟩ := e.isB
  refine ⟨k, rfl, ?_⟩
  cases k with
  | true => exact h2 ρ σ g1 H1 Q P I1 (R.step I s1) q1 fun v H' e => hP v H' (e.after s1)
  | false => exact hP _ _ ((EPost.val (d := .bl false) I1 (by rw [Rep]) q1).after s1)
theorem je_or (ha : JE S X a ua) (hb : JE S X (.BoolOp .Or (b :: rest) pos) ub) : JE S X (.BoolOp .Or (a :: b :: rest) pos) (uOrV ua ub) := by
  obtain ⟨t, p, h⟩ := ha.ex
  obtain ⟨t2, p2, h2⟩ := hb.ex
  refine ⟨_, pe_or p p2, fun ρ σ g H Q P I R hu hP => h ρ σ g H _ _ I R hu fun v H1 e => ?_⟩
  obtain ⟨k, rfl, g1, s1, I1, q1⟩ := e.isB
  refine ⟨k, rfl, ?_⟩
  cases k with
  | false => exact h2 ρ σ g1 H1 Q P I1 (R.step I s1) q1 fun v H' e => hP v H' (e.after s1)
  | true => exact hP _ _ ((EPost.val (d := .bl true) I1 (by rw [Rep]) q1).after s1)
theorem je_not (ha : JE S X a ua) : JE S X (.UnaryOp .Not a pos) (uNotV ua) := by
  obtain ⟨t, p, h⟩ := ha.ex
  refine ⟨_, pe_not p, fun ρ σ g H Q P I R hu hP => h ρ σ g H _ _ I R hu fun v H1 e => ?_⟩
  obtain ⟨k, rfl, g1, s1, I1, q1⟩ := e.isB
  exact ⟨k, rfl, hP _ _ ((EPost.val (d := .bl (!k)) I1 (by rw [Rep]) q1).after s1)⟩
theorem je_ifExp (hc : JT S X c ta) (ha : JE S X a ua) (hb : JE S X b ub) : JE S X (.IfExp c a b pos) (uIte ta ua ub) := by
  obtain ⟨t, p, h⟩ := hc.ex
  obtain ⟨t1, p1, h1⟩ := ha.ex
  obtain ⟨t2, p2, h2⟩ := hb.ex
  refine ⟨_, pe_ifExp p p1 p2, fun ρ σ g H Q P I R hu hP => h ρ σ g H _ _ I R hu fun k H1 e => ?_⟩
  obtain ⟨g1, s1, I1, q1⟩ := e
  cases k with
  | true => exact h1 ρ σ g1 H1 Q P I1 (R.step I s1) q1 fun v H' e => hP v H' (e.after s1)
  | false => exact h2 ρ σ g1 H1 Q P I1 (R.step I s1) q1 fun v H' e => hP v H' (e.after s1)

/-! ### arguments, displays -/
theorem ja_nil : JA S X [] uNil := ⟨tNil, pa_nil, fun ρ σ g H Q P I R hu hP => hP [] H ⟨g, [], Step.refl g H, I, RepL.nil, hu⟩⟩
theorem ja_cons {es : List Expr} {ur : UA} (ha : JE S X a ua) (hr : JA S X es ur) (hs : starEach (a :: es) X.env = (false, eval a X.env) :: starEach es X.env := by rfl) : JA S X (a :: es) (uCons ua ur) := by
  obtain ⟨t, p, h⟩ := ha.ex
  obtain ⟨t2, p2, h2⟩ := hr.ex
  refine ⟨_, pa_cons p p2 hs, fun ρ σ g H Q P I R hu hP => h ρ σ g H _ _ I R hu fun v H1 e => ?_⟩
  obtain ⟨g1, d, s1, I1, r1, _, q1⟩ := e.rep
  refine h2 ρ σ g1 H1 _ _ I1 (R.step I s1) q1 fun vs H2 e2 => ?_
  obtain ⟨g2, ds, s2, I2, r2, q2⟩ := e2
  exact hP (v :: vs) H2 ⟨g2, d :: ds, s1.trans s2, I2, RepL.cons (r1.step I1 s2) r2, q2⟩
theorem je_tup {es : List Expr} {u : UA} {k} (h : JA S X es u) : JE S X (.Tuple es k pos) (uTup u) := by
  obtain ⟨t, p, h⟩ := h.ex
  refine ⟨_, pe_tup p, fun ρ σ g H Q P I R hu hP => h ρ σ g H _ _ I R hu fun vs H1 e => ?_⟩
  obtain ⟨g1, ds, s1, I1, r1, hz, q1⟩ := e
  exact ⟨by rw [r1.len]; exact hz, fun p np => hP _ _ ((EPost.newT I1 np r1 q1).after s1)⟩
theorem je_lst {es : List Expr} {u : UA} (h : JA S X es u) : JE S X (.List es pos) (uLst u) := by
  obtain ⟨t, p, h⟩ := h.ex
  refine ⟨_, pe_lst p, fun ρ σ g H Q P I R hu hP => h ρ σ g H _ _ I R hu fun vs H1 e => ?_⟩
  obtain ⟨g1, ds, s1, I1, r1, hz, q1⟩ := e
  exact ⟨by rw [r1.len]; exact hz, fun p np => hP _ _ ((EPost.newL I1 np r1 q1).after s1)⟩

/-! ### calls of built-ins -/
theorem liftCB {r : List V → Hp → VK → Prop} {f : List D → UK → Prop} {t : TA} {u : UA} {e : List Expr} (hl : LiftA S r f)
    (h : ∀ (ρ : DEnv) (σ : L2.St) (g : G) (H : Hp) (Q : List D → Prop) (P : List V → Hp → Prop), HInv S g H → RepS g H ρ σ → u ρ Q → (∀ vs H', APost S g H Q vs H' → P vs H') → t σ H P) :
    ∀ (ρ : DEnv) (σ : L2.St) (g : G) (H : Hp) (Q : UK) (P : VK), HInv S g H → RepS g H ρ σ → uF f u ρ Q → (∀ v H', EPost S g H Q v H' → P v H') → tCB r t σ H P := by
  intro ρ σ g H Q P I R hu hP
  refine h ρ σ g H _ _ I R hu fun vs H1 e => ?_
  obtain ⟨g1, ds, s1, I1, r1, q1⟩ := e
  exact hl g1 H1 vs ds Q P I1 r1 q1 fun v H' e => hP v H' (e.after s1)
theorem je_callB {id : String} {x : Str} {p : Pos} {es : List Expr} {r : List V → Hp → VK → Prop} {f : List D → UK → Prop} {u : UA} (hc : CallR X (.builtin id) r) (hl : LiftA S r f) (hg : Gl X x) (hm : X.mg x = none) (hv : bootBuiltins x = some (.builtin id)) (ha : JA S X (a :: es) u)
    (hn : x ≠ "__name__" := by decide) (hdb : (x == ("__debug__" : Str)) = false := by decide) (hs : starEach (a :: es) X.env = (false, eval a X.env) :: starEach es X.env := by rfl) (hp : (backTo pos (starEach es X.env)).any (·.1) = false := by rfl) :
    JE S X (.Call (.Name x p) (a :: es) [] pos) (uF f u) := by
  obtain ⟨t, p1, h⟩ := ha.ex
  exact ⟨_, pe_callB hc hg hm hv p1 hn hdb hs hp, liftCB (e := []) hl h⟩
theorem je_callTy {T : String} {x : Str} {p : Pos} {es : List Expr} {r : List V → Hp → VK → Prop} {f : List D → UK → Prop} {u : UA} (hc : CallR X (.type T) r) (hl : LiftA S r f) (hg : Gl X x) (hm : X.mg x = none) (hv : bootBuiltins x = some (.type T)) (ha : JA S X (a :: es) u)
    (hn : x ≠ "__name__" := by decide) (hdb : (x == ("__debug__" : Str)) = false := by decide) (hs : starEach (a :: es) X.env = (false, eval a X.env) :: starEach es X.env := by rfl) (hp : (backTo pos (starEach es X.env)).any (·.1) = false := by rfl) :
    JE S X (.Call (.Name x p) (a :: es) [] pos) (uF f u) := by
  obtain ⟨t, p1, h⟩ := ha.ex
  exact ⟨_, pe_callTy hc hg hm hv p1 hn hdb hs hp, liftCB (e := []) hl h⟩
end
end DL

/-! DLOps: operators and built-ins over data. -/
namespace DL
open PySem PySem.Spec PyProof.Rows L2

/-! ### ints -/
@[simp] def fI (C : Int → Int → Prop) (k : Int → Int → Int) : D → D → UK → Prop
  | .int i, .int j, Q => C i j ∧ Q false (.int (k i j))
  | _, _, _ => False
@[simp] def fB (k : Int → Int → Bool) : D → D → UK → Prop
  | .int i, .int j, Q => Q false (.bl (k i j))
  | _, _, _ => False
theorem lift_I {S : Src} {C : Int → Int → Prop} {k : Int → Int → Int} : Lift2 S (rI C fun i j => .int (k i j)) (fI C k) := by
  intro g H x y dx dy Q P I rx ry h hP
  cases dx with
  | int i =>
    cases dy with
    | int j =>
      rw [Rep] at rx ry
      exact ⟨i, j, rx, ry, h.1, hP _ _ (EPost.val (d := .int (k i j)) I (by rw [Rep]) h.2)⟩
    | _ => exact h.elim
  | _ => exact h.elim
theorem lift_I0 {S : Src} {k : Int → Int → Int} : Lift2 S (rI0 fun i j => .int (k i j)) (fI (fun _ _ => True) k) := by
  intro g H x y dx dy Q P I rx ry h hP
  cases dx with
  | int i =>
    cases dy with
    | int j =>
      rw [Rep] at rx ry
      exact ⟨i, j, rx, ry, hP _ _ (EPost.val (d := .int (k i j)) I (by rw [Rep]) h.2)⟩
    | _ => exact h.elim
  | _ => exact h.elim
theorem lift_B {S : Src} {k : Int → Int → Bool} : Lift2 S (rI0 fun i j => .bl (k i j)) (fB k) := by
  intro g H x y dx dy Q P I rx ry h hP
  cases dx with
  | int i =>
    cases dy with
    | int j =>
      rw [Rep] at rx ry
      exact ⟨i, j, rx, ry, hP _ _ (EPost.val (d := .bl (k i j)) I (by rw [Rep]) h)⟩
    | _ => exact h.elim
  | _ => exact h.elim
@[simp] def fNeg : D → UK → Prop
  | .int i, Q => Q false (.int (-i))
  | _, _ => False
theorem lift_neg {S : Src} : Lift1 S (rU fun i => .int (-i)) fNeg := by
  intro g H x dx Q P I rx h hP
  cases dx with
  | int i =>
    rw [Rep] at rx
    exact ⟨i, rx, hP _ _ (EPost.val (d := .int (-i)) I (by rw [Rep]) h)⟩
  | _ => exact h.elim

/-! ### + over ints, lists, tuples, texts -/
@[simp] def fAdd : D → D → UK → Prop
  | .int i, .int j, Q => Q false (.int (i + j))
  | .lst a, .lst b, Q => a.length + b.length ≤ sizeLine ∧ Q true (.lst (a ++ b))
  | .tup a, .tup b, Q => a.length + b.length ≤ sizeLine ∧ Q false (.tup (a ++ b))
  | .str a, .str b, Q => a.length + b.length ≤ sizeLine ∧ Q false (.str (a ++ b))
  | _, _, _ => False
/-- list + list, as they are read -/
def rCatL : R2 := fun x y H Q => ∃ l b xs zs, x = .ref l ∧ y = .ref b ∧ Rd H l (.lst xs) ∧ Rd H b (.lst zs) ∧ xs.length + zs.length ≤ sizeLine ∧ ∀ p, H p = none → Q (.ref p) (upd H p (.lst (xs ++ zs)))
theorem rd_lst {X : Cx} {pins : List (Addr × Obj)} {σ : L2.St} {H : Hp} {s : Shared} (I : Inv X pins σ H s) {l : Addr} {xs : List V} (h : Rd H l (.lst xs)) :
    xs.length ≤ sizeLine ∧ ∃ (its : List Value) (n : Nat), Vals xs its ∧ xs.length = its.length ∧ s.heap.get? l = some { cls := .type "list", data := .seq its.toArray n } := by
  obtain ⟨z, its, n, r, e⟩ := h.ok I.hok
  exact ⟨z, its, n, r, r.length, e⟩
theorem op_catL {X : Cx} : OpR X (binaryOp .Add) rCatL := by
  intro pins s σ H x y v u Q I rx ry h
  obtain ⟨l, b, xs, zs, rfl, rfl, hH, hB, hz, q⟩ := h
  cases rx
  cases ry
  obtain ⟨z, its, n, r, hl, e⟩ := rd_lst I hH
  obtain ⟨z2, its2, n2, r2, hl2, e2⟩ := rd_lst I hB
  refine PySem.P.add_list e e2 ?_ (by rw [List.size_toArray, List.size_toArray]; omega)
  have ea : its.toArray ++ its2.toArray = (its ++ its2).toArray := by simp
  rw [ea]
  exact ⟨.ref _, _, I.lnew (t' := s.toks) (r.append r2) (by rw [List.length_append]; omega), rfl, q _ I.fresh⟩
def rAdd4 (K : PySem.W.Frag) : R2 := fun x y H Q => rI0 (fun i j => .int (i + j)) x y H Q ∨ rCatL x y H Q ∨ rCatA K x y H Q ∨ (∃ i j, x = .str i ∧ y = .str j ∧ i.length + j.length ≤ sizeLine ∧ Q (.str (i ++ j)) H)
theorem op_add4 {X : Cx} : OpR X (binaryOp .Add) (rAdd4 X.K) := op_add.or (op_catL.or (op_catA.or op_add_str))
theorem lift_add {S : Src} {K : PySem.W.Frag} : Lift2 S (rAdd4 K) fAdd := by
  intro g H x y dx dy Q P I rx ry h hP
  cases dx with
  | int i =>
    cases dy with
    | int j =>
      rw [Rep] at rx ry
      exact .inl ⟨i, j, rx, ry, hP _ _ (EPost.val (d := .int (i + j)) I (by rw [Rep]) h)⟩
    | _ => exact h.elim
  | str i =>
    cases dy with
    | str j =>
      rw [Rep] at rx ry
      exact .inr (.inr (.inr ⟨i, j, rx, ry, h.1, hP _ _ (EPost.val (d := .str (i ++ j)) I (by rw [Rep]) h.2)⟩))
    | _ => exact h.elim
  | lst a =>
    cases dy with
    | lst b =>
      rw [Rep] at rx ry
      obtain ⟨p, xs, rfl, r1, l1⟩ := rx
      obtain ⟨q, ys, rfl, r2, l2⟩ := ry
      exact .inr (.inl ⟨p, q, xs, ys, rfl, rfl, r1.rd, r2.rd, by rw [l1.len, l2.len]; exact h.1, fun n hn => hP _ _ (EPost.newL I hn (l1.append l2) h.2)⟩)
    | _ => exact h.elim
  | tup a =>
    cases dy with
    | tup b =>
      have rx0 := rx
      have ry0 := ry
      rw [Rep] at rx ry
      obtain ⟨p, xs, rfl, r1, l1⟩ := rx
      obtain ⟨q, ys, rfl, r2, l2⟩ := ry
      refine .inr (.inr (.inl ⟨p, q, xs, ys, rfl, rfl, r1.sq, r2.sq, by rw [l1.len, l2.len]; exact h.1, fun e => ?_, fun _ e => ?_, fun _ _ n hn => hP _ _ (EPost.newT I hn (l1.append l2) h.2)⟩))
      · subst e
        have : a = [] := List.eq_nil_of_length_eq_zero l1.len.symm
        subst this
        exact hP _ _ (EPost.val I ry0 h.2)
      · subst e
        have : b = [] := List.eq_nil_of_length_eq_zero l2.len.symm
        subst this
        refine hP _ _ (EPost.val I rx0 ?_)
        have := h.2
        rwa [List.append_nil] at this
    | _ => exact h.elim
  | _ => exact (show False from h).elim

/-! ### * over ints, list * int, tuple * int -/
@[simp] def fMul : D → D → UK → Prop
  | .int i, .int j, Q => CMul i j ∧ Q false (.int (i * j))
  | .lst a, .int k, Q => (-(2 ^ 62) ≤ k ∧ k < 2 ^ 62 ∧ a.length * k.toNat ≤ sizeLine) ∧ Q true (.lst (List.replicate k.toNat a).flatten)
  | .tup a, .int k, Q => (a ≠ [] ∧ 1 ≤ k ∧ k ≤ 1000 ∧ a.length ≤ 1000) ∧ Q false (.tup (List.replicate k.toNat a).flatten)
  | _, _, _ => False
def rRepL : R2 := fun x y H Q => ∃ l k xs, x = .ref l ∧ y = .int k ∧ Rd H l (.lst xs) ∧ -(2 ^ 63) ≤ k ∧ k < 2 ^ 63 ∧ xs.length * k.toNat ≤ sizeLine ∧
  ∀ p, H p = none → Q (.ref p) (upd H p (.lst (List.replicate k.toNat xs).flatten))
theorem op_repL {X : Cx} : OpR X (binaryOp .Mult) rRepL := by
  intro pins s σ H x y v u Q I rx ry h
  obtain ⟨l, k, xs, rfl, rfl, hH, h1, h2, hz, q⟩ := h
  cases rx
  obtain ⟨t, rfl⟩ := ry
  obtain ⟨z, its, n, r, hl, e⟩ := rd_lst I hH
  have hlen : its.toArray.size * k.toNat ≤ sizeLine := by rw [List.size_toArray, ← hl]; exact hz
  have hcap : ¬ its.toArray.size * k.toNat > (2 ^ 63 - 1) / 8 := by
    have : (sizeLine : Nat) ≤ (2 ^ 63 - 1) / 8 := by decide
    omega
  have hfit : ¬ (!Builtin.List.listFitsIndex k) = true := by
    rw [fitsIndex_both h1 h2]
    exact Bool.false_ne_true
  have hlong : ¬ Builtin.List.listTooLong (its.toArray.size * k.toNat) = true := by
    rw [notLongL hlen]
    exact Bool.false_ne_true
  have hnew : List.foldl (fun x1 x2 => x1 ++ x2) #[] (List.replicate (if its.toArray.isEmpty = true then 0 else k.toNat) its.toArray) = (List.replicate k.toNat its).flatten.toArray := by
    have f0 : ∀ m : Nat, List.foldl (fun x1 x2 => x1 ++ x2) #[] (List.replicate m its.toArray) = (List.replicate m its).flatten.toArray := fun m => by
      have := foldl_rep its m []
      rw [List.nil_append] at this
      exact this
    rw [f0]
    cases its with
    | nil => simp
    | cons a r' => rw [if_neg (by simp)]
  refine wpAny_binaryOp_repeat_ref (T := "list") (U := "int") (by decide) ⟨_, e, rfl⟩ (fun s' => typeIs_int s' k t) noFill_list_mul F.fills_int_mul F.slot_int_rmul repeat_list F.slot_int_index.lookup
    (call_meets F.slot_int_rmul (typeIs_int s k t) F.entry_int_rmul (F.args_int_rmul_2 _ _) (int___rmul___int_list k t l its.toArray n)
      ⟨e, rfl, ⟨_, e, rfl⟩, call_meets F.slot_list_mul ⟨_, e, rfl⟩ F.entry_list_mul (F.args_list_mul_2 _ _) (AutoListH.list___mul___list_int_3 l its.toArray n k t hfit hcap hlong) ⟨e, ?_⟩⟩)
  rw [hnew]
  exact ⟨.ref _, _, I.lnew (t' := s.toks) (r.rep k.toNat) (by rw [PyProof.Rows.lm_len_rep_flat, Nat.mul_comm]; exact hz), rfl, q _ I.fresh⟩
/-- tuple * 1: the tuple itself -/
theorem tuple_mul1 (l : Addr) (items : Array Value) (n : Nat) (sl : Array (Option Value)) (dd : Option Addr) (x : Int) (u : Tok) (c0 : (decide (x < -(2 ^ 63)) || decide (x ≥ 2 ^ 63)) = false) (c1 : (items.isEmpty || x == 1) = true) :
    Meets (Builtin.«tuple.__mul__» ⟨[.ref l, .int x u], []⟩) (fun _ R s => s.heap.get? l = some { cls := .type "tuple", dict := dd, data := .seq items n, slots := sl } ∧
      R (.ok (.ret (Value.ref l))) s) :=
  .of_wp fun prog w A R s h => by
    obtain ⟨hp, g, d, tk, os⟩ := s
    obtain ⟨hl, h⟩ := h
    have f1 := AutoSeq1.idx_int
    wp_walk using wpAny_loadPart' hl
    repeat (first
      | (refine wpAny_ite_false (decide_eq_false (by rw [c0]; exact Bool.false_ne_true)) ?_; wp_walk using wpAny_loadPart' hl)
      | (refine wpAny_ite_true (decide_eq_true (by rw [c1])) ?_; wp_walk using wpAny_loadPart' hl))
    exact ⟨_, rfl, h⟩
def rRepT1 (K : PySem.W.Frag) : R2 := fun x y H Q => ∃ l xs, x = .ref l ∧ y = .int 1 ∧ SqT K H l xs ∧ xs ≠ [] ∧ Q (.ref l) H
theorem op_repT1 {X : Cx} : OpR X (binaryOp .Mult) (rRepT1 X.K) := by
  intro pins s σ H x y v u Q I rx ry h
  obtain ⟨l, xs, rfl, rfl, hT, hne, q⟩ := h
  cases rx
  obtain ⟨t, rfl⟩ := ry
  obtain ⟨its, r, ⟨⟨cls, dd, data, sl⟩, ho, hc, n, hd⟩, hs⟩ := I.tuple hT
  simp only at hc hd
  subst hc hd
  have c0 : (decide ((1 : Int) < -(2 ^ 63)) || decide ((1 : Int) ≥ 2 ^ 63)) = false := by decide
  have c1 : (its.toArray.isEmpty || (1 : Int) == 1) = true := by simp
  exact wpAny_binaryOp_repeat_ref (T := "tuple") (U := "int") (by decide) ⟨_, ho, rfl⟩ (fun s' => typeIs_int s' 1 t) noFill_tuple_mul F.fills_int_mul F.slot_int_rmul repeat_tuple F.slot_int_index.lookup
    (call_meets F.slot_int_rmul (typeIs_int s 1 t) F.entry_int_rmul (F.args_int_rmul_2 _ _) (int_rmul_tuple 1 t l its.toArray n dd sl)
      ⟨ho, rfl, ⟨_, ho, rfl⟩, call_meets F.slot_tuple_mul ⟨_, ho, rfl⟩ F.entry_tuple_mul (F.args_tuple_mul_2 _ _) (tuple_mul1 l its.toArray n sl dd 1 t c0 c1) ⟨ho, ⟨.ref l, H, I, rfl, q⟩⟩⟩)
def rMul4 (K : PySem.W.Frag) : R2 := fun x y H Q => rI CMul (fun i j => .int (i * j)) x y H Q ∨ rRepL x y H Q ∨ rRepT K x y H Q ∨ rRepT1 K x y H Q
theorem op_mul4 {X : Cx} : OpR X (binaryOp .Mult) (rMul4 X.K) := op_mul.or (op_repL.or (op_repT.or op_repT1))
theorem RepL.rep {g : G} {H : Hp} {ds : List D} {vs : List V} (h : RepL g H ds vs) : ∀ k : Nat, RepL g H (List.replicate k ds).flatten (List.replicate k vs).flatten
  | 0 => by simp only [List.replicate_zero, List.flatten_nil]; exact RepL.nil
  | k + 1 => by
    simp only [List.replicate_succ, List.flatten_cons]
    exact h.append (RepL.rep h k)
theorem lift_mul {S : Src} {K : PySem.W.Frag} : Lift2 S (rMul4 K) fMul := by
  intro g H x y dx dy Q P I rx ry h hP
  cases dx with
  | int i =>
    cases dy with
    | int j =>
      rw [Rep] at rx ry
      exact .inl ⟨i, j, rx, ry, h.1, hP _ _ (EPost.val (d := .int (i * j)) I (by rw [Rep]) h.2)⟩
    | _ => exact h.elim
  | lst a =>
    cases dy with
    | int k =>
      rw [Rep] at rx
      rw [Rep] at ry
      obtain ⟨p, xs, rfl, r1, l1⟩ := rx
      obtain ⟨⟨h1, h2, h3⟩, hq⟩ := h
      exact .inr (.inl ⟨p, k, xs, rfl, ry, r1.rd, by omega, by omega, by rw [l1.len]; exact h3, fun n hn => hP _ _ (EPost.newL I hn (l1.rep _) hq)⟩)
    | _ => exact h.elim
  | tup a =>
    cases dy with
    | int k =>
      have rx0 := rx
      rw [Rep] at rx
      rw [Rep] at ry
      obtain ⟨p, xs, rfl, r1, l1⟩ := rx
      obtain ⟨⟨h0, h1, h2, h3⟩, hq⟩ := h
      have hne : xs ≠ [] := fun e => by
        subst e
        exact h0 (List.eq_nil_of_length_eq_zero l1.len.symm)
      by_cases hk : k = 1
      · subst hk
        refine .inr (.inr (.inr ⟨p, xs, rfl, ry, r1.sq, hne, hP _ _ (EPost.val I rx0 ?_)⟩))
        have e : (List.replicate (1 : Int).toNat a).flatten = a := by simp
        rw [e] at hq
        exact hq
      · exact .inr (.inr (.inl ⟨p, k, xs, rfl, ry, r1.sq, hne, by omega, h2, by rw [l1.len]; exact h3, fun n hn => hP _ _ (EPost.newT I hn (l1.rep _) hq)⟩))
    | _ => exact h.elim
  | _ => exact (show False from h).elim

/-! ### == at any depth -/
mutual
def D.py : D → PyData
  | .non => .none
  | .bl b => .bool b
  | .int i => .int i
  | .str x => .str x
  | .tup ds => .tuple (D.pyL ds)
  | .lst ds => .list (D.pyL ds)
  | .src => .dict []
  | .scr _ _ _ => .dict []
def D.pyL : List D → List PyData
  | [] => []
  | d :: ds => d.py :: D.pyL ds
end
mutual
def eqD : D → D → Bool
  | .non, .non => true
  | .bl a, .bl b => a == b
  | .bl a, .int j => (if a then 1 else 0) == j
  | .int i, .bl b => i == (if b then 1 else 0)
  | .int i, .int j => i == j
  | .str x, .str y => x == y
  | .lst xs, .lst ys => eqDL xs ys
  | .tup xs, .tup ys => eqDL xs ys
  | _, _ => false
def eqDL : List D → List D → Bool
  | [], [] => true
  | x :: xs, y :: ys => eqD x y && eqDL xs ys
  | _, _ => false
end
@[simp] theorem eqD_non_non : eqD .non .non = true := by rw [eqD]
@[simp] theorem eqD_non_bl (b : Bool) : eqD .non (.bl b) = false := by rw [eqD] <;> nofun
@[simp] theorem eqD_non_int (b : Int) : eqD .non (.int b) = false := by rw [eqD] <;> nofun
@[simp] theorem eqD_non_str (b : Str) : eqD .non (.str b) = false := by rw [eqD] <;> nofun
@[simp] theorem eqD_non_tup (b : List D) : eqD .non (.tup b) = false := by rw [eqD] <;> nofun
@[simp] theorem eqD_non_lst (b : List D) : eqD .non (.lst b) = false := by rw [eqD] <;> nofun
@[simp] theorem eqD_bl_non (a : Bool) : eqD (.bl a) .non = false := by rw [eqD] <;> nofun
@[simp] theorem eqD_bl_bl (a : Bool) (b : Bool) : eqD (.bl a) (.bl b) = (a == b) := by rw [eqD]
@[simp] theorem eqD_bl_int (a : Bool) (b : Int) : eqD (.bl a) (.int b) = ((if a then 1 else 0) == b) := by rw [eqD]
@[simp] theorem eqD_bl_str (a : Bool) (b : Str) : eqD (.bl a) (.str b) = false := by rw [eqD] <;> nofun
@[simp] theorem eqD_bl_tup (a : Bool) (b : List D) : eqD (.bl a) (.tup b) = false := by rw [eqD] <;> nofun
@[simp] theorem eqD_bl_lst (a : Bool) (b : List D) : eqD (.bl a) (.lst b) = false := by rw [eqD] <;> nofun
@[simp] theorem eqD_int_non (a : Int) : eqD (.int a) .non = false := by rw [eqD] <;> nofun
@[simp] theorem eqD_int_bl (a : Int) (b : Bool) : eqD (.int a) (.bl b) = (a == (if b then 1 else 0)) := by rw [eqD]
@[simp] theorem eqD_int_int (a : Int) (b : Int) : eqD (.int a) (.int b) = (a == b) := by rw [eqD]
@[simp] theorem eqD_int_str (a : Int) (b : Str) : eqD (.int a) (.str b) = false := by rw [eqD] <;> nofun
@[simp] theorem eqD_int_tup (a : Int) (b : List D) : eqD (.int a) (.tup b) = false := by rw [eqD] <;> nofun
@[simp] theorem eqD_int_lst (a : Int) (b : List D) : eqD (.int a) (.lst b) = false := by rw [eqD] <;> nofun
@[simp] theorem eqD_str_non (a : Str) : eqD (.str a) .non = false := by rw [eqD] <;> nofun
@[simp] theorem eqD_str_bl (a : Str) (b : Bool) : eqD (.str a) (.bl b) = false := by rw [eqD] <;> nofun
@[simp] theorem eqD_str_int (a : Str) (b : Int) : eqD (.str a) (.int b) = false := by rw [eqD] <;> nofun
@[simp] theorem eqD_str_str (a : Str) (b : Str) : eqD (.str a) (.str b) = (a == b) := by rw [eqD]
@[simp] theorem eqD_str_tup (a : Str) (b : List D) : eqD (.str a) (.tup b) = false := by rw [eqD] <;> nofun
@[simp] theorem eqD_str_lst (a : Str) (b : List D) : eqD (.str a) (.lst b) = false := by rw [eqD] <;> nofun
@[simp] theorem eqD_tup_non (a : List D) : eqD (.tup a) .non = false := by rw [eqD] <;> nofun
@[simp] theorem eqD_tup_bl (a : List D) (b : Bool) : eqD (.tup a) (.bl b) = false := by rw [eqD] <;> nofun
@[simp] theorem eqD_tup_int (a : List D) (b : Int) : eqD (.tup a) (.int b) = false := by rw [eqD] <;> nofun
@[simp] theorem eqD_tup_str (a : List D) (b : Str) : eqD (.tup a) (.str b) = false := by rw [eqD] <;> nofun
@[simp] theorem eqD_tup_tup (a : List D) (b : List D) : eqD (.tup a) (.tup b) = eqDL a b := by rw [eqD]
@[simp] theorem eqD_tup_lst (a : List D) (b : List D) : eqD (.tup a) (.lst b) = false := by rw [eqD] <;> nofun
@[simp] theorem eqD_lst_non (a : List D) : eqD (.lst a) .non = false := by rw [eqD] <;> nofun
@[simp] theorem eqD_lst_bl (a : List D) (b : Bool) : eqD (.lst a) (.bl b) = false := by rw [eqD] <;> nofun
@[simp] theorem eqD_lst_int (a : List D) (b : Int) : eqD (.lst a) (.int b) = false := by rw [eqD] <;> nofun
@[simp] theorem eqD_lst_str (a : List D) (b : Str) : eqD (.lst a) (.str b) = false := by rw [eqD] <;> nofun
@[simp] theorem eqD_lst_tup (a : List D) (b : List D) : eqD (.lst a) (.tup b) = false := by rw [eqD] <;> nofun
@[simp] theorem eqD_lst_lst (a : List D) (b : List D) : eqD (.lst a) (.lst b) = eqDL a b := by rw [eqD]
@[simp] theorem eqDL_nil : eqDL [] [] = true := by rw [eqDL]
@[simp] theorem eqDL_cons (x y : D) (xs ys : List D) : eqDL (x :: xs) (y :: ys) = (eqD x y && eqDL xs ys) := by rw [eqDL]
@[simp] theorem eqDL_nil_cons (y : D) (ys : List D) : eqDL [] (y :: ys) = false := by rw [eqDL] <;> nofun
@[simp] theorem eqDL_cons_nil (y : D) (ys : List D) : eqDL (y :: ys) [] = false := by rw [eqDL] <;> nofun
mutual
/-- data that == is read of: texts of right signs, no source, depth at most n -/
@[simp] def okD : Nat → D → Bool
  | _, .non => true
  | _, .bl _ => true
  | _, .int _ => true
  | _, .str x => PyData.strOk x
  | n + 1, .tup ds => okDL n ds
  | n + 1, .lst ds => okDL n ds
  | _, _ => false
@[simp] def okDL : Nat → List D → Bool
  | _, [] => true
  | n, d :: ds => okD n d && okDL n ds
end
mutual
theorem eqD_py : ∀ x y : D, ∀ n m, okD n x = true → okD m y = true → PyData.eqv x.py y.py = eqD x y
  | x, y, n, m, hx, hy => by
    cases x with
    | tup xs =>
      cases n with
      | zero => rw [okD] at hx; cases hx; all_goals nofun
      | succ n =>
        rw [okD] at hx
        cases y with
        | tup ys =>
          cases m with
          | zero => rw [okD] at hy; cases hy; all_goals nofun
          | succ m =>
            rw [okD] at hy
            simp only [D.py, PyData.eqv, eqD]
            exact eqDL_py xs ys n m hx hy
        | _ => simp [D.py, PyData.eqv, eqD]
    | lst xs =>
      cases n with
      | zero => rw [okD] at hx; cases hx; all_goals nofun
      | succ n =>
        rw [okD] at hx
        cases y with
        | lst ys =>
          cases m with
          | zero => rw [okD] at hy; cases hy; all_goals nofun
          | succ m =>
            rw [okD] at hy
            simp only [D.py, PyData.eqv, eqD]
            exact eqDL_py xs ys n m hx hy
        | _ => simp [D.py, PyData.eqv, eqD]
    | src => cases n <;> simp [okD] at hx
    | _ =>
      cases y with
      | src => cases m <;> simp [okD] at hy
      | _ => simp [D.py, PyData.eqv, eqD]
theorem eqDL_py : ∀ xs ys : List D, ∀ n m, okDL n xs = true → okDL m ys = true → PyData.eqvAll (D.pyL xs) (D.pyL ys) = eqDL xs ys
  | [], [], _, _, _, _ => by simp [D.pyL, PyData.eqvAll, eqDL]
  | [], y :: ys, _, _, _, _ => by simp [D.pyL, PyData.eqvAll, eqDL]
  | x :: xs, [], _, _, _, _ => by simp [D.pyL, PyData.eqvAll, eqDL]
  | x :: xs, y :: ys, n, m, hx, hy => by
    rw [okDL, Bool.and_eq_true] at hx hy
    simp only [D.pyL, PyData.eqvAll, eqDL]
    rw [eqD_py x y n m hx.1 hy.1, eqDL_py xs ys n m hx.2 hy.2]
end
mutual
theorem okD_lay : ∀ (d : D) (n : Nat), okD n d = true → d.py.canLay0 = true ∧ d.py.depth ≤ n
  | .non, n, _ => by simp [D.py, PyData.canLay0, PyData.depth]
  | .bl _, n, _ => by simp [D.py, PyData.canLay0, PyData.depth]
  | .int _, n, _ => by simp [D.py, PyData.canLay0, PyData.depth]
  | .str x, n, h => by
    have h' : PyData.strOk x = true := by cases n <;> simpa [okD] using h
    simp [D.py, PyData.canLay0, PyData.depth, h']
  | .tup ds, n, h => by
    cases n with
    | zero => simp [okD] at h
    | succ n =>
      rw [okD] at h
      obtain ⟨h1, h2⟩ := okDL_lay ds n h
      simp only [D.py, PyData.canLay0, PyData.depth]
      exact ⟨h1, by omega⟩
  | .lst ds, n, h => by
    cases n with
    | zero => simp [okD] at h
    | succ n =>
      rw [okD] at h
      obtain ⟨h1, h2⟩ := okDL_lay ds n h
      simp only [D.py, PyData.canLay0, PyData.depth]
      exact ⟨h1, by omega⟩
  | .src, n, h => by cases n <;> simp [okD] at h
  | .scr _ _ _, n, h => by cases n <;> simp [okD] at h
theorem okDL_lay : ∀ (ds : List D) (n : Nat), okDL n ds = true → PyData.canLayAll0 (D.pyL ds) = true ∧ PyData.depthAll (D.pyL ds) ≤ n
  | [], n, _ => by simp [D.pyL, PyData.canLayAll0, PyData.depthAll]
  | d :: ds, n, h => by
    rw [okDL, Bool.and_eq_true] at h
    obtain ⟨h1, h2⟩ := okD_lay d n h.1
    obtain ⟨h3, h4⟩ := okDL_lay ds n h.2
    simp only [D.pyL, PyData.canLayAll0, PyData.depthAll, h1, h3, Bool.and_self, true_and]
    omega
end
theorem okD_shaped {d : D} (h : okD 64 d = true) : SeqAt.shaped d.py = true := by
  obtain ⟨h1, h2⟩ := okD_lay d 64 h
  unfold SeqAt.shaped
  rw [h1, Bool.true_and]
  exact decide_eq_true h2
mutual
theorem Rep.dp {K : PySem.W.Frag} {g : G} {H : Hp} : ∀ (d : D) (v : V) (n : Nat), okD n d = true → Rep g H d v → Dp K H v d.py
  | .non, v, _, _, h => by rw [Rep] at h; subst h; rw [D.py]; exact .non
  | .bl b, v, _, _, h => by rw [Rep] at h; subst h; rw [D.py]; exact .bl b
  | .int i, v, _, _, h => by rw [Rep] at h; subst h; rw [D.py]; exact .int i
  | .str x, v, _, _, h => by rw [Rep] at h; subst h; rw [D.py]; exact .str x
  | .tup ds, v, n, o, h => by
    cases n with
    | zero => simp [okD] at o
    | succ n =>
      rw [okD] at o
      rw [Rep] at h
      obtain ⟨a, xs, rfl, r, l⟩ := h
      rw [D.py]
      exact .tup r.sq (RepL.dp ds xs n o l)
  | .lst ds, v, n, o, h => by
    cases n with
    | zero => simp [okD] at o
    | succ n =>
      rw [okD] at o
      rw [Rep] at h
      obtain ⟨a, xs, rfl, r, l⟩ := h
      rw [D.py]
      exact .lst r.sq (RepL.dp ds xs n o l)
  | .src, v, n, o, h => by cases n <;> simp [okD] at o
  | .scr _ _ _, v, n, o, h => by cases n <;> simp [okD] at o
theorem RepL.dp {K : PySem.W.Frag} {g : G} {H : Hp} : ∀ (ds : List D) (vs : List V) (n : Nat), okDL n ds = true → RepL g H ds vs → DpAll K H vs (D.pyL ds)
  | [], vs, _, _, h => by rw [RepL] at h; subst h; rw [D.pyL]; exact .nil
  | d :: ds, vs, n, o, h => by
    rw [okDL, Bool.and_eq_true] at o
    rw [RepL] at h
    obtain ⟨v, r, rfl, h1, h2⟩ := h
    rw [D.pyL]
    exact .cons (Rep.dp d v n o.1 h1) (RepL.dp ds r n o.2 h2)
end
@[simp] def fEq : D → D → UK → Prop := fun x y Q => okD 64 x = true ∧ okD 64 y = true ∧ Q false (.bl (eqD x y))
@[simp] def fNe : D → D → UK → Prop := fun x y Q => okD 64 x = true ∧ okD 64 y = true ∧ Q false (.bl (!eqD x y))
theorem lift_eq {S : Src} {K : PySem.W.Frag} : Lift2 S (rEqD K) fEq := by
  intro g H x y dx dy Q P I rx ry h hP
  obtain ⟨h1, h2, hq⟩ := h
  refine ⟨dx.py, dy.py, rx.dp dx x 64 h1, ry.dp dy y 64 h2, okD_shaped h1, okD_shaped h2, ?_⟩
  rw [eqD_py dx dy 64 64 h1 h2]
  exact hP _ _ (EPost.val (d := .bl (eqD dx dy)) I (by rw [Rep]) hq)
theorem lift_ne {S : Src} {K : PySem.W.Frag} : Lift2 S (rNeD K) fNe := by
  intro g H x y dx dy Q P I rx ry h hP
  obtain ⟨h1, h2, hq⟩ := h
  refine ⟨dx.py, dy.py, rx.dp dx x 64 h1, ry.dp dy y 64 h2, okD_shaped h1, okD_shaped h2, ?_⟩
  rw [eqD_py dx dy 64 64 h1 h2]
  exact hP _ _ (EPost.val (d := .bl (!eqD dx dy)) I (by rw [Rep]) hq)

/-! ### x in xs at any depth -/
def anyEq (xs : List D) (x : D) : Bool := xs.any fun z => eqD z x
def rInA (K : PySem.W.Frag) (neg : Bool) : R2 := fun x y H Q => ∃ d ds, Dp K H x d ∧ (Dp K H y (.list ds) ∨ Dp K H y (.tuple ds)) ∧ SeqAt.shaped d = true ∧ SeqAt.shaped (.list ds) = true ∧ Q (.bl (if neg then !(ds.any fun z => PyData.eqv z d) else ds.any fun z => PyData.eqv z d)) H
theorem op_inA {X : Cx} (hu : X.A.units + 65 < cLine) : OpR X (compareOp .In) (rInA X.K false) := by
  intro pins s σ H x y v u Q I rx ry h
  obtain ⟨d, ds, hd, he, sd, se, q⟩ := h
  obtain ⟨as, r1⟩ := Dp.reads I d x v hd rx
  rcases he with he | he
  · obtain ⟨bs, r2⟩ := Dp.reads I (.list ds) y u he ry
    exact SeqAt.in_list_reads r2 r1 (SeqAt.canLay_of_shaped se) (SeqAt.canLay_of_shaped sd) (room_in_shaped sd hu) ⟨.bl _, H, I, rfl, q⟩
  · obtain ⟨bs, r2⟩ := Dp.reads I (.tuple ds) y u he ry
    exact SeqAt.in_tuple_reads r2 r1 (SeqAt.canLay_of_shaped se) (SeqAt.canLay_of_shaped sd) (room_in_shaped sd hu) ⟨.bl _, H, I, rfl, q⟩
theorem op_notInA {X : Cx} (hu : X.A.units + 65 < cLine) : OpR X (compareOp .NotIn) (rInA X.K true) := by
  intro pins s σ H x y v u Q I rx ry h
  obtain ⟨d, ds, hd, he, sd, se, q⟩ := h
  obtain ⟨as, r1⟩ := Dp.reads I d x v hd rx
  rcases he with he | he
  · obtain ⟨bs, r2⟩ := Dp.reads I (.list ds) y u he ry
    exact SeqAt.notIn_list_reads r2 r1 (SeqAt.canLay_of_shaped se) (SeqAt.canLay_of_shaped sd) (room_in_shaped sd hu) ⟨.bl _, H, I, rfl, q⟩
  · obtain ⟨bs, r2⟩ := Dp.reads I (.tuple ds) y u he ry
    exact SeqAt.notIn_tuple_reads r2 r1 (SeqAt.canLay_of_shaped se) (SeqAt.canLay_of_shaped sd) (room_in_shaped sd hu) ⟨.bl _, H, I, rfl, q⟩
theorem any_py : ∀ (ds : List D) (x : D) (n m : Nat), okDL n ds = true → okD m x = true → ((D.pyL ds).any fun z => PyData.eqv z x.py) = anyEq ds x
  | [], _, _, _, _, _ => by simp [D.pyL, anyEq]
  | d :: ds, x, n, m, h, hx => by
    rw [okDL, Bool.and_eq_true] at h
    simp only [D.pyL, List.any_cons, anyEq]
    rw [eqD_py d x n m h.1 hx, any_py ds x n m h.2 hx]
    rfl
@[simp] def fIn (neg : Bool) : D → D → UK → Prop
  | x, .lst ds, Q => okD 63 x = true ∧ okDL 63 ds = true ∧ Q false (.bl (if neg then !anyEq ds x else anyEq ds x))
  | x, .tup ds, Q => okD 63 x = true ∧ okDL 63 ds = true ∧ Q false (.bl (if neg then !anyEq ds x else anyEq ds x))
  | _, _, _ => False
mutual
theorem okD_succ : ∀ (d : D) (n : Nat), okD n d = true → okD (n + 1) d = true
  | .non, n, _ => by simp [okD]
  | .bl _, n, _ => by simp [okD]
  | .int _, n, _ => by simp [okD]
  | .str x, n, h => by
    have h' : PyData.strOk x = true := by cases n <;> simpa [okD] using h
    simp [okD, h']
  | .tup ds, n, h => by
    cases n with
    | zero => simp [okD] at h
    | succ n => rw [okD] at h ⊢; exact okDL_succ ds n h
  | .lst ds, n, h => by
    cases n with
    | zero => simp [okD] at h
    | succ n => rw [okD] at h ⊢; exact okDL_succ ds n h
  | .src, n, h => by cases n <;> simp [okD] at h
  | .scr _ _ _, n, h => by cases n <;> simp [okD] at h
theorem okDL_succ : ∀ (ds : List D) (n : Nat), okDL n ds = true → okDL (n + 1) ds = true
  | [], n, _ => by simp [okDL]
  | d :: ds, n, h => by
    rw [okDL, Bool.and_eq_true] at h
    rw [okDL, okD_succ d n h.1, okDL_succ ds n h.2]
    rfl
end
theorem lift_in {S : Src} {K : PySem.W.Frag} {neg : Bool} : Lift2 S (rInA K neg) (fIn neg) := by
  intro g H x y dx dy Q P I rx ry h hP
  have fin : ∀ ds, okD 63 dx = true → okDL 63 ds = true → Q false (.bl (if neg then !anyEq ds dx else anyEq ds dx)) → (Dp K H y (.list (D.pyL ds)) ∨ Dp K H y (.tuple (D.pyL ds))) → rInA K neg x y H P := fun ds h1 h2 hq hy => by
    refine ⟨dx.py, D.pyL ds, rx.dp dx x 63 h1, hy, okD_shaped (okD_succ _ _ h1), ?_, ?_⟩
    · have := okD_shaped (d := .lst ds) (by rw [okD]; exact h2)
      rw [D.py] at this
      exact this
    · rw [any_py ds dx 63 63 h2 h1]
      exact hP _ _ (EPost.val (d := .bl (if neg then !anyEq ds dx else anyEq ds dx)) I (by rw [Rep]) hq)
  cases dy with
  | lst ds =>
    have h : okD 63 dx = true ∧ okDL 63 ds = true ∧ Q false (.bl (if neg then !anyEq ds dx else anyEq ds dx)) := h
    refine fin ds h.1 h.2.1 h.2.2 (.inl ?_)
    have := ry.dp (K := K) (.lst ds) y 64 (by rw [okD]; exact h.2.1)
    rw [D.py] at this
    exact this
  | tup ds =>
    have h : okD 63 dx = true ∧ okDL 63 ds = true ∧ Q false (.bl (if neg then !anyEq ds dx else anyEq ds dx)) := h
    refine fin ds h.1 h.2.1 h.2.2 (.inr ?_)
    have := ry.dp (K := K) (.tup ds) y 64 (by rw [okD]; exact h.2.1)
    rw [D.py] at this
    exact this
  | _ => exact (show False from h).elim

/-! ### is None -/
@[simp] def fIsN (neg : Bool) : D → D → UK → Prop
  | x, .non, Q => Q false (.bl (match x with
    | .non => !neg
    | _ => neg))
  | _, _, _ => False
theorem Rep.isNon {g : G} {H : Hp} {d : D} {v : V} (h : Rep g H d v) : decide (v = V.non) = (match d with
    | .non => true
    | _ => false) := by
  cases d with
  | non => rw [Rep] at h; subst h; rfl
  | bl b => rw [Rep] at h; subst h; rfl
  | int b => rw [Rep] at h; subst h; rfl
  | str b => rw [Rep] at h; subst h; rfl
  | tup ds => rw [Rep] at h; obtain ⟨a, xs, rfl, _⟩ := h; rfl
  | lst ds => rw [Rep] at h; obtain ⟨a, xs, rfl, _⟩ := h; rfl
  | src => rw [Rep] at h; obtain ⟨rfl, _⟩ := h; rfl
  | scr => rw [Rep] at h; obtain ⟨rfl, _⟩ := h; rfl
theorem lift_isN {S : Src} : Lift2 S (fun x y H Q => y = .non ∧ Q (.bl (decide (x = .non))) H) (fIsN false) := by
  intro g H x y dx dy Q P I rx ry h hP
  cases dy with
  | non =>
    rw [Rep] at ry
    refine ⟨ry, hP _ _ (EPost.val (d := .bl (decide (x = .non))) I (by rw [Rep]) ?_)⟩
    rw [rx.isNon]
    cases dx <;> exact h
  | _ => cases dx <;> exact (show False from h).elim
theorem lift_notN {S : Src} : Lift2 S (fun x y H Q => y = .non ∧ Q (.bl (!decide (x = .non))) H) (fIsN true) := by
  intro g H x y dx dy Q P I rx ry h hP
  cases dy with
  | non =>
    rw [Rep] at ry
    refine ⟨ry, hP _ _ (EPost.val (d := .bl (!decide (x = .non))) I (by rw [Rep]) ?_)⟩
    rw [rx.isNon]
    cases dx <;> exact h
  | _ => cases dx <;> exact (show False from h).elim

/-! ### built-ins -/
@[simp] def fA1 (f : D → UK → Prop) : List D → UK → Prop
  | [d], Q => f d Q
  | _, _ => False
@[simp] def fA2 (f : D → D → UK → Prop) : List D → UK → Prop
  | [d, e], Q => f d e Q
  | _, _ => False
theorem lift_A1 {S : Src} {r : List V → Hp → VK → Prop} {f : D → UK → Prop} (h : Lift1 S (fun x H Q => r [x] H Q) f) : LiftA S r (fA1 f) := by
  intro g H xs ds Q P I rx hq hP
  cases ds with
  | nil => exact hq.elim
  | cons d ds =>
    cases ds with
    | nil =>
      rw [RepL] at rx
      obtain ⟨v, vs, rfl, r1, r2⟩ := rx
      rw [RepL] at r2
      subst r2
      exact h g H v d Q P I r1 hq hP
    | cons _ _ => exact hq.elim
theorem lift_A2 {S : Src} {r : List V → Hp → VK → Prop} {f : D → D → UK → Prop} (h : Lift2 S (fun x y H Q => r [x, y] H Q) f) : LiftA S r (fA2 f) := by
  intro g H xs ds Q P I rx hq hP
  cases ds with
  | nil => exact hq.elim
  | cons d ds =>
    cases ds with
    | nil => exact hq.elim
    | cons e ds =>
      cases ds with
      | nil =>
        rw [RepL] at rx
        obtain ⟨v, vs, rfl, r1, r2⟩ := rx
        rw [RepL] at r2
        obtain ⟨w, ws, rfl, r3, r4⟩ := r2
        rw [RepL] at r4
        subst r4
        exact h g H v w d e Q P I r1 r3 hq hP
      | cons _ _ => exact hq.elim
@[simp] def fLen : D → UK → Prop
  | .lst ds, Q => Q false (.int ds.length)
  | .tup ds, Q => Q false (.int ds.length)
  | .str x, Q => x.length ≤ sizeLine ∧ Q false (.int x.length)
  | _, _ => False
theorem lift_len {S : Src} {K : PySem.W.Frag} : LiftA S (fun xs H Q => ∃ x n, xs = [x] ∧ LenV K x H n ∧ Q (.int n) H) (fA1 fLen) := by
  refine lift_A1 fun g H x dx Q P I rx h hP => ?_
  cases dx with
  | lst ds =>
    rw [Rep] at rx
    obtain ⟨a, ys, rfl, ra, l⟩ := rx
    exact ⟨_, _, rfl, .inl ⟨ys, ra.sq, rfl⟩, by rw [l.len]; exact hP _ _ (EPost.val (d := .int ds.length) I (by rw [Rep]) h)⟩
  | tup ds =>
    rw [Rep] at rx
    obtain ⟨a, ys, rfl, ra, l⟩ := rx
    exact ⟨_, _, rfl, .inr ⟨ys, ra.sq, rfl⟩, by rw [l.len]; exact hP _ _ (EPost.val (d := .int ds.length) I (by rw [Rep]) h)⟩
  | str x =>
    rw [Rep] at rx
    subst rx
    exact ⟨_, _, rfl, ⟨h.1, rfl⟩, hP _ _ (EPost.val (d := .int x.length) I (by rw [Rep]) h.2)⟩
  | _ => exact (show False from h).elim
@[simp] def fAbs : D → UK → Prop
  | .int i, Q => Q false (.int (if i < 0 then -i else i))
  | _, _ => False
theorem lift_abs {S : Src} : LiftA S (fun xs H Q => ∃ i, xs = [.int i] ∧ Q (.int (if i < 0 then -i else i)) H) (fA1 fAbs) := by
  refine lift_A1 fun g H x dx Q P I rx h hP => ?_
  cases dx with
  | int i =>
    rw [Rep] at rx
    subst rx
    exact ⟨i, rfl, hP _ _ (EPost.val (d := .int (if i < 0 then -i else i)) I (by rw [Rep]) h)⟩
  | _ => exact (show False from h).elim
@[simp] def fInt : D → UK → Prop
  | .int i, Q => Q false (.int i)
  | .bl b, Q => Q false (.int (if b then 1 else 0))
  | _, _ => False
theorem lift_int {S : Src} : LiftA S (fun xs H Q => (∃ i, xs = [.int i] ∧ Q (.int i) H) ∨ ∃ k, xs = [.bl k] ∧ Q (.int (if k then 1 else 0)) H) (fA1 fInt) := by
  refine lift_A1 fun g H x dx Q P I rx h hP => ?_
  cases dx with
  | int i =>
    rw [Rep] at rx
    subst rx
    exact .inl ⟨i, rfl, hP _ _ (EPost.val (d := .int i) I (by rw [Rep]) h)⟩
  | bl i =>
    rw [Rep] at rx
    subst rx
    exact .inr ⟨i, rfl, hP _ _ (EPost.val (d := .int (if i then 1 else 0)) I (by rw [Rep]) h)⟩
  | _ => exact (show False from h).elim
@[simp] def fMax2 : D → D → UK → Prop
  | .int i, .int j, Q => Q false (.int (if j > i then j else i))
  | _, _, _ => False
@[simp] def fMin2 : D → D → UK → Prop
  | .int i, .int j, Q => Q false (.int (if j < i then j else i))
  | _, _, _ => False
theorem lift_max2 {S : Src} : LiftA S (fun xs H Q => ∃ i j, xs = [.int i, .int j] ∧ Q (.int (if j > i then j else i)) H) (fA2 fMax2) := by
  refine lift_A2 fun g H x y dx dy Q P I rx ry h hP => ?_
  cases dx with
  | int i =>
    cases dy with
    | int j =>
      rw [Rep] at rx ry
      subst rx ry
      exact ⟨i, j, rfl, hP _ _ (EPost.val (d := .int (if j > i then j else i)) I (by rw [Rep]) h)⟩
    | _ => exact (show False from h).elim
  | _ => exact (show False from h).elim
theorem lift_min2 {S : Src} : LiftA S (fun xs H Q => ∃ i j, xs = [.int i, .int j] ∧ Q (.int (if j < i then j else i)) H) (fA2 fMin2) := by
  refine lift_A2 fun g H x y dx dy Q P I rx ry h hP => ?_
  cases dx with
  | int i =>
    cases dy with
    | int j =>
      rw [Rep] at rx ry
      subst rx ry
      exact ⟨i, j, rfl, hP _ _ (EPost.val (d := .int (if j < i then j else i)) I (by rw [Rep]) h)⟩
    | _ => exact (show False from h).elim
  | _ => exact (show False from h).elim
@[simp] def fTuple : D → UK → Prop
  | .lst ds, Q => Q false (.tup ds)
  | .tup ds, Q => Q false (.tup ds)
  | _, _ => False
theorem lift_tuple {S : Src} {K : PySem.W.Frag} : LiftA S (fun xs H Q => ∃ p ys, xs = [.ref p] ∧ ((SqL K H p ys ∧ ∀ l, H l = none → Q (.ref l) (upd H l (.tup ys))) ∨ (SqT K H p ys ∧ Q (.ref p) H))) (fA1 fTuple) := by
  refine lift_A1 fun g H x dx Q P I rx h hP => ?_
  cases dx with
  | lst ds =>
    rw [Rep] at rx
    obtain ⟨a, ys, rfl, ra, l⟩ := rx
    exact ⟨a, ys, rfl, .inl ⟨ra.sq, fun p hp => hP _ _ (EPost.newT I hp l h)⟩⟩
  | tup ds =>
    have rx0 := rx
    rw [Rep] at rx
    obtain ⟨a, ys, rfl, ra, l⟩ := rx
    exact ⟨a, ys, rfl, .inr ⟨ra.sq, hP _ _ (EPost.val I rx0 h)⟩⟩
  | _ => exact (show False from h).elim
@[simp] def fList : D → UK → Prop
  | .lst ds, Q => Q true (.lst ds)
  | .tup ds, Q => Q true (.lst ds)
  | _, _ => False
theorem lift_list {S : Src} {K : PySem.W.Frag} : LiftA S (fun xs H Q => ∃ p ys, xs = [.ref p] ∧ (SqL K H p ys ∨ SqT K H p ys) ∧ ∀ l, H l = none → Q (.ref l) (upd H l (.lst ys))) (fA1 fList) := by
  refine lift_A1 fun g H x dx Q P I rx h hP => ?_
  cases dx with
  | lst ds =>
    rw [Rep] at rx
    obtain ⟨a, ys, rfl, ra, l⟩ := rx
    exact ⟨a, ys, rfl, .inl ra.sq, fun p hp => hP _ _ (EPost.newL I hp l h)⟩
  | tup ds =>
    rw [Rep] at rx
    obtain ⟨a, ys, rfl, ra, l⟩ := rx
    exact ⟨a, ys, rfl, .inr ra.sq, fun p hp => hP _ _ (EPost.newL I hp l h)⟩
  | _ => exact (show False from h).elim
@[simp] def fSum : D → UK → Prop
  | .lst ds, Q => ∃ ns : List Int, ds = ns.map D.int ∧ Q false (.int ns.sum)
  | _, _ => False
theorem lift_sum {S : Src} {K : PySem.W.Frag} : LiftA S (rSum K) (fA1 fSum) := by
  refine lift_A1 fun g H x dx Q P I rx h hP => ?_
  cases dx with
  | lst ds =>
    rw [Rep] at rx
    obtain ⟨a, ys, rfl, ra, l⟩ := rx
    obtain ⟨ns, rfl, hq⟩ := h
    have := l.ints
    subst this
    exact ⟨a, ns, rfl, ra.sq, hP _ _ (EPost.val (d := .int ns.sum) I (by rw [Rep]) hq)⟩
  | _ => exact (show False from h).elim
@[simp] def fMaxL : D → UK → Prop
  | .lst ds, Q => ∃ ns : List Int, ds = ns.map D.int ∧ 0 < ns.length ∧ ∀ m, m ∈ ns → (∀ y, y ∈ ns → y ≤ m) → Q false (.int m)
  | _, _ => False
@[simp] def fMinL : D → UK → Prop
  | .lst ds, Q => ∃ ns : List Int, ds = ns.map D.int ∧ 0 < ns.length ∧ ∀ m, m ∈ ns → (∀ y, y ∈ ns → m ≤ y) → Q false (.int m)
  | _, _ => False
theorem lift_maxL {S : Src} {K : PySem.W.Frag} : LiftA S (rMax K) (fA1 fMaxL) := by
  refine lift_A1 fun g H x dx Q P I rx h hP => ?_
  cases dx with
  | lst ds =>
    rw [Rep] at rx
    obtain ⟨a, ys, rfl, ra, l⟩ := rx
    obtain ⟨ns, rfl, h0, hq⟩ := h
    have := l.ints
    subst this
    exact ⟨a, ns, rfl, ra.sq, h0, fun m h1 h2 => hP _ _ (EPost.val (d := .int m) I (by rw [Rep]) (hq m h1 h2))⟩
  | _ => exact (show False from h).elim
theorem lift_minL {S : Src} {K : PySem.W.Frag} : LiftA S (rMin K) (fA1 fMinL) := by
  refine lift_A1 fun g H x dx Q P I rx h hP => ?_
  cases dx with
  | lst ds =>
    rw [Rep] at rx
    obtain ⟨a, ys, rfl, ra, l⟩ := rx
    obtain ⟨ns, rfl, h0, hq⟩ := h
    have := l.ints
    subst this
    exact ⟨a, ns, rfl, ra.sq, h0, fun m h1 h2 => hP _ _ (EPost.val (d := .int m) I (by rw [Rep]) (hq m h1 h2))⟩
  | _ => exact (show False from h).elim
@[simp] def fSorted : D → UK → Prop
  | .lst ds, Q => ∃ ns : List Int, ds = ns.map D.int ∧ ∀ ns' : List Int, ns'.Perm ns → ns'.Pairwise (· ≤ ·) → Q true (.lst (ns'.map D.int))
  | _, _ => False
theorem lift_sorted {S : Src} {K : PySem.W.Frag} : LiftA S (rSortedI K) (fA1 fSorted) := by
  refine lift_A1 fun g H x dx Q P I rx h hP => ?_
  cases dx with
  | lst ds =>
    rw [Rep] at rx
    obtain ⟨a, ys, rfl, ra, l⟩ := rx
    obtain ⟨ns, rfl, hq⟩ := h
    have := l.ints
    subst this
    exact ⟨a, ns, rfl, ra.sq, fun ns' p h1 h2 hp => hP _ _ (EPost.newL I hp (RepL.ofInts ns') (hq ns' h1 h2))⟩
  | _ => exact (show False from h).elim
/-- isinstance(x, T), T a built-in type -/
@[simp] def kindOf : D → String
  | .non => "NoneType"
  | .bl _ => "bool"
  | .int _ => "int"
  | .str _ => "str"
  | .tup _ => "tuple"
  | .lst _ => "list"
  | .src => "?"
  | .scr _ _ _ => "?"
@[simp] def isKind (T : String) : D → Bool
  | .bl _ => T == "bool" || T == "int"
  | d => T == kindOf d
@[simp] def fIsi (T : String) : D → UK → Prop
  | .src, _ => False
  | .scr _ _ _, _ => False
  | d, Q => Q false (.bl (isKind T d))
theorem Rep.ty {K : PySem.W.Frag} {g : G} {H : Hp} {d : D} {v : V} (h : Rep g H d v) (n : d.isSrc = false) : TyX K H v (.type (kindOf d)) := by
  cases d with
  | non => rw [Rep] at h; subst h; exact .base .non
  | bl b => rw [Rep] at h; subst h; exact .base (.bl b)
  | int b => rw [Rep] at h; subst h; exact .base (.int b)
  | str b => rw [Rep] at h; subst h; exact .base (.str b)
  | tup ds => rw [Rep] at h; obtain ⟨a, xs, rfl, r, _⟩ := h; exact .base (.tup r.1)
  | lst ds =>
    rw [Rep] at h; obtain ⟨a, xs, rfl, r, _⟩ := h
    exact .base (.lst r.1)
  | src => cases n
  | scr => cases n
end DL

/-! DLMore: isinstance, places, slices, calls of defs, what is walked, comprehensions. -/
namespace DL
open PySem PySem.Spec PyProof.Rows L2

/-! ### isinstance(x, T) -/
theorem fIsi_mk {T : String} {d : D} {Q : UK} (h : fIsi T d Q) : d.isSrc = false ∧ Q false (.bl (isKind T d)) := by
  cases d with
  | src => exact (show False from h).elim
  | scr => exact (show False from h).elim
  | _ => exact ⟨rfl, h⟩
/-- the second argument is a built-in type's name -/
theorem je_isi {S : Src} {X : Cx} {a : Expr} {ua : UE} {x y : Str} {p1 p2 pos : Pos} {T : String} (hk : ∀ d : D, d.isSrc = false → kitB (kindOf d) T = some (isKind T d)) (hg : Gl X x) (hm : X.mg x = none) (hv : bootBuiltins x = some (.builtin "isinstance"))
    (hg2 : Gl X y) (hm2 : X.mg y = none) (hv2 : bootBuiltins y = some (.type T)) (ha : JE S X a ua)
    (hn : x ≠ "__name__" := by decide) (hdb : (x == ("__debug__" : Str)) = false := by decide) (hn2 : y ≠ "__name__" := by decide) (hdb2 : (y == ("__debug__" : Str)) = false := by decide)
    (hs : starEach [a, .Name y p2] X.env = (false, eval a X.env) :: starEach [.Name y p2] X.env := by rfl) (hs2 : starEach [.Name y p2] X.env = (false, eval (.Name y p2) X.env) :: starEach [] X.env := by rfl) (hp : (backTo pos (starEach [.Name y p2] X.env)).any (·.1) = false := by rfl) :
    JE S X (.Call (.Name x p1) [a, .Name y p2] [] pos) (u1 (fIsi T) ua) := by
  obtain ⟨t, p, h⟩ := ha.ex
  have pb : PE X (.Name y p2) (tC (.ty T)) := pe_bltn hg2 hm2 hv2 rfl hn2 hdb2
  refine ⟨_, pe_callB call_isi hg hm hv (pa_cons p (pa_cons pb pa_nil hs2) hs) hn hdb hs hp, fun ρ σ g H Q P I R hu hP => ?_⟩
  refine h ρ σ g H _ _ I R hu fun v H1 e => ?_
  obtain ⟨g1, d, s1, I1, r1, _, q1⟩ := e.rep
  obtain ⟨n, q⟩ := fIsi_mk q1
  exact ⟨v, .ty T, .type (kindOf d), .type T, isKind T d, rfl, .ty T, r1.ty n, kit_ty (hk d n), hP _ _ ((EPost.val (d := .bl (isKind T d)) I1 (by rw [Rep]) q).after s1)⟩
theorem kit_int : ∀ d : D, d.isSrc = false → kitB (kindOf d) "int" = some (isKind "int" d) := by
  intro d n
  cases d with
  | src => cases n
  | scr => cases n
  | non => decide +kernel
  | bl b => exact (by decide +kernel : kitB "bool" "int" = some (("int" == "bool") || ("int" == "int")))
  | int i => exact (by decide +kernel : kitB "int" "int" = some ("int" == "int"))
  | str i => exact (by decide +kernel : kitB "str" "int" = some ("int" == "str"))
  | tup i => exact (by decide +kernel : kitB "tuple" "int" = some ("int" == "tuple"))
  | lst i => exact (by decide +kernel : kitB "list" "int" = some ("int" == "list"))
theorem kit_bool : ∀ d : D, d.isSrc = false → kitB (kindOf d) "bool" = some (isKind "bool" d) := by
  intro d n
  cases d with
  | src => cases n
  | scr => cases n
  | non => decide +kernel
  | bl b => exact (by decide +kernel : kitB "bool" "bool" = some (("bool" == "bool") || ("bool" == "int")))
  | int i => exact (by decide +kernel : kitB "int" "bool" = some ("bool" == "int"))
  | str i => exact (by decide +kernel : kitB "str" "bool" = some ("bool" == "str"))
  | tup i => exact (by decide +kernel : kitB "tuple" "bool" = some ("bool" == "tuple"))
  | lst i => exact (by decide +kernel : kitB "list" "bool" = some ("bool" == "list"))
theorem kit_tuple : ∀ d : D, d.isSrc = false → kitB (kindOf d) "tuple" = some (isKind "tuple" d) := by
  intro d n
  cases d with
  | src => cases n
  | scr => cases n
  | non => decide +kernel
  | bl b => exact (by decide +kernel : kitB "bool" "tuple" = some (("tuple" == "bool") || ("tuple" == "int")))
  | int i => exact (by decide +kernel : kitB "int" "tuple" = some ("tuple" == "int"))
  | str i => exact (by decide +kernel : kitB "str" "tuple" = some ("tuple" == "str"))
  | tup i => exact (by decide +kernel : kitB "tuple" "tuple" = some ("tuple" == "tuple"))
  | lst i => exact (by decide +kernel : kitB "list" "tuple" = some ("tuple" == "list"))
theorem kit_str : ∀ d : D, d.isSrc = false → kitB (kindOf d) "str" = some (isKind "str" d) := by
  intro d n
  cases d with
  | src => cases n
  | scr => cases n
  | non => decide +kernel
  | bl b => exact (by decide +kernel : kitB "bool" "str" = some (("str" == "bool") || ("str" == "int")))
  | int i => exact (by decide +kernel : kitB "int" "str" = some ("str" == "int"))
  | str i => exact (by decide +kernel : kitB "str" "str" = some ("str" == "str"))
  | tup i => exact (by decide +kernel : kitB "tuple" "str" = some ("str" == "tuple"))
  | lst i => exact (by decide +kernel : kitB "list" "str" = some ("str" == "list"))

/-! ### places -/
theorem RepL.atI {g : G} {H : Hp} {ds : List D} {vs : List V} {i : Int} {d : D} (l : RepL g H ds vs) (h : atI ds i = some d) : ∃ v, L2.atI vs i = some v ∧ Rep g H d v := by
  unfold L2.atI at h ⊢
  rw [l.len]
  cases e : ixN ds.length i with
  | none => rw [e] at h; cases h
  | some j =>
    rw [e] at h
    obtain ⟨v, hv, r⟩ := l.get (show ds[j]? = some d from h)
    exact ⟨v, hv, r⟩
@[simp] def fIx : D → D → UK → Prop
  | .lst ds, .int i, Q => ∃ d, atI ds i = some d ∧ Q false d
  | .tup ds, .int i, Q => ∃ d, atI ds i = some d ∧ Q false d
  | .str z, .int i, Q => z.length ≤ sizeLine ∧ ∃ c, atI z.cps.toList i = some c ∧ Q false (.str ⟨#[c]⟩)
  | _, _, _ => False
theorem lift_ix {S : Src} {K : PySem.W.Frag} : Lift2 S (rIx K) fIx := by
  intro g H x y dx dy Q P I rx ry h hP
  cases dy with
  | int i =>
    rw [Rep] at ry
    cases dx with
    | lst ds =>
      rw [Rep] at rx
      obtain ⟨a, xs, rfl, r1, l1⟩ := rx
      obtain ⟨d, hd, hq⟩ := h
      obtain ⟨v, hv, r⟩ := l1.atI hd
      exact .inl ⟨a, xs, i, v, rfl, ry, r1.sq, hv, hP _ _ (EPost.val I r hq)⟩
    | tup ds =>
      rw [Rep] at rx
      obtain ⟨a, xs, rfl, r1, l1⟩ := rx
      obtain ⟨d, hd, hq⟩ := h
      obtain ⟨v, hv, r⟩ := l1.atI hd
      exact .inr (.inl ⟨a, xs, i, v, rfl, ry, r1.sq, hv, hP _ _ (EPost.val I r hq)⟩)
    | str z =>
      rw [Rep] at rx
      obtain ⟨hz, c, hc, hq⟩ := h
      exact .inr (.inr ⟨z, i, c, rx, ry, hz, hc, hP _ _ (EPost.val (d := .str ⟨#[c]⟩) I (by rw [Rep]) hq)⟩)
    | _ => exact (show False from h).elim
  | _ => cases dx <;> exact (show False from h).elim

/-! ### slices -/
abbrev UO := DEnv → (Option Int → Prop) → Prop
structure JO (S : Src) (X : Cx) (e : Option Expr) (u : UO) : Prop where
  ex : ∃ t : TO, PO X e t ∧ ∀ (ρ : DEnv) (σ : L2.St) (g : G) (H : Hp) (Q : Option Int → Prop) (P : Option Int → Hp → Prop), HInv S g H → RepS g H ρ σ → u ρ Q → (∀ b H', (∃ g', Step g H g' H' ∧ HInv S g' H' ∧ Q b) → P b H') → t σ H P
@[simp] def uNoPart (_ : DEnv) (Q : (Option Int → Prop)) : Prop := Q none
@[simp] def isI (Q : Int → Prop) : D → Prop
  | .int i => Q i
  | _ => False
@[simp] def uPart (u : UE) (ρ : DEnv) (Q : (Option Int → Prop)) : Prop := u ρ fun _ x => isI (fun i => Q (some i)) x
def cutD (xs : List D) (lo hi : Option Int) : List D := (xs.drop (HT.sIx xs.length 0 lo)).take (HT.sIx xs.length xs.length hi - HT.sIx xs.length 0 lo)
@[simp] def fSl : D → Option Int → Option Int → UK → Prop
  | .lst ds, lo, hi, Q => Q true (.lst (cutD ds lo hi))
  | .tup ds, lo, hi, Q => Q false (.tup (cutD ds lo hi))
  | _, _, _, _ => False
@[simp] def uSl (u : UE) (a b : UO) (ρ : DEnv) (Q : UK) : Prop := u ρ fun _ x => a ρ fun lo => b ρ fun hi => fSl x lo hi Q
theorem jo_none {S : Src} {X : Cx} : JO S X none uNoPart := ⟨tNoPart, po_none, fun ρ σ g H Q P I R hu hP => hP none H ⟨g, Step.refl g H, I, hu⟩⟩
theorem jo_some {S : Src} {X : Cx} {e : Expr} {u : UE} (h : JE S X e u) : JO S X (some e) (uPart u) := by
  obtain ⟨t, p, h⟩ := h.ex
  refine ⟨_, po_some p, fun ρ σ g H Q P I R hu hP => h ρ σ g H _ _ I R hu fun v H1 e => ?_⟩
  obtain ⟨g1, d, s1, I1, r1, _, q1⟩ := e.rep
  cases d with
  | int i =>
    rw [Rep] at r1
    exact ⟨i, r1, hP _ _ ⟨g1, s1, I1, q1⟩⟩
  | _ => exact (show False from q1).elim
theorem RepL.cut {g : G} {H : Hp} {ds : List D} {vs : List V} (l : RepL g H ds vs) (lo hi : Option Int) : RepL g H (cutD ds lo hi) (cutV vs lo hi) := by
  unfold cutD cutV
  rw [l.len]
  exact (l.drop _).take _
theorem je_slice {S : Src} {X : Cx} {e : Expr} {lo hi : Option Expr} {u : UE} {ul uh : UO} {pos p2 : Pos} (h : JE S X e u) (hl : JO S X lo ul) (hh : JO S X hi uh) : JE S X (.Subscript e (.Slice lo hi none p2) pos) (uSl u ul uh) := by
  obtain ⟨t, p, h⟩ := h.ex
  obtain ⟨tl, pl, hl⟩ := hl.ex
  obtain ⟨th, ph, hh⟩ := hh.ex
  refine ⟨_, pe_slice (sl_list.or sl_tupA) p pl ph, fun ρ σ g H Q P I R hu hP => h ρ σ g H _ _ I R hu fun v H1 e => ?_⟩
  obtain ⟨g1, d, s1, I1, r1, _, q1⟩ := e.rep
  refine hl ρ σ g1 H1 _ _ I1 (R.step I s1) q1 fun o H2 e2 => ?_
  obtain ⟨g2, s2, I2, q2⟩ := e2
  refine hh ρ σ g2 H2 _ _ I2 ((R.step I s1).step I1 s2) q2 fun o2 H3 e3 => ?_
  obtain ⟨g3, s3, I3, q3⟩ := e3
  have r3 := (r1.step I1 s2).step I2 s3
  have s13 := (s1.trans s2).trans s3
  cases d with
  | lst ds =>
    rw [Rep] at r3
    obtain ⟨a, xs, rfl, ra, l⟩ := r3
    exact .inl ⟨a, xs, rfl, ra.sq, fun p hp => hP _ _ ((EPost.newL I3 hp (l.cut o o2) q3).after s13)⟩
  | tup ds =>
    have r30 := r3
    rw [Rep] at r3
    obtain ⟨a, xs, rfl, ra, l⟩ := r3
    refine .inr ⟨a, xs, rfl, ra.sq, fun hw => ?_, fun _ p hp => hP _ _ ((EPost.newT I3 hp (l.cut o o2) q3).after s13)⟩
    have e : cutD ds o o2 = ds := by
      unfold cutD
      rw [l.len] at hw
      rw [hw.1, hw.2, List.drop_zero, Nat.sub_zero, List.take_length]
    have q3 : Q false (.tup (cutD ds o o2)) := q3
    rw [e] at q3
    exact hP _ _ ((EPost.val I3 r30 q3).after s13)
  | _ => exact (show False from q3).elim

/-! ### calls of the text's defs -/
/-- what a def is worth, over data -/
abbrev Ctr := List D → UK → Prop
def SpOf (S : Src) (C : Ctr) : Sp := fun vs H Q _ => ∃ (ds : List D) (g : G) (R : UK), HInv S g H ∧ RepL g H ds vs ∧ C ds R ∧ ∀ v H', EPost S g H R v H' → Q v H'
@[simp] def uCall (C : Ctr) (u : UA) (ρ : DEnv) (Q : UK) : Prop := u ρ fun ds => Hold (C ds) Q ⟨⟩
section
variable {S : Src} {X : Cx} {k : Nat} {f : Addr} {fd : FuncData} {ps : List Str} {C : Ctr} {x : Str} {p pos : Pos} {e : Expr} {es : List Expr} {u : UA}
theorem je_call (F : FnOk X.prog X.w X.K X.mg X.base CX0 k f fd ps (SpOf S C)) (hr : Room k X.A) (hg : Gl X x) (hm : X.mg x = some (.ref f)) (hk : PySem.W.keepIn X.K (.ref f) = true) (hb : Binds X.K fd ps []) (ha : JA S X (e :: es) u)
    (hdb : (x == ("__debug__" : Str)) = false := by decide) (he : starEach (e :: es) X.env = (false, eval e X.env) :: starEach es X.env := by rfl) (hpl : (backTo pos (starEach es X.env)).any (·.1) = false := by rfl) : JE S X (.Call (.Name x p) (e :: es) [] pos) (uCall C u) := by
  obtain ⟨t, pa, h⟩ := ha.ex
  refine ⟨_, pe_call (E := E0) F hr hg hm hk hb .nil pass0 pa hdb he hpl, fun ρ σ g H Q P I R hu hP => h ρ σ g H _ _ I R hu fun vs H1 e => ?_⟩
  obtain ⟨g1, ds, s1, I1, r1, q1⟩ := e
  show SpOf S C (vs ++ []) H1 P E0
  rw [List.append_nil]
  exact ⟨ds, g1, Q, I1, r1, q1, fun v H' e => hP v H' (e.after s1)⟩
theorem je_call0 (F : FnOk X.prog X.w X.K X.mg X.base CX0 k f fd ps (SpOf S C)) (hr : Room k X.A) (hg : Gl X x) (hm : X.mg x = some (.ref f)) (hk : PySem.W.keepIn X.K (.ref f) = true) (hb : Binds X.K fd ps [])
    (hdb : (x == ("__debug__" : Str)) = false := by decide) : JE S X (.Call (.Name x p) [] [] pos) (uCall C uNil) := by
  refine ⟨_, pe_call0 (E := E0) F hr hg hm hk hb .nil pass0 hdb, fun ρ σ g H Q P I R hu hP => ?_⟩
  show SpOf S C ([] ++ []) H P E0
  exact ⟨[], g, Q, I, RepL.nil, hu, hP⟩
/-! with keywords: the parameters' order as a list of places among the positional and keyword values -/
structure JK (S : Src) (X : Cx) (kws : List Keyword) (u : UA) : Prop where
  ex : ∃ t : TA, PK X kws t ∧ ∀ (ρ : DEnv) (σ : L2.St) (g : G) (H : Hp) (Q : List D → Prop) (P : List V → Hp → Prop), HInv S g H → RepS g H ρ σ → u ρ Q → (∀ vs H', APost S g H Q vs H' → P vs H') → t σ H P
theorem jk_nil : JK S X [] uNil := ⟨tNil, pk_nil, fun ρ σ g H Q P I R hu hP => hP [] H ⟨g, [], Step.refl g H, I, RepL.nil, hu⟩⟩
theorem jk_cons {nm : Option Str} {kpos : Pos} {kws : List Keyword} {ua : UE} {ur : UA} (ha : JE S X e ua) (hr : JK S X kws ur) : JK S X (⟨nm, e, kpos⟩ :: kws) (uCons ua ur) := by
  obtain ⟨t, p, h⟩ := ha.ex
  obtain ⟨t2, p2, h2⟩ := hr.ex
  refine ⟨_, pk_cons p p2, fun ρ σ g H Q P I R hu hP => h ρ σ g H _ _ I R hu fun v H1 e => ?_⟩
  obtain ⟨g1, d, s1, I1, r1, _, q1⟩ := e.rep
  refine h2 ρ σ g1 H1 _ _ I1 (R.step I s1) q1 fun vs H2 e2 => ?_
  obtain ⟨g2, ds, s2, I2, r2, q2⟩ := e2
  exact hP (v :: vs) H2 ⟨g2, d :: ds, s1.trans s2, I2, RepL.cons (r1.step I1 s2) r2, q2⟩
/-- the values at these places -/
@[simp] def pick {α : Type} (xs : List α) : List Nat → List α
  | [] => []
  | i :: r => match xs[i]? with
    | some x => x :: pick xs r
    | none => pick xs r
theorem RepL.pick {g : G} {H : Hp} {ds : List D} {vs : List V} (l : RepL g H ds vs) : ∀ ix : List Nat, RepL g H (DL.pick ds ix) (DL.pick vs ix)
  | [] => RepL.nil
  | i :: r => by
    unfold DL.pick
    cases e : ds[i]? with
    | none =>
      have e2 : vs[i]? = none := by
        rw [List.getElem?_eq_none_iff] at e ⊢
        rw [l.len]; exact e
      rw [e2]
      exact RepL.pick l r
    | some d =>
      obtain ⟨v, hv, rv⟩ := l.get e
      rw [hv]
      exact RepL.cons rv (RepL.pick l r)
theorem Vals.pick {vs : List V} {us : List Value} (l : Vals vs us) : ∀ ix : List Nat, Vals (DL.pick vs ix) (DL.pick us ix)
  | [] => .nil
  | i :: r => by
    unfold DL.pick
    cases e : vs[i]? with
    | none =>
      rw [l.none_of e]
      exact Vals.pick l r
    | some d =>
      obtain ⟨v, hv, rv⟩ := l.get e
      rw [hv]
      exact .cons rv (Vals.pick l r)
/-- how a call with keywords binds: n positional values, keywords named ks, the parameters at these places of both -/
structure KwB (K : PySem.W.Frag) (fd : FuncData) (ps : List Str) (n : Nat) (ks : List Str) (ix : List Nat) : Prop where
  to : ∀ (s : Shared) (us ws : List Value), us.length = n → ws.length = ks.length → BindsTo s fd ⟨us, ks.zip ws⟩ (ps.zip (DL.pick (us ++ ws) ix))
theorem KwB.kbn {K : PySem.W.Frag} {fd : FuncData} {ps : List Str} {n : Nat} {ks : List Str} {ix : List Nat} (h : KwB K fd ps n ks ix) : KBn K fd ps n ks (fun us ws => DL.pick (us ++ ws) ix) (fun vs zs => DL.pick (vs ++ zs) ix) :=
  ⟨fun s us ws _ h1 h2 => h.to s us ws h1 h2, fun r1 r2 => DL.Vals.pick (L2.Vals.append r1 r2) ix⟩
@[simp] def uCallK (C : Ctr) (n m : Nat) (ix : List Nat) (u uk : UA) (ρ : DEnv) (Q : UK) : Prop := u ρ fun ds => uk ρ fun es => ds.length = n ∧ es.length = m ∧ Hold (C (pick (ds ++ es) ix)) Q ⟨⟩
theorem je_callK {n : Nat} {ks : List Str} {ix : List Nat} {kws : List Keyword} {uk : UA} (F : FnOk X.prog X.w X.K X.mg X.base CX0 k f fd ps (SpOf S C)) (hr : Room k X.A) (hg : Gl X x) (hm : X.mg x = some (.ref f)) (hk : PySem.W.keepIn X.K (.ref f) = true) (hb : KwB X.K fd ps n ks ix) (ha : JA S X (e :: es) u) (hkw : JK S X kws uk)
    (hall : (backToKw pos (keywordEach kws X.env)).all (·.1.isSome) = true := by rfl) (hks : (backToKw pos (keywordEach kws X.env)).filterMap (·.1) = ks := by rfl)
    (hdb : (x == ("__debug__" : Str)) = false := by decide) (he : starEach (e :: es) X.env = (false, eval e X.env) :: starEach es X.env := by rfl)
    (hpl : ((backTo pos (starEach (e :: es) X.env)).any (·.1) || (backToKw pos (keywordEach kws X.env)).any (·.1.isNone)) = false := by rfl) : JE S X (.Call (.Name x p) (e :: es) kws pos) (uCallK C n ks.length ix u uk) := by
  obtain ⟨t, pa, h⟩ := ha.ex
  obtain ⟨t2, pk, h2⟩ := hkw.ex
  refine ⟨_, pe_callN (E := E0) F hr hg hm hk hb.kbn pass0 pa pk hall hks hdb he hpl, fun ρ σ g H Q P I R hu hP => h ρ σ g H _ _ I R hu fun vs H1 e => ?_⟩
  obtain ⟨g1, ds, s1, I1, r1, q1⟩ := e
  refine h2 ρ σ g1 H1 _ _ I1 (R.step I s1) q1 fun ws H2 e2 => ?_
  obtain ⟨g2, es', s2, I2, r2, l1, l2, q2⟩ := e2
  exact ⟨by rw [r1.len]; exact l1, by rw [r2.len]; exact l2, _, g2, Q, I2, ((r1.step I1 s2).append r2).pick ix, q2, fun v H' e => hP v H' (e.after (s1.trans s2))⟩
/-- f(k = v, ..) alone -/
theorem pe_callN0 {n : Nat} {ks : List Str} {kws : List Keyword} {sp : Sp} {E : XK} {tk : TA} {g : List Value → List Value → List Value} {gV : List V → List V → List V} (F : FnOk X.prog X.w X.K X.mg X.base CX0 k f fd ps sp) (hr : Room k X.A) (hg : Gl X x) (hm : X.mg x = some (.ref f)) (hk : PySem.W.keepIn X.K (.ref f) = true) (hb : KBn X.K fd ps 0 ks g gV) (hx : Passes CX0 X E)
    (hkw : PK X kws tk) (hall : (backToKw pos (keywordEach kws X.env)).all (·.1.isSome) = true := by rfl) (hks : (backToKw pos (keywordEach kws X.env)).filterMap (·.1) = ks := by rfl)
    (hdb : (x == ("__debug__" : Str)) = false := by decide) (hpl : ((backTo pos (starEach [] X.env)).any (·.1) || (backToKw pos (keywordEach kws X.env)).any (·.1.isNone)) = false := by rfl) :
    PE X (.Call (.Name x p) [] kws pos) (tCallN 0 ks.length sp gV E tNil tk) := by
  refine ⟨fun pins s σ H Q I h => ?_⟩
  refine wpAny_Call_Name_kw (ld_glob I hg hm ?_ hdb)
  refine PySem.W.callWith_KW0 (h₀ := X.base) I.ok.mod.kin hk hall ?_ hpl
  refine thn (hkw.run pos pins s σ H _ I h) fun ws s2 ⟨zs, H2, I2, rz, l1, l2, q2⟩ => ⟨I2.kIn, ?_⟩
  rw [hks]
  exact run_fnN F hr hb hx I2 .nil rz rfl l2 q2
theorem je_callK0 {ks : List Str} {ix : List Nat} {kws : List Keyword} {uk : UA} (F : FnOk X.prog X.w X.K X.mg X.base CX0 k f fd ps (SpOf S C)) (hr : Room k X.A) (hg : Gl X x) (hm : X.mg x = some (.ref f)) (hk : PySem.W.keepIn X.K (.ref f) = true) (hb : KwB X.K fd ps 0 ks ix) (hkw : JK S X kws uk)
    (hall : (backToKw pos (keywordEach kws X.env)).all (·.1.isSome) = true := by rfl) (hks : (backToKw pos (keywordEach kws X.env)).filterMap (·.1) = ks := by rfl)
    (hdb : (x == ("__debug__" : Str)) = false := by decide) 
    (hpl : ((backTo pos (starEach [] X.env)).any (·.1) || (backToKw pos (keywordEach kws X.env)).any (·.1.isNone)) = false := by rfl) : JE S X (.Call (.Name x p) [] kws pos) (uCallK C 0 ks.length ix uNil uk) := by
  obtain ⟨t2, pk, h2⟩ := hkw.ex
  refine ⟨_, pe_callN0 (n := 0) (E := E0) F hr hg hm hk hb.kbn pass0 pk hall hks hdb hpl, fun ρ σ g H Q P I R hu hP => ?_⟩
  refine h2 ρ σ g H _ _ I R hu fun ws H2 e2 => ?_
  obtain ⟨g2, es', s2, I2, r2, l1, l2, q2⟩ := e2
  exact ⟨rfl, by rw [r2.len]; exact l2, _, g2, Q, I2, (RepL.nil.append r2).pick ix, q2, fun v H' e => hP v H' (e.after s2)⟩
end
end DL

/-! DLStmt: statements over data. -/
namespace DL
open PySem PySem.Spec PyProof.Rows L2

theorem Up.trans {g g1 g2 : G} {H H1 H2 : Hp} (a : Up g H g1 H1) (b : Up g1 H1 g2 H2) : Up g H g2 H2 where
  fz := fun x h => b.fz x (a.fz x h)
  rl := fun x h => b.rl x (a.rl x h)
  rt := fun x xs e n => b.rt x xs (a.kt x xs e) (a.rt x xs e n)
  rp := fun ⟨x, h⟩ => (b.rp ⟨x, a.rl x h⟩).trans (a.rp ⟨x, h⟩)
  kt := fun x xs e => b.kt x xs (a.kt x xs e)
  kf := fun x o f e => b.kf x o (a.fz x f) (a.kf x o f e)

/-- what is known of a def's names, heap and ghost in the midst of its body: B is the heap ahead of it (but for what it may change), g0 its ghost -/
structure SInv (S : Src) (g0 : G) (B : Hp) (g : G) (H : Hp) (ρ : DEnv) (σ : L2.St) : Prop where
  st : Step g0 B g H
  hi : HInv S g H
  len : ρ.length = σ.length
  own : ∀ (i : Nat) (d : D), ρ[i]? = some (some (true, d)) → ∃ a xs ds, σ[i]? = some (some (.ref a)) ∧ d = .lst ds ∧ H a = some (.lst xs) ∧ B a = none ∧ ¬ g.fz a ∧ ¬ g.rl a ∧ RepL g H ds xs
  inj : ∀ (i j : Nat) (d e : D) (a : Addr), ρ[i]? = some (some (true, d)) → ρ[j]? = some (some (true, e)) → σ[i]? = some (some (.ref a)) → σ[j]? = some (some (.ref a)) → i = j
  imm : ∀ (i : Nat) (d : D), ρ[i]? = some (some (false, d)) → ∃ v, σ[i]? = some (some v) ∧ Rep g H d v

/-- own lists out of M are hidden -/
@[simp] def vis (M : Nat → Bool) (ρ : DEnv) : DEnv := ρ.mapIdx fun i s => match s with
  | some (true, d) => if M i then some (true, d) else none
  | s => s
/-- own lists in M are from now on shared -/
@[simp] def freeze (M : Nat → Bool) (ρ : DEnv) : DEnv := ρ.mapIdx fun i s => match s with
  | some (true, d) => if M i then some (false, d) else some (true, d)
  | s => s
@[simp] def safe : Bool → D → Bool
  | true, .lst ds => noLstL ds
  | true, _ => false
  | false, d => noLst d
@[simp] def settle (M : Nat → Bool) (t : Bool) (d : D) (ρ : DEnv) : DEnv := if safe t d = true then ρ else freeze M ρ
abbrev allM : Nat → Bool := fun _ => true
theorem vis_all (ρ : DEnv) : vis allM ρ = ρ := by
  unfold vis
  have : (fun (i : Nat) (s : Option (Bool × D)) => match s with
    | some (true, d) => if allM i = true then some (true, d) else none
    | s => s) = fun _ s => s := by
    funext i s
    cases s with
    | none => rfl
    | some p => obtain ⟨t, d⟩ := p; cases t <;> rfl
  rw [this]
  exact List.mapIdx_eq_iff.mpr fun i => by simp
theorem vis_get {M : Nat → Bool} {ρ : DEnv} {i : Nat} {t : Bool} {d : D} (h : (vis M ρ)[i]? = some (some (t, d))) : ρ[i]? = some (some (t, d)) ∧ (t = true → M i = true) := by
  unfold vis at h
  rw [List.getElem?_mapIdx] at h
  cases e : ρ[i]? with
  | none => rw [e] at h; cases h
  | some s =>
    rw [e] at h
    cases s with
    | none => cases h
    | some p =>
      obtain ⟨t', d'⟩ := p
      cases t' with
      | false =>
        simp only [Option.map_some, Option.some.injEq] at h
        rw [h]
        cases h
        exact ⟨rfl, fun z => by cases z⟩
      | true =>
        simp only [Option.map_some] at h
        by_cases hm : M i = true
        · rw [if_pos hm] at h
          simp only [Option.some.injEq] at h
          cases h
          exact ⟨rfl, fun _ => hm⟩
        · rw [if_neg hm] at h; cases h
theorem freeze_own {M : Nat → Bool} {ρ : DEnv} {i : Nat} {d : D} (h : (freeze M ρ)[i]? = some (some (true, d))) : ρ[i]? = some (some (true, d)) ∧ ¬ M i = true := by
  unfold freeze at h
  rw [List.getElem?_mapIdx] at h
  cases e : ρ[i]? with
  | none => rw [e] at h; cases h
  | some s =>
    rw [e] at h
    cases s with
    | none => cases h
    | some p =>
      obtain ⟨t', d'⟩ := p
      cases t' with
      | false => simp only [Option.map_some, Option.some.injEq] at h; cases h
      | true =>
        simp only [Option.map_some] at h
        by_cases hm : M i = true
        · rw [if_pos hm] at h; simp only [Option.some.injEq] at h; cases h
        · rw [if_neg hm] at h
          simp only [Option.some.injEq] at h
          cases h
          exact ⟨rfl, hm⟩
theorem freeze_imm {M : Nat → Bool} {ρ : DEnv} {i : Nat} {d : D} (h : (freeze M ρ)[i]? = some (some (false, d))) : ρ[i]? = some (some (false, d)) ∨ (ρ[i]? = some (some (true, d)) ∧ M i = true) := by
  unfold freeze at h
  rw [List.getElem?_mapIdx] at h
  cases e : ρ[i]? with
  | none => rw [e] at h; cases h
  | some s =>
    rw [e] at h
    cases s with
    | none => cases h
    | some p =>
      obtain ⟨t', d'⟩ := p
      cases t' with
      | false => simp only [Option.map_some, Option.some.injEq] at h; cases h; exact .inl rfl
      | true =>
        simp only [Option.map_some] at h
        by_cases hm : M i = true
        · rw [if_pos hm] at h
          simp only [Option.some.injEq] at h
          cases h
          exact .inr ⟨rfl, hm⟩
        · rw [if_neg hm] at h; simp only [Option.some.injEq] at h; cases h
theorem freeze_len (M : Nat → Bool) (ρ : DEnv) : (freeze M ρ).length = ρ.length := by unfold freeze; rw [List.length_mapIdx]
theorem vis_len (M : Nat → Bool) (ρ : DEnv) : (vis M ρ).length = ρ.length := by unfold vis; rw [List.length_mapIdx]

section
variable {S : Src} {g0 g : G} {B H : Hp} {ρ : DEnv} {σ : L2.St}
/-- how an expression sees the names: own lists in M count as frozen meanwhile; behind it they are own again (where the value has no list), or shared -/
theorem SInv.view (I : SInv S g0 B g H ρ σ) (M : Nat → Bool) : ∃ gv : G, HInv S gv H ∧ RepS gv H (vis M ρ) σ ∧ ∀ g' H', Step gv H g' H' → HInv S g' H' →
    SInv S g0 B g' H' (freeze M ρ) σ ∧ ∃ g2, SInv S g0 B g2 H' ρ σ ∧ g2.rl = g'.rl ∧ g2.rp = g'.rp ∧ (∀ a, g2.fz a → g'.fz a) := by
  let W : Addr → Prop := fun a => ∃ i d, M i = true ∧ ρ[i]? = some (some (true, d)) ∧ σ[i]? = some (some (.ref a))
  have hW : ∀ a, W a → (∃ xs, H a = some (.lst xs)) ∧ B a = none ∧ ¬ g.fz a ∧ ¬ g.rl a := fun a ⟨i, d, _, h1, h2⟩ => by
    obtain ⟨a', xs, ds, e1, _, e2, e3, e4, e5, _⟩ := I.own i d h1
    rw [h2] at e1
    cases e1
    exact ⟨⟨xs, e2⟩, e3, e4, e5⟩
  let gv : G := { g with fz := fun a => g.fz a ∨ W a }
  have Iv : HInv S gv H := ⟨fun a ha => by
    rcases ha with ha | ha
    · exact I.hi.fz a ha
    · obtain ⟨⟨xs, e⟩, _⟩ := hW a ha
      exact ⟨_, e⟩, fun a ha hb => by
    rcases hb with hb | hb
    · exact I.hi.dis a ha hb
    · exact (hW a hb).2.2.2 ha, I.hi.rl⟩
  have up : Up g H gv H := ⟨fun a h => .inl h, fun _ h => h, fun _ _ _ n => n, fun _ => rfl, fun _ _ h => h, fun _ _ _ h => h⟩
  have Rv : RepS gv H (vis M ρ) σ := ⟨by rw [vis_len]; exact I.len, fun i t d e => by
    obtain ⟨e1, e2⟩ := vis_get e
    cases t with
    | false =>
      obtain ⟨v, hv, r⟩ := I.imm i d e1
      exact ⟨v, hv, Rep.up up d v r⟩
    | true =>
      obtain ⟨a, xs, ds, h1, rfl, h2, h3, h4, h5, h6⟩ := I.own i d e1
      exact ⟨.ref a, h1, by rw [Rep]; exact ⟨a, xs, rfl, ⟨h2, .inr ⟨i, _, e2 rfl, e1, h1⟩⟩, RepL.up up ds xs h6⟩⟩⟩
  refine ⟨gv, Iv, Rv, fun g' H' s I' => ?_⟩
  have fzn : ∀ a, g'.fz a → g.fz a ∨ W a ∨ H a = none := fun a ha => by
    rcases s.fzn a ha with z | z
    · rcases z with z | z
      · exact .inl z
      · exact .inr (.inl z)
    · exact .inr (.inr z)
  have upg : Up g H g' H' := up.trans (s.up Iv)
  refine ⟨?_, ?_⟩
  · refine ⟨⟨fun a h => s.fz a (.inl (I.st.fz a h)), fun a h => ?_, fun a h => s.rl a (I.st.rl a h), fun a h => ?_, fun ⟨a, h⟩ => (s.rp ⟨a, I.st.rl a h⟩).trans (I.st.rp ⟨a, h⟩), fun a o e n => ?_, fun a o e => ?_⟩, I', ?_, fun i d e => ?_, fun i j d e a h1 h2 h3 h4 => ?_, fun i d e => ?_⟩
    · rcases fzn a h with z | z | z
      · exact I.st.fzn a z
      · exact .inr (hW a z).2.1
      · exact .inr (I.st.free z)
    · rcases s.rln a h with z | z
      · exact I.st.rln a z
      · exact .inr (I.st.free z)
    · refine s.keep a o (I.st.keep a o e n) fun z => ?_
      rcases I.st.rln a z with q | q
      · exact n q
      · rw [e] at q; cases q
    · obtain ⟨o1, e1⟩ := I.st.there a o e
      exact s.there a o1 e1
    · rw [freeze_len]; exact I.len
    · obtain ⟨e1, hm⟩ := freeze_own e
      obtain ⟨a, xs, ds, h1, rfl, h2, h3, h4, h5, h6⟩ := I.own i d e1
      refine ⟨a, xs, ds, h1, rfl, s.keep a _ h2 h5, h3, fun z => ?_, fun z => ?_, RepL.up upg ds xs h6⟩
      · rcases fzn a z with q | q | q
        · exact h4 q
        · obtain ⟨j, d', hj, e2, e3⟩ := q
          have : i = j := I.inj i j _ _ a e1 e2 h1 e3
          subst this
          exact hm hj
        · rw [h2] at q; cases q
      · rcases s.rln a z with q | q
        · exact h5 q
        · rw [h2] at q; cases q
    · exact I.inj i j d e a (freeze_own h1).1 (freeze_own h2).1 h3 h4
    · rcases freeze_imm e with e1 | ⟨e1, hm⟩
      · obtain ⟨v, hv, r⟩ := I.imm i d e1
        exact ⟨v, hv, Rep.up upg d v r⟩
      · obtain ⟨a, xs, ds, h1, rfl, h2, h3, h4, h5, h6⟩ := I.own i d e1
        exact ⟨.ref a, h1, by rw [Rep]; exact ⟨a, xs, rfl, ⟨(s.keep a _ h2 h5), s.fz a (.inr ⟨i, _, hm, e1, h1⟩)⟩, RepL.up upg ds xs h6⟩⟩
  · let g2 : G := { g' with fz := fun a => g'.fz a ∧ ¬ W a }
    have s2 : Step g H g2 H' := ⟨fun a h => ⟨s.fz a (.inl h), fun z => (hW a z).2.2.1 h⟩, fun a h => by
      rcases fzn a h.1 with z | z | z
      · exact .inl z
      · exact absurd z h.2
      · exact .inr z, s.rl, s.rln, s.rp, s.keep, s.there⟩
    have I2 : HInv S g2 H' := ⟨fun a h => I'.fz a h.1, fun a h z => I'.dis a h z.1, I'.rl⟩
    have up2 : Up g H g2 H' := s2.up I.hi
    refine ⟨g2, ⟨I.st.trans s2, I2, I.len, fun i d e => ?_, I.inj, fun i d e => ?_⟩, rfl, rfl, fun a h => h.1⟩
    · obtain ⟨a, xs, ds, h1, rfl, h2, h3, h4, h5, h6⟩ := I.own i d e
      refine ⟨a, xs, ds, h1, rfl, s2.keep a _ h2 h5, h3, fun z => ?_, fun z => ?_, RepL.up up2 ds xs h6⟩
      · rcases fzn a z.1 with q | q | q
        · exact h4 q
        · exact z.2 q
        · rw [h2] at q; cases q
      · rcases s2.rln a z with q | q
        · exact h5 q
        · rw [h2] at q; cases q
    · obtain ⟨v, hv, r⟩ := I.imm i d e
      exact ⟨v, hv, Rep.up up2 d v r⟩
/-- an expression is evaluated in the midst of a body -/
theorem SInv.expr (I : SInv S g0 B g H ρ σ) (M : Nat → Bool) {u : UE} {te : TE} {Q : UK} {P : VK}
    (h : ∀ (ρ : DEnv) (σ : L2.St) (g : G) (H : Hp) (Q : UK) (P : VK), HInv S g H → RepS g H ρ σ → u ρ Q → (∀ v H', EPost S g H Q v H' → P v H') → te σ H P) (hu : u (vis M ρ) Q)
    (hP : ∀ v H' t d g', SInv S g0 B g' H' (settle M t d ρ) σ → RepT g' H' t d v → (t = true → ∀ a, v = .ref a → H a = none) → (∀ a o, H a = some o → ∃ o', H' a = some o') → Q t d → P v H') : te σ H P := by
  obtain ⟨gv, Iv, Rv, fin⟩ := I.view M
  refine h (vis M ρ) σ gv H Q P Iv Rv hu fun v H' e => ?_
  obtain ⟨g', t, d, s, I', r, f, q⟩ := e.ex
  obtain ⟨f1, g2, f2, e1, e2, e3⟩ := fin g' H' s I'
  by_cases hs : safe t d = true
  · refine hP v H' t d g2 ?_ ?_ f s.there q
    · rw [settle, if_pos hs]
      exact f2
    · cases t with
      | false => exact Rep.noLst (g := g') (g' := g2) e1 e2 d v hs r
      | true =>
        obtain ⟨a, xs, ds, rfl, rfl, h1, h2, h3, h4⟩ := r
        exact ⟨a, xs, ds, rfl, rfl, h1, fun z => h2 (e3 a z), by rw [e1]; exact h3, RepL.noLst (g := g') (g' := g2) e1 e2 ds xs hs h4⟩
  · refine hP v H' t d g' ?_ r f s.there q
    rw [settle, if_neg hs]
    exact f1
/-- a test is evaluated in the midst of a body -/
theorem SInv.test (I : SInv S g0 B g H ρ σ) {u : UT} {te : TT} {Q : Bool → Prop} {P : Bool → Hp → Prop}
    (h : ∀ (ρ : DEnv) (σ : L2.St) (g : G) (H : Hp) (Q : Bool → Prop) (P : Bool → Hp → Prop), HInv S g H → RepS g H ρ σ → u ρ Q → (∀ v H', TPost S g H Q v H' → P v H') → te σ H P) (hu : u ρ Q)
    (hP : ∀ b H' g', SInv S g0 B g' H' ρ σ → Q b → P b H') : te σ H P := by
  refine I.expr allM (u := fun ρ Q => u ρ fun k => Q false (.bl k)) (te := fun σ H P => te σ H fun k H' => P (.bl k) H') (Q := fun t d => t = false ∧ isB Q d) (P := fun v H' => match v with
    | .bl k => P k H'
    | _ => True) ?_ ?_ ?_
  · intro ρ σ g H Q P I R hu hP
    refine h ρ σ g H _ _ I R hu fun k H' e => ?_
    obtain ⟨g', s, I', q⟩ := e
    exact hP _ _ ⟨g', false, .bl k, s, I', by show Rep _ _ _ _; rw [Rep], fun z => (by cases z), q⟩
  · rw [vis_all]
    have e : (fun k => (fun t d => t = false ∧ isB Q d) false (D.bl k)) = Q := by
      funext k
      show (false = false ∧ Q k) = Q k
      simp
    rw [e]
    exact hu
  · intro v H' t d g' I' r _ _ q
    obtain ⟨rfl, q⟩ := q
    cases d with
    | bl k =>
      have r : Rep g' H' (.bl k) v := r
      rw [Rep] at r
      subst r
      exact hP k H' g' I' q
    | _ => exact (show False from q).elim
/-- a name is bound to a value -/
theorem SInv.set (I : SInv S g0 B g H ρ σ) {i : Nat} {t : Bool} {d : D} {v : V} (r : RepT g H t d v) (f : t = true → ∀ a, v = .ref a → B a = none ∧ ∀ j e, ρ[j]? = some (some (true, e)) → σ[j]? = some (some (.ref a)) → j = i) :
    SInv S g0 B g H (ρ.set i (some (t, d))) (σ.set i (some v)) := by
  have at_ : ∀ (j : Nat) (x : Bool × D), (ρ.set i (some (t, d)))[j]? = some (some x) → (j = i ∧ x = (t, d) ∧ (σ.set i (some v))[j]? = some (some v)) ∨ (j ≠ i ∧ ρ[j]? = some (some x) ∧ (σ.set i (some v))[j]? = σ[j]?) := fun j x e => by
    by_cases hj : i = j
    · subst hj
      have hl : i < ρ.length := by
        have := (List.getElem?_eq_some_iff.mp e).1
        rwa [List.length_set] at this
      rw [List.getElem?_set_self hl] at e
      cases e
      exact .inl ⟨rfl, rfl, List.getElem?_set_self (by rw [← I.len]; exact hl)⟩
    · rw [List.getElem?_set_ne hj] at e
      exact .inr ⟨Ne.symm hj, e, List.getElem?_set_ne hj⟩
  refine ⟨I.st, I.hi, by rw [List.length_set, List.length_set]; exact I.len, fun j e h => ?_, fun j k e e' a h1 h2 h3 h4 => ?_, fun j e h => ?_⟩
  · rcases at_ j _ h with ⟨rfl, h2, h3⟩ | ⟨hj, h2, h3⟩
    · cases h2
      obtain ⟨a, xs, ds, rfl, rfl, r1, r2, r3, r4⟩ := r
      exact ⟨a, xs, ds, h3, rfl, r1, (f rfl a rfl).1, r2, r3, r4⟩
    · rw [h3]
      exact I.own j e h2
  · rcases at_ j _ h1 with ⟨rfl, p2, p3⟩ | ⟨hj, p2, p3⟩
    · rcases at_ k _ h2 with ⟨rfl, q2, q3⟩ | ⟨hk, q2, q3⟩
      · rfl
      · cases p2
        rw [p3] at h3
        cases h3
        rw [q3] at h4
        exact ((f rfl a rfl).2 k _ q2 h4).symm
    · rcases at_ k _ h2 with ⟨rfl, q2, q3⟩ | ⟨hk, q2, q3⟩
      · cases q2
        rw [q3] at h4
        cases h4
        rw [p3] at h3
        exact (f rfl a rfl).2 j _ p2 h3
      · rw [p3] at h3
        rw [q3] at h4
        exact I.inj j k e e' a p2 q2 h3 h4
  · rcases at_ j _ h with ⟨rfl, h2, h3⟩ | ⟨hj, h2, h3⟩
    · cases h2
      exact ⟨v, h3, r⟩
    · rw [h3]
      exact I.imm j e h2

/-! ### statements -/
structure UEnds where
  nx : DEnv → Prop
  rt : UK
  bk : DEnv → Prop := fun _ => False
  ct : DEnv → Prop := fun _ => False
abbrev US := UEnds → DEnv → Prop
/-- what is wanted behind a statement, over data and over the heap -/
structure Glue (S : Src) (g0 : G) (B : Hp) (D : UEnds) (D' : Ends) : Prop where
  nx : ∀ g H ρ σ, SInv S g0 B g H ρ σ → D.nx ρ → D'.nx σ H
  rt : ∀ g H v t d, Step g0 B g H → HInv S g H → RepT g H t d v → (t = true → ∀ a, v = .ref a → B a = none) → D.rt t d → D'.rt v H
  bk : ∀ g H ρ σ, SInv S g0 B g H ρ σ → D.bk ρ → D'.bk σ H
  ct : ∀ g H ρ σ, SInv S g0 B g H ρ σ → D.ct ρ → D'.ct σ H
structure JS (S : Src) (X : Cx) (st : Stmt) (u : US) : Prop where
  ex : ∃ t : TS, PS X st t ∧ ∀ (g0 : G) (B : Hp) (g : G) (H : Hp) (ρ : DEnv) (σ : L2.St) (D : UEnds) (D' : Ends), SInv S g0 B g H ρ σ → u D ρ → Glue S g0 B D D' → t D' σ H
structure JSs (S : Src) (X : Cx) (st : List Stmt) (u : US) : Prop where
  ex : ∃ t : TS, PSs X st t ∧ ∀ (g0 : G) (B : Hp) (g : G) (H : Hp) (ρ : DEnv) (σ : L2.St) (D : UEnds) (D' : Ends), SInv S g0 B g H ρ σ → u D ρ → Glue S g0 B D D' → t D' σ H

@[simp] def sNext (D : UEnds) (ρ : DEnv) : Prop := D.nx ρ
@[simp] def sSeq (a b : US) (D : UEnds) (ρ : DEnv) : Prop := a { D with nx := b D } ρ
@[simp] def sBreak (D : UEnds) (ρ : DEnv) : Prop := D.bk ρ
@[simp] def sCont (D : UEnds) (ρ : DEnv) : Prop := D.ct ρ
@[simp] def sRet (u : UE) (D : UEnds) (ρ : DEnv) : Prop := u ρ D.rt
@[simp] def sRetN (D : UEnds) (_ : DEnv) : Prop := D.rt false .non
@[simp] def sIf (c : UT) (a b : US) (D : UEnds) (ρ : DEnv) : Prop := c ρ fun k => if k = true then a D ρ else b D ρ
@[simp] def sAsg (i : Nat) (u : UE) (D : UEnds) (ρ : DEnv) : Prop := u ρ fun t d => D.nx ((settle allM t d ρ).set i (some (t, d)))
@[simp] def sAsgM (M : List Nat) (i : Nat) (u : UE) (D : UEnds) (ρ : DEnv) : Prop := u (vis (fun j => M.contains j) ρ) fun t d => D.nx ((settle (fun j => M.contains j) t d ρ).set i (some (t, d)))
@[simp] def sExpr (u : UE) (D : UEnds) (ρ : DEnv) : Prop := u ρ fun t d => D.nx (settle allM t d ρ)
end
section
variable {S : Src} {X : Cx} {st : Stmt} {rest : List Stmt} {u ub : US} {e : Expr} {ue : UE} {uc : UT} {pos : Pos}
theorem jss_nil : JSs S X [] sNext := ⟨tNext, pss_nil, fun g0 B g H ρ σ D D' I h gl => gl.nx g H ρ σ I h⟩
theorem jss_cons (h1 : JS S X st u) (h2 : JSs S X rest ub) : JSs S X (st :: rest) (sSeq u ub) := by
  obtain ⟨t1, p1, h1⟩ := h1.ex
  obtain ⟨t2, p2, h2⟩ := h2.ex
  exact ⟨tSeq t1 t2, pss_cons p1 p2, fun g0 B g H ρ σ D D' I h gl => h1 g0 B g H ρ σ { D with nx := ub D } { D' with nx := t2 D' } I h
    ⟨fun g H ρ σ I h => h2 g0 B g H ρ σ D D' I h gl, gl.rt, gl.bk, gl.ct⟩⟩
theorem jss_one (h1 : JS S X st u) : JSs S X [st] u := by
  obtain ⟨t1, p1, h1⟩ := h1.ex
  exact ⟨t1, pss_one p1, h1⟩
theorem js_pass : JS S X (.Pass pos) sNext := ⟨tNext, ps_pass, fun g0 B g H ρ σ D D' I h gl => gl.nx g H ρ σ I h⟩
theorem js_break : JS S X (.Break pos) sBreak := ⟨tBreak, ps_break, fun g0 B g H ρ σ D D' I h gl => gl.bk g H ρ σ I h⟩
theorem js_continue : JS S X (.Continue pos) sCont := ⟨tCont, ps_continue, fun g0 B g H ρ σ D D' I h gl => gl.ct g H ρ σ I h⟩
theorem js_doc {x j pos pos'} : JS S X (.Expr (.Constant (.str x) j pos) pos') sNext := ⟨tNext, ps_doc, fun g0 B g H ρ σ D D' I h gl => gl.nx g H ρ σ I h⟩
theorem js_ret (he : JE S X e ue) : JS S X (.Return (some e) pos) (sRet ue) := by
  obtain ⟨t, p, h⟩ := he.ex
  refine ⟨_, ps_ret p, fun g0 B g H ρ σ D D' I hu gl => ?_⟩
  refine I.expr allM h (by rw [vis_all]; exact hu) fun v H' t d g' I' r f _ q => gl.rt g' H' v t d I'.st I'.hi r (fun z a ea => I.st.free (f z a ea)) q
theorem js_retN : JS S X (.Return none pos) sRetN := ⟨tRetN, ps_retN, fun g0 B g H ρ σ D D' I h gl => gl.rt g H .non false .non I.st I.hi (by show Rep _ _ _ _; rw [Rep]) (fun z => (by cases z)) h⟩
theorem js_if {c : Expr} {a b : List Stmt} {ua ub : US} (hc : JT S X c uc) (ha : JSs S X a ua) (hb : JSs S X b ub) : JS S X (.If c a b pos) (sIf uc ua ub) := by
  obtain ⟨tc, pc, hc⟩ := hc.ex
  obtain ⟨t1, p1, h1⟩ := ha.ex
  obtain ⟨t2, p2, h2⟩ := hb.ex
  refine ⟨_, ps_if pc p1 p2, fun g0 B g H ρ σ D D' I hu gl => I.test hc hu fun b H' g' I' q => ?_⟩
  cases b with
  | true => exact h1 g0 B g' H' ρ σ D D' I' q gl
  | false => exact h2 g0 B g' H' ρ σ D D' I' q gl
theorem settle_own {M : Nat → Bool} {t : Bool} {d : D} {ρ : DEnv} {j : Nat} {e : D} (h : (settle M t d ρ)[j]? = some (some (true, e))) : ρ[j]? = some (some (true, e)) := by
  unfold settle at h
  split at h
  · exact h
  · exact (freeze_own h).1
theorem asg_core {g0 g : G} {B H : Hp} {ρ : DEnv} {σ : L2.St} (I : SInv S g0 B g H ρ σ) (M : Nat → Bool) {i : Nat} {te : TE} {D : UEnds} {D' : Ends} (gl : Glue S g0 B D D')
    (h : ∀ (ρ : DEnv) (σ : L2.St) (g : G) (H : Hp) (Q : UK) (P : VK), HInv S g H → RepS g H ρ σ → ue ρ Q → (∀ v H', EPost S g H Q v H' → P v H') → te σ H P)
    (hu : ue (vis M ρ) fun t d => D.nx ((settle M t d ρ).set i (some (t, d)))) : tAsg te (gName i) D' σ H := by
  refine I.expr M h hu fun v H' t d g' I' r f _ q => gl.nx g' H' _ _ (I'.set r fun z a ea => ⟨I.st.free (f z a ea), fun j e h1 h2 => ?_⟩) q
  obtain ⟨a', xs, ds, e1, _, e2, _⟩ := I.own j e (settle_own h1)
  rw [h2] at e1
  cases e1
  rw [f z a ea] at e2
  cases e2
theorem js_asg {i : Nat} {x : Str} {pos' : Pos} (hN : X.N.Nodup) (he : JE S X e ue) (hi : X.N[i]? = some x := by rfl) (hx : Loc X.env.scope x := by first | exact Or.inl rfl | exact Or.inr rfl) (hs : swapsWith e (some (.Name x pos')) pos.line X.env = pure false := by rfl) (hf : X.fn x = true ∨ X.env.scope.names.lookup x = some .local := by first | exact .inl rfl | exact .inr rfl | assumption) :
    JS S X (.Assign [.Name x pos'] e pos) (sAsg i ue) := by
  obtain ⟨t, p, h⟩ := he.ex
  exact ⟨_, ps_set hN hi hx p hs hf, fun g0 B g H ρ σ D D' I hu gl => asg_core I allM gl h (by rw [vis_all]; exact hu)⟩
theorem js_asgM (M : List Nat) {i : Nat} {x : Str} {pos' : Pos} (hN : X.N.Nodup) (he : JE S X e ue) (hi : X.N[i]? = some x := by rfl) (hx : Loc X.env.scope x := by first | exact Or.inl rfl | exact Or.inr rfl) (hs : swapsWith e (some (.Name x pos')) pos.line X.env = pure false := by rfl) (hf : X.fn x = true ∨ X.env.scope.names.lookup x = some .local := by first | exact .inl rfl | exact .inr rfl | assumption) :
    JS S X (.Assign [.Name x pos'] e pos) (sAsgM M i ue) := by
  obtain ⟨t, p, h⟩ := he.ex
  exact ⟨_, ps_set hN hi hx p hs hf, fun g0 B g H ρ σ D D' I hu gl => asg_core I _ gl h hu⟩
theorem js_expr (he : JE S X e ue) (hs : swapsWith e none pos.line X.env = pure false := by rfl) : JS S X (.Expr e pos) (sExpr ue) := by
  obtain ⟨t, p, h⟩ := he.ex
  refine ⟨_, ps_expr p hs, fun g0 B g H ρ σ D D' I hu gl => ?_⟩
  exact I.expr allM h (by rw [vis_all]; exact hu) fun v H' t d g' I' r f _ q => gl.nx g' H' _ _ I' q
end
end DL

/-! DLLoop: what is walked; for, while, comprehensions; lists that change. -/
namespace DL
open PySem PySem.Spec PyProof.Rows L2

/-! ### targets -/
/-- which places a target sets, by the datum -/
abbrev UG := D → Option (List (Nat × D))
@[simp] def gN (i : Nat) : UG := fun d => some [(i, d)]
@[simp] def gTs : List UG → List D → Option (List (Nat × D))
  | [], [] => some []
  | t :: ts, d :: ds => match t d, gTs ts ds with
    | some a, some b => some (a ++ b)
    | _, _ => none
  | _, _ => none
@[simp] def gT (ts : List UG) : UG
  | .tup ds => gTs ts ds
  | _ => none
@[simp] def setAll {α : Type} (ρ : List α) : List (Nat × α) → List α
  | [] => ρ
  | p :: r => setAll (ρ.set p.1 p.2) r
theorem setAll_append {α : Type} : ∀ (a b : List (Nat × α)) (ρ : List α), setAll ρ (a ++ b) = setAll (setAll ρ a) b
  | [], _, _ => rfl
  | p :: a, b, ρ => setAll_append a b (ρ.set p.1 p.2)
@[simp] def dset (L : List (Nat × D)) : List (Nat × Option (Bool × D)) := L.map fun p => (p.1, some (false, p.2))
/-- the places set, value by value -/
inductive Sets (g : G) (H : Hp) : List (Nat × D) → List (Nat × Option V) → Prop
  | nil : Sets g H [] []
  | cons {i : Nat} {d : D} {v : V} {L : List (Nat × D)} {M : List (Nat × Option V)} (r : Rep g H d v) (t : Sets g H L M) : Sets g H ((i, d) :: L) ((i, some v) :: M)
theorem Sets.append {g : G} {H : Hp} {L L' : List (Nat × D)} {M M' : List (Nat × Option V)} (a : Sets g H L M) (b : Sets g H L' M') : Sets g H (L ++ L') (M ++ M') := by
  induction a with
  | nil => exact b
  | cons r _ ih => exact .cons r ih
theorem Sets.inv {S : Src} {g : G} {H : Hp} {L : List (Nat × D)} {M : List (Nat × Option V)} (a : Sets g H L M) : ∀ {g0 : G} {B : Hp} {ρ : DEnv} {σ : L2.St}, SInv S g0 B g H ρ σ → SInv S g0 B g H (setAll ρ (dset L)) (setAll σ M) := by
  induction a with
  | nil => intro _ _ _ _ I; exact I
  | cons r _ ih =>
    intro _ _ _ _ I
    exact ih (I.set (t := false) r (fun z => by cases z))
theorem Sets.reps {g : G} {H : Hp} {L : List (Nat × D)} {M : List (Nat × Option V)} (a : Sets g H L M) : ∀ {ρ : DEnv} {σ : L2.St}, RepS g H ρ σ → RepS g H (setAll ρ (dset L)) (setAll σ M) := by
  induction a with
  | nil => intro _ _ I; exact I
  | cons r _ ih =>
    intro _ _ I
    exact ih (I.set r)
theorem wipe_in {j : Nat} : ∀ {vs : List Nat} {σ : L2.St}, j ∈ vs → (wipe σ vs)[j]? = (σ[j]?).map fun _ => none
  | [], _, h => by cases h
  | k :: r, σ, h => by
    show ((wipe σ r).set k none)[j]? = _
    by_cases e : k = j
    · subst e
      by_cases hl : k < σ.length
      · rw [List.getElem?_set_self (by rw [wipe_length]; exact hl), List.getElem?_eq_getElem hl]; rfl
      · rw [List.getElem?_eq_none (by rw [List.length_set, wipe_length]; omega), List.getElem?_eq_none (by omega)]; rfl
    · rw [List.getElem?_set_ne e]
      rcases List.mem_cons.mp h with h | h
      · exact absurd h.symm e
      · exact wipe_in h
theorem wipe_set {x : Option V} {i : Nat} {vs : List Nat} {σ : L2.St} (h : i ∈ vs) : wipe (σ.set i x) vs = wipe σ vs := by
  apply List.ext_getElem?
  intro j
  by_cases hj : j ∈ vs
  · rw [wipe_in hj, wipe_in hj, List.getElem?_set]
    split
    · rename_i e
      subst e
      split
      · rename_i hl
        rw [List.getElem?_eq_getElem hl]; rfl
      · rename_i hl
        rw [List.getElem?_eq_none (by omega)]
    · rfl
  · have hne : i ≠ j := fun e => hj (by rw [← e]; exact h)
    rw [wipe_out hj, wipe_out hj, List.getElem?_set_ne hne]
theorem wipe_setAll {vs : List Nat} : ∀ {M : List (Nat × Option V)} {σ : L2.St}, (∀ p ∈ M, p.1 ∈ vs) → wipe (setAll σ M) vs = wipe σ vs
  | [], _, _ => rfl
  | p :: M, σ, h => by
    show wipe (setAll (σ.set p.1 p.2) M) vs = _
    rw [wipe_setAll fun q hq => h q (List.mem_cons_of_mem _ hq), wipe_set (h p (List.mem_cons_self ..))]
theorem Sets.on {g : G} {H : Hp} {L : List (Nat × D)} {M : List (Nat × Option V)} {vs : List Nat} (a : Sets g H L M) (h : ∀ p ∈ L, p.1 ∈ vs) : ∀ p ∈ M, p.1 ∈ vs := by
  induction a with
  | nil => intro p hp; cases hp
  | cons r _ ih =>
    intro p hp
    rcases List.mem_cons.mp hp with rfl | hp
    · exact h (_, _) (List.mem_cons_self ..)
    · exact ih (fun q hq => h q (List.mem_cons_of_mem _ hq)) p hp
structure JG (S : Src) (X : Cx) (tg : Expr) (u : UG) (vs : List Nat) : Prop where
  ex : ∃ t : TG, PG X tg t ∧ ∀ (g : G) (H : Hp) (σ : L2.St) (d : D) (v : V) (L : List (Nat × D)) (P : L2.St → Hp → Prop), Rep g H d v → u d = some L → (∀ M, Sets g H L M → P (setAll σ M) H) → t v σ H P
  on : ∀ d L, u d = some L → ∀ p ∈ L, p.1 ∈ vs
structure JGs (S : Src) (X : Cx) (es : List Expr) (us : List UG) (vs : List Nat) : Prop where
  ex : ∃ t : TGs, PGs X es t ∧ ∀ (g : G) (H : Hp) (σ : L2.St) (ds : List D) (xs : List V) (L : List (Nat × D)) (P : L2.St → Hp → Prop), RepL g H ds xs → gTs us ds = some L → (∀ M, Sets g H L M → P (setAll σ M) H) → t xs σ H P
  on : ∀ ds L, gTs us ds = some L → ∀ p ∈ L, p.1 ∈ vs
section
variable {S : Src} {X : Cx} {pos : Pos}
theorem jg_name {i : Nat} {x : Str} (vs : List Nat) (hN : X.N.Nodup) (hi : X.N[i]? = some x := by rfl) (hx : Loc X.env.scope x := by first | exact Or.inl rfl | exact Or.inr rfl) (hv : i ∈ vs := by decide) (hf : X.fn x = true ∨ X.env.scope.names.lookup x = some .local := by first | exact .inl rfl | exact .inr rfl | assumption) : JG S X (.Name x pos) (gN i) vs := by
  refine ⟨⟨gName i, pg_name hN hi hx hf, fun g H σ d v L P r e h => ?_⟩, fun d L e p hp => ?_⟩
  · cases e
    exact h _ (.cons r .nil)
  · cases e
    cases hp with
    | head => exact hv
    | tail _ h => cases h
theorem jgs_nil (vs : List Nat) : JGs S X [] [] vs := by
  refine ⟨⟨gNil, pgs_nil, fun g H σ ds xs L P r e h => ?_⟩, fun ds L e p hp => ?_⟩
  · cases ds with
    | nil =>
      rw [RepL] at r
      cases e
      exact ⟨r, h _ .nil⟩
    | cons _ _ => cases e
  · cases ds with
    | nil => cases e; cases hp
    | cons _ _ => cases e
theorem gTs_cons {t : UG} {ts : List UG} {ds : List D} {L : List (Nat × D)} (e : gTs (t :: ts) ds = some L) : ∃ d r a b, ds = d :: r ∧ t d = some a ∧ gTs ts r = some b ∧ L = a ++ b := by
  cases ds with
  | nil => cases e
  | cons d r =>
    rw [gTs] at e
    split at e
    · rename_i a b h1 h2
      cases e
      exact ⟨d, r, a, b, rfl, h1, h2, rfl⟩
    · cases e
theorem jgs_cons {e : Expr} {es : List Expr} {t : UG} {ts : List UG} {vs : List Nat} (h1 : JG S X e t vs) (h2 : JGs S X es ts vs) (hs : (assignEach (e :: es) X.env).map (·.2) = assign e X.env :: (assignEach es X.env).map (·.2) := by rfl) : JGs S X (e :: es) (t :: ts) vs := by
  obtain ⟨⟨t1, p1, q1⟩, o1⟩ := h1
  obtain ⟨⟨t2, p2, q2⟩, o2⟩ := h2
  refine ⟨⟨gCons t1 t2, pgs_cons p1 p2 hs, fun g H σ ds xs L P r e h => ?_⟩, fun ds L e p hp => ?_⟩
  · obtain ⟨d, r', a, b, rfl, e1, e2, rfl⟩ := gTs_cons e
    rw [RepL] at r
    obtain ⟨v, vr, rfl, r1, r2⟩ := r
    refine ⟨v, vr, rfl, q1 g H σ d v a _ r1 e1 fun M hM => q2 g H _ r' vr b _ r2 e2 fun M' hM' => ?_⟩
    have := h (M ++ M') (hM.append hM')
    rwa [setAll_append] at this
  · obtain ⟨d, r', a, b, rfl, e1, e2, rfl⟩ := gTs_cons e
    rcases List.mem_append.mp hp with h | h
    · exact o1 d a e1 p h
    · exact o2 r' b e2 p h
theorem gTs_len : ∀ {ts : List UG} {ds : List D} {L : List (Nat × D)}, gTs ts ds = some L → ds.length = ts.length
  | [], [], _, _ => rfl
  | [], _ :: _, _, e => by cases e
  | t :: ts, ds, L, e => by
    obtain ⟨d, r', a, b, rfl, e1, e2, rfl⟩ := gTs_cons e
    rw [List.length_cons, List.length_cons, gTs_len e2]
theorem jg_tup {es : List Expr} {k : Nat} {ts : List UG} {vs : List Nat} (hc : X.calm = true) (h : JGs S X es ts vs) (hn : (assignEach es X.env).length = ts.length := by rfl) (hst : (assignEach es X.env).findIdx? (·.1) = none := by rfl) : JG S X (.Tuple es k pos) (gT ts) vs := by
  obtain ⟨⟨t1, p1, q1⟩, o1⟩ := h
  refine ⟨⟨gTup X.K ts.length t1, pg_tup hc p1 hn hst, fun g H σ d v L P r e h => ?_⟩, fun d L e p hp => ?_⟩
  · cases d with
    | tup ds =>
      rw [Rep] at r
      obtain ⟨a, xs, rfl, ra, l⟩ := r
      exact ⟨a, xs, rfl, ra.sq, by rw [l.len]; exact gTs_len e, q1 g H σ ds xs L P l e h⟩
    | _ => cases e
  · cases d with
    | tup ds => exact o1 ds L e p hp
    | _ => cases e
end

/-! ### what is walked -/
abbrev UI := DEnv → (List D → Prop) → Prop
structure Walks (S : Src) (g : G) (H : Hp) (J : It) (ds : List D) : Prop where
  go : ∀ i g' H', Up g H g' H' → HInv S g' H' → i < ds.length → J.go i H'
  stop : ∀ i g' H', Up g H g' H' → HInv S g' H' → ds.length ≤ i → J.stop i H'
  yld : ∀ i g' H' x H'' d, Up g H g' H' → HInv S g' H' → ds[i]? = some d → J.yld i H' x H'' → ∃ g'', Step g' H' g'' H'' ∧ HInv S g'' H'' ∧ Rep g'' H'' d x
structure JI (S : Src) (X : Cx) (tg it : Expr) (u : UI) : Prop where
  ex : ∃ w : TI, PI X tg it w ∧ ∀ (ρ : DEnv) (σ : L2.St) (g : G) (H : Hp) (Q : List D → Prop) (R : It → Hp → Prop), HInv S g H → RepS g H ρ σ → u ρ Q →
    (∀ J H' g' ds, Step g H g' H' → HInv S g' H' → Walks S g' H' J ds → Q ds → R J H') → w σ H R
@[simp] def itemsOf (Q : List D → Prop) : D → Prop
  | .lst ds => Q ds
  | .tup ds => Q ds
  | .str x => Q (x.cps.toList.map fun c => .str ⟨#[c]⟩)
  | _ => False
@[simp] def uIter (u : UE) (ρ : DEnv) (Q : (List D → Prop)) : Prop := u ρ fun _ d => itemsOf Q d
/-- a list, a tuple or a text is walked -/
def iSeq (K : PySem.W.Frag) (tl : TE) : TI := fun σ H R => tl σ H fun x H1 => (∃ a, x = .ref a ∧ (∃ xs, SqL K H1 a xs) ∧ R (Itl K a) H1) ∨ (∃ a, x = .ref a ∧ (∃ xs, SqT K H1 a xs) ∧ R (Itt K a) H1) ∨ (∃ z, x = .str z ∧ R (Its z) H1)
theorem pi_seq {X : Cx} {tg l : Expr} {tl : TE} (hl : PE X l tl) : PI X tg l (iSeq X.K tl) := by
  refine ⟨fun pins s σ H R I h => ?_⟩
  refine thn (hl.run pins s σ H _ I h) fun v s1 ⟨x, H1, I1, r1, q1⟩ => ?_
  rcases q1 with ⟨a, e, ⟨xs, hq⟩, q⟩ | ⟨a, e, ⟨xs, hq⟩, q⟩ | ⟨z, e, q⟩
  · subst e
    cases r1
    obtain ⟨its, rv, p, hz⟩ := I1.list hq
    refine wpAny_pyIter_list p.isList ?_
    refine ⟨s1.heap.objs.size, [s1.heap.objs.size], _, _, H1, rfl, I1.kept (t' := s1.toks) fun b o e => Heap.get?_push_of_some _ e, turn_list a _, ⟨_, Heap.get?_push_size _ rfl, rfl, rfl⟩, fun b hb => ?_, q⟩
    have e : b = s1.heap.objs.size := by simpa using hb
    subst e
    exact I1.fpOk (Nat.le_refl _) (I1.hok.fresh (Nat.le_refl _))
  · subst e
    cases r1
    obtain ⟨its, rv, p, hz⟩ := I1.tuple hq
    refine wpAny_pyIter_tuple (show s1.heap.IsTuple a its.toArray from p) ?_
    refine ⟨s1.heap.objs.size, [s1.heap.objs.size], _, _, H1, rfl, I1.kept (t' := s1.toks) fun b o e => Heap.get?_push_of_some _ e, turn_tuple a _, ⟨_, Heap.get?_push_size _ rfl, rfl, rfl⟩, fun b hb => ?_, q⟩
    have e : b = s1.heap.objs.size := by simpa using hb
    subst e
    exact I1.fpOk (Nat.le_refl _) (I1.hok.fresh (Nat.le_refl _))
  · subst e
    obtain ⟨t, rfl⟩ := r1
    cases ha : z.cps.all (· < 128)
    · exact wpAny_pyIter_wide ha (pi_one (tk := s1.toks) I1 _ (turn_str _ z t "str_iterator" (.inr rfl)) ⟨_, Heap.get?_push_size _ rfl, rfl, rfl⟩ q)
    · exact wpAny_pyIter_ascii ha (pi_one (tk := s1.toks) I1 _ (turn_str _ z t "str_ascii_iterator" (.inl rfl)) ⟨_, Heap.get?_push_size _ rfl, rfl, rfl⟩ q)
theorem Walks.list {S : Src} {K : PySem.W.Frag} {g : G} {H : Hp} {a : Addr} {xs : List V} {ds : List D} (r : RdL g H a xs) (l : RepL g H ds xs) : Walks S g H (Itl K a) ds where
  go := fun i g' H' u I hi => by
    have hi' : i < xs.length := by rw [l.len]; exact hi
    exact ⟨xs, xs[i], (r.step u).sq, List.getElem?_eq_getElem hi'⟩
  stop := fun i g' H' u I hi => ⟨xs, (r.step u).sq, by rw [l.len]; exact hi⟩
  yld := fun i g' H' x H'' d u I hd y => by
    obtain ⟨e, y⟩ := y
    subst e
    obtain ⟨v, hv, rv⟩ := (RepL.up u ds xs l).get hd
    have := y xs (r.step u).sq
    rw [hv] at this
    cases this
    exact ⟨g', Step.refl _ _, I, rv⟩
theorem Walks.tup {S : Src} {K : PySem.W.Frag} {g : G} {H : Hp} {a : Addr} {xs : List V} {ds : List D} (r : RdT g H a xs) (l : RepL g H ds xs) : Walks S g H (Itt K a) ds where
  go := fun i g' H' u I hi => by
    have hi' : i < xs.length := by rw [l.len]; exact hi
    exact ⟨xs, xs[i], (r.step u).sq, List.getElem?_eq_getElem hi'⟩
  stop := fun i g' H' u I hi => ⟨xs, (r.step u).sq, by rw [l.len]; exact hi⟩
  yld := fun i g' H' x H'' d u I hd y => by
    obtain ⟨e, y⟩ := y
    subst e
    obtain ⟨v, hv, rv⟩ := (RepL.up u ds xs l).get hd
    have := y xs (r.step u).sq
    rw [hv] at this
    cases this
    exact ⟨g', Step.refl _ _, I, rv⟩
theorem Walks.text {S : Src} {g : G} {H : Hp} {z : Str} : Walks S g H (Its z) (z.cps.toList.map fun c => .str ⟨#[c]⟩) where
  go := fun i g' H' u I hi => by
    show i < z.cps.size
    simpa using hi
  stop := fun i g' H' u I hi => by
    show z.cps.size ≤ i
    simpa using hi
  yld := fun i g' H' x H'' d u I hd y => by
    obtain ⟨e, c, hc, hx⟩ := y
    subst e hx
    rw [List.getElem?_map] at hd
    rw [← Array.getElem?_toList] at hc
    rw [hc] at hd
    cases hd
    exact ⟨g', Step.refl _ _, I, by rw [Rep]⟩
theorem ji_seq {S : Src} {X : Cx} {tg l : Expr} {u : UE} (h : JE S X l u) : JI S X tg l (uIter u) := by
  obtain ⟨t, p, h⟩ := h.ex
  refine ⟨iSeq X.K t, pi_seq p, fun ρ σ g H Q R I RS hu hR => h ρ σ g H _ _ I RS hu fun v H1 e => ?_⟩
  obtain ⟨g1, d, s1, I1, r1, _, q1⟩ := e.rep
  cases d with
  | lst ds =>
    rw [Rep] at r1
    obtain ⟨a, xs, rfl, ra, l⟩ := r1
    exact .inl ⟨a, rfl, ⟨xs, ra.sq⟩, hR _ _ g1 ds s1 I1 (.list ra l) q1⟩
  | tup ds =>
    rw [Rep] at r1
    obtain ⟨a, xs, rfl, ra, l⟩ := r1
    exact .inr (.inl ⟨a, rfl, ⟨xs, ra.sq⟩, hR _ _ g1 ds s1 I1 (.tup ra l) q1⟩)
  | str z =>
    rw [Rep] at r1
    exact .inr (.inr ⟨z, r1, hR _ _ g1 _ s1 I1 .text q1⟩)
  | _ => exact (show False from q1).elim
/-- lo, lo + 1, .. -/
def rngD (lo : Int) (n : Nat) : List D := (List.range n).map fun k => .int (lo + (k : Nat))
theorem Walks.rng {S : Src} {g : G} {H : Hp} {lo : Int} {n : Nat} : Walks S g H (Itr lo n) (rngD lo n) where
  go := fun i g' H' u I hi => by
    show i < n
    simpa [rngD] using hi
  stop := fun i g' H' u I hi => by
    show n ≤ i
    simpa [rngD] using hi
  yld := fun i g' H' x H'' d u I hd y => by
    obtain ⟨e, hx⟩ := y
    subst e hx
    unfold rngD at hd
    rw [List.getElem?_map] at hd
    cases e : (List.range n)[i]? with
    | none => rw [e] at hd; cases hd
    | some k =>
      rw [e] at hd
      cases hd
      obtain ⟨h1, h2⟩ := List.getElem?_eq_some_iff.mp e
      rw [List.getElem_range] at h2
      subst h2
      exact ⟨g', Step.refl _ _, I, by rw [Rep]⟩
@[simp] def rng1 (Q : List D → Prop) : List D → Prop
  | [.int j] => (-(2 ^ 62) ≤ j ∧ j < 2 ^ 62) ∧ Q (rngD 0 j.toNat)
  | _ => False
@[simp] def rng2 (Q : List D → Prop) : List D → Prop
  | [.int i, .int j] => (-(2 ^ 62) ≤ i ∧ i < 2 ^ 62 ∧ -(2 ^ 62) ≤ j ∧ j < 2 ^ 62) ∧ Q (rngD i (j - i).toNat)
  | _ => False
@[simp] def uRng1 (u : UA) (ρ : DEnv) (Q : (List D → Prop)) : Prop := u ρ (rng1 Q)
@[simp] def uRng2 (u : UA) (ρ : DEnv) (Q : (List D → Prop)) : Prop := u ρ (rng2 Q)
theorem ji_range1 {S : Src} {X : Cx} {tg a : Expr} {u : UA} {p pos : Pos} (hg : Gl X "range") (hm : X.mg "range" = none) (ha : JA S X [a] u) (hs : starEach [a] X.env = [(false, eval a X.env)] := by rfl) : JI S X tg (.Call (.Name "range" p) [a] [] pos) (uRng1 u) := by
  obtain ⟨t, pa, h⟩ := ha.ex
  refine ⟨_, pi_range1 hg hm pa hs, fun ρ σ g H Q R I RS hu hR => h ρ σ g H _ _ I RS hu fun vs H1 e => ?_⟩
  obtain ⟨g1, ds, s1, I1, r1, q1⟩ := e
  unfold rng1 at q1
  split at q1
  · rename_i j
    simp only [RepL, Rep] at r1
    obtain ⟨v, r', rfl, rfl, rfl⟩ := r1
    exact ⟨j, rfl, q1.1.1, q1.1.2, hR _ _ g1 _ s1 I1 .rng q1.2⟩
  · exact q1.elim
theorem ji_range2 {S : Src} {X : Cx} {tg a b : Expr} {u : UA} {p pos : Pos} (hg : Gl X "range") (hm : X.mg "range" = none) (ha : JA S X [a, b] u) (hs : starEach [a, b] X.env = [(false, eval a X.env), (false, eval b X.env)] := by rfl) (hs2 : starEach [b] X.env = [(false, eval b X.env)] := by rfl) : JI S X tg (.Call (.Name "range" p) [a, b] [] pos) (uRng2 u) := by
  obtain ⟨t, pa, h⟩ := ha.ex
  refine ⟨_, pi_range2 hg hm pa hs hs2, fun ρ σ g H Q R I RS hu hR => h ρ σ g H _ _ I RS hu fun vs H1 e => ?_⟩
  obtain ⟨g1, ds, s1, I1, r1, q1⟩ := e
  unfold rng2 at q1
  split at q1
  · rename_i i j
    simp only [RepL, Rep] at r1
    obtain ⟨v, r', rfl, rfl, w, r2, rfl, rfl, rfl⟩ := r1
    exact ⟨i, j, rfl, q1.1, hR _ _ g1 _ s1 I1 .rng q1.2⟩
  · exact q1.elim

/-! ### for -/
def loopU (gt : UG) (ub : US) : List D → US
  | [] => fun D ρ => D.nx ρ
  | d :: r => fun D ρ => match gt d with
    | some L => ub { D with nx := loopU gt ub r D, ct := loopU gt ub r D, bk := D.nx } (setAll ρ (dset L))
    | none => False
def HoldL (x : UG × US × UEnds) (ds : List D) (ρ : DEnv) (_ : Tag x) : Prop := loopU x.1 x.2.1 ds x.2.2 ρ
theorem holdL {gt : UG} {ub : US} {E : UEnds} {ds : List D} {ρ : DEnv} {t : Tag (gt, ub, E)} (h : loopU gt ub ds E ρ) : HoldL (gt, ub, E) ds ρ t := h
/-- the loop over what an expression gives; own lists in M, which it may name, are shared from then on -/
@[simp] def sFor (M : List Nat) (ui : UI) (gt : UG) (ub : US) (D : UEnds) (ρ : DEnv) : Prop := ui (vis (fun j => M.contains j) ρ) fun ds => HoldL (gt, ub, D) ds (freeze (fun j => M.contains j) ρ) ⟨⟩
/-- the loop over numbers -/
@[simp] def sForR (ui : UI) (gt : UG) (ub : US) (D : UEnds) (ρ : DEnv) : Prop := ui ρ fun ds => HoldL (gt, ub, D) ds ρ ⟨⟩
section
variable {S : Src} {g0 g g1 : G} {B H H1 : Hp} {ρ : DEnv} {σ : L2.St}
/-- what may not change while the body runs: all but the own lists -/
noncomputable def based (ρ : DEnv) (σ : L2.St) (H : Hp) : Hp := fun a => open Classical in if ∃ (i : Nat) (d : D), ρ[i]? = some (some (true, d)) ∧ σ[i]? = some (some (V.ref a)) then none else H a
theorem based_some {a : Addr} {o : HO} (h : based ρ σ H a = some o) : H a = some o ∧ ¬ ∃ (i : Nat) (d : D), ρ[i]? = some (some (true, d)) ∧ σ[i]? = some (some (V.ref a)) := by
  unfold based at h
  split at h
  · cases h
  · rename_i n
    exact ⟨h, n⟩
theorem based_none {a : Addr} (h : based ρ σ H a = none) : H a = none ∨ ∃ (i : Nat) (d : D), ρ[i]? = some (some (true, d)) ∧ σ[i]? = some (some (V.ref a)) := by
  unfold based at h
  split at h
  · rename_i n
    exact .inr n
  · exact .inl h
theorem SInv.ownN (I : SInv S g0 B g H ρ σ) {a : Addr} (h : ∃ (i : Nat) (d : D), ρ[i]? = some (some (true, d)) ∧ σ[i]? = some (some (V.ref a))) : B a = none ∧ ¬ g.fz a ∧ ¬ g.rl a ∧ ∃ xs, H a = some (.lst xs) := by
  obtain ⟨i, d, h1, h2⟩ := h
  obtain ⟨a', xs, ds, e1, _, e2, e3, e4, e5, _⟩ := I.own i d h1
  rw [h2] at e1
  cases e1
  exact ⟨e3, e4, e5, xs, e2⟩
theorem SInv.step {g' : G} {H' : Hp} (I : SInv S g0 B g H ρ σ) (s : Step g H g' H') (I' : HInv S g' H') : SInv S g0 B g' H' ρ σ where
  st := I.st.trans s
  hi := I'
  len := I.len
  own := fun i d e => by
    obtain ⟨a, xs, ds, h1, rfl, h2, h3, h4, h5, h6⟩ := I.own i d e
    refine ⟨a, xs, ds, h1, rfl, s.keep a _ h2 h5, h3, fun z => ?_, fun z => ?_, h6.step I.hi s⟩
    · rcases s.fzn a z with q | q
      · exact h4 q
      · rw [h2] at q; cases q
    · rcases s.rln a z with q | q
      · exact h5 q
      · rw [h2] at q; cases q
  inj := I.inj
  imm := fun i d e => by
    obtain ⟨v, hv, r⟩ := I.imm i d e
    exact ⟨v, hv, r.step I.hi s⟩
/-- from here on, with the heap as it stands -/
theorem SInv.rebase (I : SInv S g0 B g H ρ σ) : SInv S g (based ρ σ H) g H ρ σ where
  st := ⟨fun _ h => h, fun _ h => .inl h, fun _ h => h, fun _ h => .inl h, fun _ => rfl, fun a o e _ => (based_some e).1, fun a o e => ⟨o, (based_some e).1⟩⟩
  hi := I.hi
  len := I.len
  own := fun i d e => by
    obtain ⟨a, xs, ds, h1, rfl, h2, h3, h4, h5, h6⟩ := I.own i d e
    refine ⟨a, xs, ds, h1, rfl, h2, ?_, h4, h5, h6⟩
    unfold based
    rw [if_pos ⟨i, _, e, h1⟩]
  inj := I.inj
  imm := I.imm
theorem SInv.based_hi (I : SInv S g0 B g H ρ σ) : HInv S g (based ρ σ H) where
  fz := fun a h => by
    obtain ⟨o, e⟩ := I.hi.fz a h
    refine ⟨o, ?_⟩
    unfold based
    rw [if_neg fun z => (I.ownN z).2.1 h]
    exact e
  dis := I.hi.dis
  rl := fun x => S.loc _ _ _ _ (fun a ha => by
    unfold based
    rw [if_neg fun z => (I.ownN z).2.2.1 ha]) (I.hi.rl x)
/-- .. and back -/
theorem SInv.unbase (I : SInv S g0 B g H ρ σ) {ρ' : DEnv} {σ' : L2.St} (J : SInv S g (based ρ σ H) g1 H1 ρ' σ') : SInv S g0 B g1 H1 ρ' σ' where
  st := by
    refine ⟨fun a h => J.st.fz a (I.st.fz a h), fun a h => ?_, fun a h => J.st.rl a (I.st.rl a h), fun a h => ?_, fun ⟨a, h⟩ => (J.st.rp ⟨a, I.st.rl a h⟩).trans (I.st.rp ⟨a, h⟩), fun a o e n => ?_, fun a o e => ?_⟩
    · rcases J.st.fzn a h with z | z
      · exact I.st.fzn a z
      · rcases based_none z with z | z
        · exact .inr (I.st.free z)
        · exact .inr (I.ownN z).1
    · rcases J.st.rln a h with z | z
      · exact I.st.rln a z
      · rcases based_none z with z | z
        · exact .inr (I.st.free z)
        · exact .inr (I.ownN z).1
    · have e1 := I.st.keep a o e n
      refine J.st.keep a o ?_ fun z => ?_
      · unfold based
        rw [if_neg fun z => by
          rw [(I.ownN z).1] at e
          cases e]
        exact e1
      · rcases I.st.rln a z with q | q
        · exact n q
        · rw [e] at q; cases q
    · obtain ⟨o1, e1⟩ := I.st.there a o e
      refine J.st.there a o1 ?_
      unfold based
      rw [if_neg fun z => by
        rw [(I.ownN z).1] at e
        cases e]
      exact e1
  hi := J.hi
  len := J.len
  own := fun i d e => by
    obtain ⟨a, xs, ds, h1, rfl, h2, h3, h4, h5, h6⟩ := J.own i d e
    refine ⟨a, xs, ds, h1, rfl, h2, ?_, h4, h5, h6⟩
    rcases based_none h3 with z | z
    · exact I.st.free z
    · exact (I.ownN z).1
  inj := J.inj
  imm := J.imm
/-- what stands while the body runs -/
theorem SInv.up (I : SInv S g0 B g H ρ σ) {ρ' : DEnv} {σ' : L2.St} (J : SInv S g (based ρ σ H) g1 H1 ρ' σ') : Up g H g1 H1 := by
  have u := J.st.up I.based_hi
  have bt : ∀ a xs, H a = some (.tup xs) → based ρ σ H a = some (.tup xs) := fun a xs e => by
    unfold based
    rw [if_neg fun z => by
      obtain ⟨_, _, _, ys, h3⟩ := I.ownN z
      rw [h3] at e
      cases e]
    exact e
  refine ⟨u.fz, u.rl, fun a xs e n => u.rt a xs (bt a xs e) n, u.rp, fun a xs e => u.kt a xs (bt a xs e), fun a o f e => u.kf a o f ?_⟩
  unfold based
  rw [if_neg fun z => (I.ownN z).2.1 f]
  exact e
end

section
variable {S : Src} {X : Cx} {pos : Pos}
theorem for_core {g0 g : G} {B H : Hp} {ρ : DEnv} {σ : L2.St} (I : SInv S g0 B g H ρ σ) {J : It} {ds : List D} (W : Walks S g H J ds) {gt : UG} {vs : List Nat} {t : TG} {tb : TS} {ub : US} {E : UEnds} {E' : Ends}
    (hg : ∀ (g : G) (H : Hp) (σ : L2.St) (d : D) (v : V) (L : List (Nat × D)) (P : L2.St → Hp → Prop), Rep g H d v → gt d = some L → (∀ M, Sets g H L M → P (setAll σ M) H) → t v σ H P)
    (hb : ∀ (g0 : G) (B : Hp) (g : G) (H : Hp) (ρ : DEnv) (σ : L2.St) (D : UEnds) (D' : Ends), SInv S g0 B g H ρ σ → ub D ρ → Glue S g0 B D D' → tb D' σ H)
    (hu : loopU gt ub ds E ρ) (gl : Glue S g0 B E E') :
    ∃ Wn : Nat → Nat → L2.St → Hp → Prop, (∃ m, Wn 0 m σ H) ∧ ∀ i m σ H, Wn i m σ H →
      (J.stop i H ∧ E'.nx σ H) ∨ (J.go i H ∧ ∃ N : L2.St → Hp → Prop, (∀ σ' H', N σ' H' → ∃ m', m' < m ∧ Wn (i + 1) m' σ' H') ∧ ∀ x H', J.yld i H x H' → t x σ H' fun σ2 H2 => tb { E' with nx := N, ct := N, bk := E'.nx } σ2 H2) := by
  have Ib := I.rebase
  refine ⟨fun i m σ' H' => m = ds.length - i ∧ i ≤ ds.length ∧ ∃ g' ρ', SInv S g (based ρ σ H) g' H' ρ' σ' ∧ loopU gt ub (ds.drop i) E ρ', ⟨ds.length, by simp, Nat.zero_le _, g, ρ, Ib, by simpa using hu⟩, ?_⟩
  rintro i m σ1 H1 ⟨rfl, hi, g1, ρ1, I1, hu1⟩
  have up := I.up I1
  by_cases hlt : i < ds.length
  · refine .inr ⟨W.go i g1 H1 up I1.hi hlt, fun σ' H' => ∃ g' ρ', SInv S g (based ρ σ H) g' H' ρ' σ' ∧ loopU gt ub (ds.drop (i + 1)) E ρ', fun σ' H' ⟨g', ρ', I', h'⟩ => ⟨ds.length - (i + 1), by omega, rfl, hlt, g', ρ', I', h'⟩, fun x H2 y => ?_⟩
    have hd : ds[i]? = some ds[i] := List.getElem?_eq_getElem hlt
    obtain ⟨g2, s2, I2, r2⟩ := W.yld i g1 H1 x H2 ds[i] up I1.hi hd y
    have I2' : SInv S g (based ρ σ H) g2 H2 ρ1 σ1 := I1.step s2 I2
    rw [List.drop_eq_getElem_cons hlt] at hu1
    unfold loopU at hu1
    cases e : gt ds[i] with
    | none => rw [e] at hu1; exact hu1.elim
    | some L =>
      rw [e] at hu1
      refine hg g2 H2 σ1 ds[i] x L _ r2 e fun M hM => ?_
      refine hb g (based ρ σ H) g2 H2 _ _ _ _ (hM.inv I2') hu1 ⟨fun g' H' ρ' σ' I' h' => ⟨g', ρ', I', h'⟩, fun g' H' v tt d st hi r f q => ?_, fun g' H' ρ' σ' I' h' => gl.nx g' H' ρ' σ' (I.unbase I') h', fun g' H' ρ' σ' I' h' => ⟨g', ρ', I', h'⟩⟩
      have J' : SInv S g (based ρ σ H) g' H' [] [] := ⟨st, hi, rfl, fun i d e => (by simp at e), fun i j d e a h => (by simp at h), fun i d e => (by simp at e)⟩
      have J0 := I.unbase J'
      refine gl.rt g' H' v tt d J0.st hi r (fun z a ea => ?_) q
      rcases based_none (f z a ea) with w | w
      · exact I.st.free w
      · exact (I.ownN w).1
  · have e : i = ds.length := by omega
    subst e
    refine .inl ⟨W.stop _ g1 H1 up I1.hi (Nat.le_refl _), gl.nx g1 H1 ρ1 σ1 (I.unbase I1) ?_⟩
    rw [List.drop_length] at hu1
    exact hu1
theorem js_for (M : List Nat) {tg it : Expr} {body : List Stmt} {ui : UI} {gt : UG} {vs : List Nat} {ub : US} (hp : PassesOwn (model X.prog X.w) X.A X.env X.xe) (hc : X.calm = true) (hi : JI S X tg it ui) (hg : JG S X tg gt vs) (hb : JSs S X body ub) 
    (hs : ∀ x, foldedSetIterable it X.env x = pure x := by intro _; rfl) : JS S X (.For tg it body [] pos) (sFor M ui gt ub) := by
  obtain ⟨w, pw, hi⟩ := hi.ex
  obtain ⟨⟨t, pt, hg⟩, _⟩ := hg
  obtain ⟨tb, pb, hb⟩ := hb.ex
  refine ⟨_, ps_for hp hc pw pt pb hs, fun g0 B g H ρ σ D D' I hu gl => ?_⟩
  obtain ⟨gv, Iv, Rv, fin⟩ := I.view fun j => M.contains j
  refine hi _ σ gv H _ _ Iv Rv hu fun J H' g' ds s I' W hq => ?_
  exact for_core (vs := vs) (fin g' H' s I').1 W hg hb hq gl
end
end DL

/-! DLComp: comprehensions over data. -/
namespace DL
open PySem PySem.Spec PyProof.Rows L2

/-! ### one reading for every context -/
def canE (S : Src) (u : UE) : TE := fun σ H P => ∃ ρ g Q, HInv S g H ∧ RepS g H ρ σ ∧ u ρ Q ∧ ∀ v H', EPost S g H Q v H' → P v H'
def canT (S : Src) (u : UT) : TT := fun σ H P => ∃ ρ g Q, HInv S g H ∧ RepS g H ρ σ ∧ u ρ Q ∧ ∀ v H', TPost S g H Q v H' → P v H'
def canI (S : Src) (u : UI) : TI := fun σ H R => ∃ (ρ : DEnv) (g : G) (Q : List D → Prop), HInv S g H ∧ RepS g H ρ σ ∧ u ρ Q ∧ ∀ J H' g' ds, Step g H g' H' → HInv S g' H' → Walks S g' H' J ds → Q ds → R J H'
def canG (u : UG) : TG := fun v σ H P => ∃ (g : G) (d : D) (L : List (Nat × D)), Rep g H d v ∧ u d = some L ∧ ∀ M, Sets g H L M → P (setAll σ M) H
section
variable {S : Src} {X : Cx}
theorem JE.can {e : Expr} {u : UE} (h : JE S X e u) : PE X e (canE S u) := by
  obtain ⟨t, p, h⟩ := h.ex
  exact ⟨fun pins s σ H Q I ⟨ρ, g, Q', hi, hr, hu, hp⟩ => p.run pins s σ H Q I (h ρ σ g H Q' Q hi hr hu hp)⟩
theorem JT.can {e : Expr} {u : UT} (h : JT S X e u) : PT X e (canT S u) := by
  obtain ⟨t, p, h⟩ := h.ex
  exact ⟨fun pins s σ H Q I ⟨ρ, g, Q', hi, hr, hu, hp⟩ => p.run pins s σ H Q I (h ρ σ g H Q' Q hi hr hu hp)⟩
theorem JI.can {tg e : Expr} {u : UI} (h : JI S X tg e u) : PI X tg e (canI S u) := by
  obtain ⟨t, p, h⟩ := h.ex
  exact ⟨fun pins s σ H Q I ⟨ρ, g, Q', hi, hr, hu, hp⟩ => p.run pins s σ H Q I (h ρ σ g H Q' Q hi hr hu hp)⟩
theorem JG.can {e : Expr} {u : UG} {vs : List Nat} (h : JG S X e u vs) : PG X e (canG u) := by
  obtain ⟨⟨t, p, h⟩, _⟩ := h
  exact ⟨fun pins s σ H v w Q I r ⟨g, d, L, hr, hu, hp⟩ => p.run pins s σ H v w Q I r (h g H σ d v L Q hr hu hp)⟩
/-- a clause's tests: none, or one -/
structure JTs (S : Src) (X : Cx) (ifs : List Expr) (u : UT) : Prop where
  ps : PTs X ifs (canT S u)
@[simp] def uYes (_ : DEnv) (Q : (Bool → Prop)) : Prop := Q true
theorem jts_nil : JTs S X [] uYes := ⟨⟨fun pins s σ H Q I ⟨ρ, g, Q', hi, hr, hu, hp⟩ => pts_nil.run pins s σ H Q I (hp true H ⟨g, Step.refl g H, hi, hu⟩)⟩⟩
theorem jts_one {c : Expr} {u : UT} (h : JT S X c u) : JTs S X [c] u := ⟨pts_one h.can⟩
end

/-! ### names of a comprehension's own -/
@[simp] def wipeD (ρ : DEnv) : List Nat → DEnv
  | [] => ρ
  | v :: vs => (wipeD ρ vs).set v none
theorem wipeD_len (ρ : DEnv) : ∀ vs : List Nat, (wipeD ρ vs).length = ρ.length
  | [] => rfl
  | v :: vs => by show ((wipeD ρ vs).set v none).length = _; rw [List.length_set, wipeD_len]
theorem wipeD_some {ρ : DEnv} {i : Nat} {x : Bool × D} : ∀ {vs : List Nat}, (wipeD ρ vs)[i]? = some (some x) → ρ[i]? = some (some x) ∧ i ∉ vs
  | [], h => ⟨h, fun z => by cases z⟩
  | v :: vs, h => by
    have h : ((wipeD ρ vs).set v none)[i]? = some (some x) := h
    by_cases e : v = i
    · subst e
      by_cases hl : v < (wipeD ρ vs).length
      · rw [List.getElem?_set_self hl] at h; cases h
      · rw [List.getElem?_eq_none (by rw [List.length_set]; omega)] at h; cases h
    · rw [List.getElem?_set_ne e] at h
      obtain ⟨h1, h2⟩ := wipeD_some h
      exact ⟨h1, fun z => by
        rcases List.mem_cons.mp z with z | z
        · exact e z.symm
        · exact h2 z⟩
theorem RepS.wipe {g : G} {H : Hp} {ρ : DEnv} {σ : L2.St} (R : RepS g H ρ σ) (vs : List Nat) : RepS g H (wipeD ρ vs) (L2.wipe σ vs) :=
  ⟨by rw [wipeD_len, wipe_length]; exact R.len, fun i t d e => by
    obtain ⟨h1, h2⟩ := wipeD_some e
    obtain ⟨v, hv, r⟩ := R.get i t d h1
    exact ⟨v, by rw [wipe_out h2]; exact hv, r⟩⟩

/-! ### [elt for target in iter if ..] -/
def lcU (ρ : DEnv) (gt : UG) (ut : UT) (ue : UE) : List D → List D → (List D → Prop) → Prop
  | [], ys, k => k ys
  | d :: r, ys, k => match gt d with
    | some L => ut (setAll ρ (dset L)) fun b => if b = true then ue (setAll ρ (dset L)) fun _ y => lcU ρ gt ut ue r (ys ++ [y]) k else lcU ρ gt ut ue r ys k
    | none => False
def HoldC (x : UG × UT × UE × (List D → Prop)) (ds : List D) (ρ : DEnv) (_ : Tag x) : Prop := lcU ρ x.1 x.2.1 x.2.2.1 ds [] x.2.2.2
theorem holdC {gt : UG} {ut : UT} {ue : UE} {K : List D → Prop} {ds : List D} {ρ : DEnv} {t : Tag (gt, ut, ue, K)} (h : lcU ρ gt ut ue ds [] K) : HoldC (gt, ut, ue, K) ds ρ t := h
@[simp] def uLc (ui : UI) (gt : UG) (ut : UT) (ue : UE) (vs : List Nat) (ρ : DEnv) (Q : UK) : Prop := ui ρ fun ds => ds.length ≤ sizeLine ∧ HoldC (gt, ut, ue, fun ys => Q true (.lst ys)) ds (wipeD ρ vs) ⟨⟩
theorem HInv.upd {S : Src} {g : G} {H : Hp} (I : HInv S g H) {a : Addr} {o : HO} (h1 : ¬ g.fz a) (h2 : ¬ g.rl a) : HInv S g (L2.upd H a o) where
  fz := fun b h => by
    obtain ⟨u, e⟩ := I.fz b h
    exact ⟨u, by rw [upd_ne (fun z => h1 (by rw [← z]; exact h))]; exact e⟩
  dis := I.dis
  rl := fun x => S.loc _ _ _ _ (fun b hb => by rw [upd_ne (fun z => h2 (by rw [← z]; exact hb))]) (I.rl x)
theorem Up.upd {g : G} {H : Hp} {a : Addr} {o : HO} {xs : List V} (e : H a = some (.lst xs)) (h1 : ¬ g.fz a) : Up g H g (L2.upd H a o) :=
  ⟨fun _ h => h, fun _ h => h, fun _ _ _ n => n, fun _ => rfl, fun b ys h => by
    rw [upd_ne (fun z => by
      rw [z, e] at h
      cases h)]
    exact h, fun b u f h => by
    rw [upd_ne (fun z => h1 (by rw [← z]; exact f))]
    exact h⟩
/-- the new list of a comprehension: laid, filled -/
structure Fills (S : Src) (g1 : G) (H1 : Hp) (A : Addr) (g : G) (H : Hp) (ys : List D) : Prop where
  st : Step g1 H1 g H
  hi : HInv S g H
  at_ : ∃ acc, H A = some (.lst acc) ∧ RepL g H ys acc
  nf : ¬ g.fz A
  nr : ¬ g.rl A
theorem Fills.step {S : Src} {g1 : G} {H1 : Hp} {A : Addr} {g : G} {H : Hp} {ys : List D} (F : Fills S g1 H1 A g H ys) {g' : G} {H' : Hp} (s : Step g H g' H') (I : HInv S g' H') : Fills S g1 H1 A g' H' ys where
  st := F.st.trans s
  hi := I
  at_ := by
    obtain ⟨acc, e, l⟩ := F.at_
    exact ⟨acc, s.keep A _ e F.nr, l.step F.hi s⟩
  nf := fun z => by
    obtain ⟨acc, e, l⟩ := F.at_
    rcases s.fzn A z with q | q
    · exact F.nf q
    · rw [e] at q; cases q
  nr := fun z => by
    obtain ⟨acc, e, l⟩ := F.at_
    rcases s.rln A z with q | q
    · exact F.nr q
    · rw [e] at q; cases q
theorem Fills.app {S : Src} {g1 : G} {H1 : Hp} {A : Addr} {g : G} {H : Hp} {ys : List D} (F : Fills S g1 H1 A g H ys) (hA : H1 A = none) {acc : List V} (e : H A = some (.lst acc)) {y : D} {v : V} (r : Rep g H y v) : Fills S g1 H1 A g (L2.upd H A (.lst (acc ++ [v]))) (ys ++ [y]) := by
  obtain ⟨acc', e', l⟩ := F.at_
  rw [e] at e'
  cases e'
  have u : Up g H g (L2.upd H A (.lst (acc ++ [v]))) := Up.upd e F.nf
  refine ⟨⟨F.st.fz, F.st.fzn, F.st.rl, F.st.rln, F.st.rp, fun a o h n => ?_, fun a o h => ?_⟩, F.hi.upd F.nf F.nr, ⟨_, upd_same, RepL.append (RepL.up u _ _ l) (RepL.cons (Rep.up u _ _ r) RepL.nil)⟩, F.nf, F.nr⟩
  · rw [upd_ne (ne_of_none h hA)]
    exact F.st.keep a o h n
  · rw [upd_ne (ne_of_none h hA)]
    exact F.st.there a o h
section
variable {S : Src} {X : Cx}
theorem lift_lc {ui : UI} {gt : UG} {ut : UT} {ue : UE} {vs : List Nat} (hon : ∀ d L, gt d = some L → ∀ p ∈ L, p.1 ∈ vs) {ρ : DEnv} {σ : L2.St} {g : G} {H : Hp} {Q : UK} {P : VK} (I : HInv S g H) (R : RepS g H ρ σ) (hu : uLc ui gt ut ue vs ρ Q) (hP : ∀ v H', EPost S g H Q v H' → P v H') :
    tLc (canI S ui) (canG gt) (canT S ut) (canE S ue) vs σ H P := by
  refine ⟨ρ, g, _, I, R, hu, fun J H1 g1 ds s1 I1 W hq A hA => ?_⟩
  obtain ⟨hz, hq⟩ := hq
  refine ⟨fun i m H' => m = ds.length - i ∧ i ≤ ds.length ∧ ∃ g' ys, Fills S g1 H1 A g' H' ys ∧ ys.length ≤ i ∧ lcU (wipeD ρ vs) gt ut ue (ds.drop i) ys fun ys => Q true (.lst ys), ⟨ds.length, by simp, Nat.zero_le _, g1, [], ?_, Nat.zero_le _, hq⟩, ?_⟩
  · exact ⟨Step.laid g1 _ hA, I1.laid _ hA, ⟨[], upd_same, RepL.nil⟩, I1.nfz hA, I1.nrl hA⟩
  rintro i m H2 ⟨rfl, hi, g2, ys, F, hy, h2⟩
  by_cases hlt : i < ds.length
  · refine .inr ⟨W.go i g2 H2 (F.st.up I1) F.hi hlt, fun H' => ∃ g' ys, Fills S g1 H1 A g' H' ys ∧ ys.length ≤ i + 1 ∧ lcU (wipeD ρ vs) gt ut ue (ds.drop (i + 1)) ys fun ys => Q true (.lst ys), fun H' ⟨g', ys, F', h3, h4⟩ => ⟨ds.length - (i + 1), by omega, rfl, hlt, g', ys, F', h3, h4⟩, fun x H3 y => ?_⟩
    have hd : ds[i]? = some ds[i] := List.getElem?_eq_getElem hlt
    obtain ⟨g3, s3, I3, r3⟩ := W.yld i g2 H2 x H3 ds[i] (F.st.up I1) F.hi hd y
    have F3 := F.step s3 I3
    rw [List.drop_eq_getElem_cons hlt] at h2
    unfold lcU at h2
    cases e : gt ds[i] with
    | none => rw [e] at h2; exact h2.elim
    | some L =>
      rw [e] at h2
      refine ⟨g3, ds[i], L, r3, e, fun M hM => ⟨wipe_setAll (hM.on (hon _ _ e)) |>.trans ?_, ?_⟩⟩
      · exact (List.ext_getElem? fun j => by
          by_cases hj : j ∈ vs
          · rw [wipe_in hj, wipe_in hj]
            cases (σ[j]?) <;> rfl
          · rw [wipe_out hj])
      have Rw : RepS g3 H3 (wipeD ρ vs) (L2.wipe σ vs) := ((R.step I (s1.trans F3.st)).wipe vs)
      have Rs := hM.reps Rw
      refine ⟨_, g3, _, I3, Rs, h2, fun b H4 tp => ?_⟩
      obtain ⟨g4, s4, I4, q4⟩ := tp
      have F4 := F3.step s4 I4
      cases b with
      | false =>
        simp only [Bool.false_eq_true, if_false] at q4 ⊢
        exact ⟨g4, ys, F4, by omega, q4⟩
      | true =>
        simp only [if_true] at q4 ⊢
        refine ⟨_, g4, _, I4, Rs.step I3 s4, q4, fun v H5 e5 => ?_⟩
        obtain ⟨g5, yd, s5, I5, r5, _, q5⟩ := e5.rep
        have F5 := F4.step s5 I5
        obtain ⟨acc, ea, la⟩ := F5.at_
        refine ⟨acc, ea, by rw [la.len]; omega, g5, ys ++ [yd], F5.app hA ea r5, by rw [List.length_append]; show ys.length + 1 ≤ i + 1; omega, q5⟩
  · have e : i = ds.length := by omega
    subst e
    refine .inl ⟨W.stop _ g2 H2 (F.st.up I1) F.hi (Nat.le_refl _), hP _ _ ?_⟩
    rw [List.drop_length] at h2
    obtain ⟨acc, ea, la⟩ := F.at_
    exact ⟨g2, true, .lst ys, s1.trans F.st, F.hi, ⟨A, acc, ys, rfl, rfl, ea, F.nf, F.nr, la⟩, fun _ a e => by cases e; exact s1.free hA, h2⟩
theorem je_lc {elt tg iter : Expr} {ifs : List Expr} {scope : Scope} {own : List (Str × Nat)} {pos : Pos} {ui : UI} {gt : UG} {ut : UT} {ue : UE} (hc : X.calm = true) (hN : X.N.Nodup) (hi : JI S X tg iter ui) (ok : BlkOk X.N X.env.scope scope own)
    (hg : ∀ (s : Shared) (H : Hp) (C : Addr) (cl : List (Str × Addr)) (fp : List Addr), JG S (X.blk s H scope (compEnvC scope cl C X.env) fp) tg gt (own.map (·.2))) (ht : ∀ (s : Shared) (H : Hp) (C : Addr) (cl : List (Str × Addr)) (fp : List Addr), JTs S (X.blk s H scope (compEnvC scope cl C X.env) fp) ifs ut)
    (he : ∀ (s : Shared) (H : Hp) (C : Addr) (cl : List (Str × Addr)) (fp : List Addr), JE S (X.blk s H scope (compEnvC scope cl C X.env) fp) elt ue) (hs : ∀ x, foldedSetIterable iter X.env x = pure x := by intro _; rfl) :
    JE S X (.ListComp elt [⟨tg, iter, ifs, 0⟩] scope pos) (uLc ui gt ut ue (own.map (·.2))) :=
  ⟨_, pe_lc hc hN hi.can ok (fun s H C cl fp => (hg s H C cl fp).can) (fun s H C cl fp => (ht s H C cl fp).ps) (fun s H C cl fp => (he s H C cl fp).can) hs,
    fun ρ σ g H Q P I R hu hP => lift_lc ((hg X.s_0 H 0 [] []).on) I R hu hP⟩
/-- name = [..] on one line -/
theorem js_setLc {i : Nat} {y : Str} {py : Pos} {elt tg iter : Expr} {ifs : List Expr} {scope : Scope} {own : List (Str × Nat)} {pos spos : Pos} {ui : UI} {gt : UG} {ut : UT} {ue : UE} (hc : X.calm = true) (hN : X.N.Nodup) (hy : X.N[i]? = some y) (hyl : X.env.scope.names.lookup y = some .local)
    (hsw : swapsWith (.ListComp elt [⟨tg, iter, ifs, 0⟩] scope pos) (some (.Name y py)) spos.line X.env = pure true) (hi : JI S X tg iter ui) (ok : BlkOk X.N X.env.scope scope own)
    (hg : ∀ (s : Shared) (H : Hp) (C : Addr) (cl : List (Str × Addr)) (fp : List Addr), JG S (X.blk s H scope (compEnvC scope cl C X.env) fp) tg gt (own.map (·.2))) (ht : ∀ (s : Shared) (H : Hp) (C : Addr) (cl : List (Str × Addr)) (fp : List Addr), JTs S (X.blk s H scope (compEnvC scope cl C X.env) fp) ifs ut)
    (he : ∀ (s : Shared) (H : Hp) (C : Addr) (cl : List (Str × Addr)) (fp : List Addr), JE S (X.blk s H scope (compEnvC scope cl C X.env) fp) elt ue) (hs : ∀ x, foldedSetIterable iter X.env x = pure x := by intro _; rfl) :
    JS S X (.Assign [.Name y py] (.ListComp elt [⟨tg, iter, ifs, 0⟩] scope pos) spos) (sAsg i (uLc ui gt ut ue (own.map (·.2)))) :=
  ⟨_, ps_setLc hc hN hy hyl hsw hi.can ok (fun s H C cl fp => (hg s H C cl fp).can) (fun s H C cl fp => (ht s H C cl fp).ps) (fun s H C cl fp => (he s H C cl fp).can) hs,
    fun g0 B g H ρ σ D D' I hu gl => asg_core I allM gl (fun ρ σ g H Q P I R hu hP => lift_lc ((hg X.s_0 H 0 [] []).on) I R hu hP) (by rw [vis_all]; exact hu)⟩
end
end DL

/-! DLMut: lists that change, other assignments, while, loops over numbers, defs. -/
namespace DL
open PySem PySem.Spec PyProof.Rows L2

section
variable {S : Src} {g0 g : G} {B H : Hp} {ρ : DEnv} {σ : L2.St}
/-- an own list is changed -/
theorem SInv.put (I : SInv S g0 B g H ρ σ) {i : Nat} {e : D} (h : ρ[i]? = some (some (true, e))) {p : Addr} (hp : σ[i]? = some (some (.ref p))) {ds : List D} {xs : List V} (l : RepL g H ds xs) :
    SInv S g0 B g (upd H p (.lst xs)) (ρ.set i (some (true, .lst ds))) σ := by
  obtain ⟨a, ys, es, h1, rfl, h2, h3, h4, h5, h6⟩ := I.own i e h
  rw [hp] at h1
  cases h1
  have u : Up g H g (upd H p (.lst xs)) := Up.upd h2 h4
  have hl : i < ρ.length := (List.getElem?_eq_some_iff.mp h).1
  have at_ : ∀ (j : Nat) (x : Bool × D), (ρ.set i (some (true, D.lst ds)))[j]? = some (some x) → (j = i ∧ x = (true, .lst ds)) ∨ (j ≠ i ∧ ρ[j]? = some (some x)) := fun j x e => by
    by_cases hj : i = j
    · subst hj
      rw [List.getElem?_set_self hl] at e
      cases e
      exact .inl ⟨rfl, rfl⟩
    · rw [List.getElem?_set_ne hj] at e
      exact .inr ⟨Ne.symm hj, e⟩
  refine ⟨⟨I.st.fz, I.st.fzn, I.st.rl, I.st.rln, I.st.rp, fun a o e n => ?_, fun a o e => ?_⟩, I.hi.upd h4 h5, by rw [List.length_set]; exact I.len, fun j d e => ?_, fun j k d e a h1 h2' h3' h4' => ?_, fun j d e => ?_⟩
  · rw [upd_ne (ne_of_none e h3)]
    exact I.st.keep a o e n
  · rw [upd_ne (ne_of_none e h3)]
    exact I.st.there a o e
  · rcases at_ j _ e with ⟨rfl, e2⟩ | ⟨hj, e2⟩
    · cases e2
      exact ⟨p, xs, ds, hp, rfl, upd_same, h3, h4, h5, RepL.up u ds xs l⟩
    · obtain ⟨a, zs, fs, q1, rfl, q2, q3, q4, q5, q6⟩ := I.own j d e2
      refine ⟨a, zs, fs, q1, rfl, ?_, q3, q4, q5, RepL.up u fs zs q6⟩
      rw [upd_ne (fun z => hj (by
        rw [z] at q1
        exact I.inj j i _ _ p e2 h q1 hp))]
      exact q2
  · have f1 : ∃ d', ρ[j]? = some (some (true, d')) := by
      rcases at_ j _ h1 with ⟨rfl, _⟩ | ⟨_, e2⟩
      · exact ⟨_, h⟩
      · exact ⟨_, e2⟩
    have f2 : ∃ d', ρ[k]? = some (some (true, d')) := by
      rcases at_ k _ h2' with ⟨rfl, _⟩ | ⟨_, e2⟩
      · exact ⟨_, h⟩
      · exact ⟨_, e2⟩
    obtain ⟨d1, f1⟩ := f1
    obtain ⟨d2, f2⟩ := f2
    exact I.inj j k d1 d2 a f1 f2 h3' h4'
  · rcases at_ j _ e with ⟨rfl, e2⟩ | ⟨hj, e2⟩
    · cases e2
    · obtain ⟨v, hv, r⟩ := I.imm j d e2
      exact ⟨v, hv, Rep.up u d v r⟩
/-- a new list, held by no name, is shared -/
theorem SInv.frzNew (I : SInv S g0 B g H ρ σ) {a : Addr} {xs : List V} (e : H a = some (.lst xs)) (hB : B a = none) (hr : ¬ g.rl a) (ho : ∀ (j : Nat) (d : D), ρ[j]? = some (some (true, d)) → σ[j]? ≠ some (some (V.ref a))) :
    SInv S g0 B (frz g a) H ρ σ ∧ Up g H (frz g a) H := by
  have u : Up g H (frz g a) H := ⟨fun b h => .inl h, fun _ h => h, fun _ _ _ n => n, fun _ => rfl, fun _ _ h => h, fun _ _ _ h => h⟩
  refine ⟨⟨⟨fun b h => .inl (I.st.fz b h), fun b h => ?_, I.st.rl, I.st.rln, I.st.rp, I.st.keep, I.st.there⟩, ⟨fun b h => ?_, fun b h z => ?_, I.hi.rl⟩, I.len, fun j d h => ?_, I.inj, fun j d h => ?_⟩, u⟩
  · rcases h with h | h
    · exact I.st.fzn b h
    · exact .inr (by rw [h]; exact hB)
  · rcases h with h | h
    · exact I.hi.fz b h
    · rw [h]; exact ⟨_, e⟩
  · rcases z with z | z
    · exact I.hi.dis b h z
    · rw [z] at h; exact hr h
  · obtain ⟨b, zs, fs, q1, rfl, q2, q3, q4, q5, q6⟩ := I.own j d h
    refine ⟨b, zs, fs, q1, rfl, q2, q3, fun z => ?_, q5, RepL.up u fs zs q6⟩
    rcases z with z | z
    · exact q4 z
    · exact ho j _ h (by rw [← z]; exact q1)
  · obtain ⟨v, hv, r⟩ := I.imm j d h
    exact ⟨v, hv, Rep.up u d v r⟩
/-- .. of a value at hand -/
theorem SInv.share (I : SInv S g0 B g H ρ σ) {t : Bool} {d : D} {v : V} (r : RepT g H t d v) (f : t = true → ∀ a, v = .ref a → B a = none ∧ ∀ (j : Nat) (e : D), ρ[j]? = some (some (true, e)) → σ[j]? ≠ some (some (V.ref a))) :
    ∃ g', SInv S g0 B g' H ρ σ ∧ Rep g' H d v ∧ g'.rl = g.rl := by
  cases t with
  | false => exact ⟨g, I, r, rfl⟩
  | true =>
    obtain ⟨a, xs, ds, rfl, rfl, h1, h2, h3, h4⟩ := r
    obtain ⟨f1, f2⟩ := f rfl a rfl
    obtain ⟨J, u⟩ := I.frzNew h1 f1 h3 f2
    exact ⟨frz g a, J, by rw [Rep]; exact ⟨a, xs, rfl, ⟨h1, .inr rfl⟩, RepL.up u ds xs h4⟩, rfl⟩
end

/-! ### x.append(e) and its kin -/
/-- an own list at the place i -/
@[simp] def ownAt (ρ : DEnv) (i : Nat) (Q : List D → Prop) : Prop := match ρ[i]? with
  | some (some (true, .lst ds)) => Q ds
  | _ => False
theorem ownAt_of {ρ : DEnv} {i : Nat} {Q : List D → Prop} (h : ownAt ρ i Q) : ∃ ds, ρ[i]? = some (some (true, .lst ds)) ∧ Q ds := by
  unfold ownAt at h
  split at h
  · rename_i ds e
    exact ⟨ds, e, h⟩
  · exact h.elim
@[simp] def settleL (M : Nat → Bool) (ds : List D) (ρ : DEnv) : DEnv := if noLstL ds = true then ρ else freeze M ρ
/-- a method that changes a list: the list ahead, the arguments, what is wanted of the list behind and of the value -/
abbrev MtF := List D → List D → (List D → D → Prop) → Prop
def LiftM (S : Src) (r : V → List V → Hp → VK → Prop) (f : MtF) : Prop :=
  ∀ (g : G) (H : Hp) (p : Addr) (xs : List V) (ds : List D) (vs : List V) (as : List D) (K : List D → D → Prop) (P : VK), H p = some (.lst xs) → RepL g H ds xs → RepL g H as vs → f ds as K →
    (∀ xs' ds' v d, RepL g H ds' xs' → Rep g H d v → K ds' d → P v (upd H p (.lst xs'))) → r (.ref p) vs H P
@[simp] def mAppend : MtF := fun ds as K => match as with
  | [d] => ds.length < sizeLine ∧ K (ds ++ [d]) .non
  | _ => False
theorem liftm_append {S : Src} : LiftM S rAppend mAppend := by
  intro g H p xs ds vs as K P e l la h hP
  unfold mAppend at h
  split at h
  · rename_i d
    rw [RepL] at la
    obtain ⟨v, r, rfl, r1, r2⟩ := la
    rw [RepL] at r2
    subst r2
    exact ⟨p, xs, v, rfl, rfl, e, by rw [l.len]; exact h.1, hP _ _ _ _ (l.append (RepL.cons r1 RepL.nil)) (by rw [Rep]) h.2⟩
  · exact h.elim
@[simp] def mPop : MtF := fun ds as K => match as with
  | [] => ∃ d, ds[ds.length - 1]? = some d ∧ K ds.dropLast d
  | _ => False
theorem RepL.dropLast {g : G} {H : Hp} {ds : List D} {vs : List V} (l : RepL g H ds vs) : RepL g H ds.dropLast vs.dropLast := by
  rw [List.dropLast_eq_take, List.dropLast_eq_take, l.len]
  exact l.take _
theorem liftm_pop {S : Src} : LiftM S rPop mPop := by
  intro g H p xs ds vs as K P e l la h hP
  unfold mPop at h
  split at h
  · rw [RepL] at la
    subst la
    obtain ⟨d, hd, hk⟩ := h
    obtain ⟨v, hv, rv⟩ := l.get hd
    refine ⟨p, xs, v, rfl, rfl, e, by rw [l.len]; exact hv, hP _ _ _ _ l.dropLast ?_ hk⟩
    exact rv
  · exact h.elim
theorem RepL.eraseIdx {g : G} {H : Hp} : ∀ {ds : List D} {vs : List V} (k : Nat), RepL g H ds vs → RepL g H (ds.eraseIdx k) (vs.eraseIdx k)
  | [], vs, k, l => by rw [RepL] at l; subst l; exact RepL.nil
  | d :: ds, vs, k, l => by
    rw [RepL] at l
    obtain ⟨v, r, rfl, r1, r2⟩ := l
    cases k with
    | zero => exact r2
    | succ k => exact RepL.cons r1 (RepL.eraseIdx k r2)
@[simp] def mPopAt : MtF := fun ds as K => match as with
  | [.int i] => (-(2 ^ 63) ≤ i ∧ i < 2 ^ 63) ∧ ∃ k d, ixN ds.length i = some k ∧ ds[k]? = some d ∧ K (ds.eraseIdx k) d
  | _ => False
theorem liftm_popAt {S : Src} : LiftM S rPopAt mPopAt := by
  intro g H p xs ds vs as K P e l la h hP
  unfold mPopAt at h
  split at h
  · rename_i i
    simp only [RepL, Rep] at la
    obtain ⟨v, r', rfl, rfl, rfl⟩ := la
    obtain ⟨hb, k, d, hk, hd, hq⟩ := h
    obtain ⟨w, hw, rw'⟩ := l.get hd
    refine ⟨p, xs, i, k, w, rfl, rfl, e, hb.1, hb.2, ?_, hw, hP _ _ _ _ (l.eraseIdx k) rw' hq⟩
    rw [l.len]
    exact (ixN_seq hk).1
  · exact h.elim
theorem RepL.reverse {g : G} {H : Hp} : ∀ {ds : List D} {vs : List V}, RepL g H ds vs → RepL g H ds.reverse vs.reverse
  | [], vs, l => by rw [RepL] at l; subst l; exact RepL.nil
  | d :: ds, vs, l => by
    rw [RepL] at l
    obtain ⟨v, r, rfl, r1, r2⟩ := l
    rw [List.reverse_cons, List.reverse_cons]
    exact (RepL.reverse r2).append (RepL.cons r1 RepL.nil)
@[simp] def mReverse : MtF := fun ds as K => match as with
  | [] => K ds.reverse .non
  | _ => False
theorem liftm_reverse {S : Src} : LiftM S rReverse mReverse := by
  intro g H p xs ds vs as K P e l la h hP
  unfold mReverse at h
  split at h
  · rw [RepL] at la
    subst la
    exact ⟨p, xs, rfl, rfl, e, hP _ _ _ _ l.reverse (by rw [Rep]) h⟩
  · exact h.elim

@[simp] def sMeth (M : Nat → Bool) (i : Nat) (f : MtF) (u : UA) (D : UEnds) (ρ : DEnv) : Prop := ownAt ρ i (fun _ => True) ∧ u (vis M ρ) fun as => ownAt (settleL M as ρ) i fun ds => f ds as fun ds' _ => D.nx ((settleL M as ρ).set i (some (true, .lst ds')))
/-- name = x.m(..), the value without lists -/
@[simp] def sMethV (M : Nat → Bool) (k i : Nat) (f : MtF) (u : UA) (D : UEnds) (ρ : DEnv) : Prop := ownAt ρ i (fun _ => True) ∧ u (vis M ρ) fun as => ownAt (settleL M as ρ) i fun ds => f ds as fun ds' d => D.nx (((settleL M as ρ).set i (some (true, .lst ds'))).set k (some (false, d)))
section
variable {S : Src} {X : Cx} {pos : Pos}
theorem settleL_own {M : Nat → Bool} {as : List D} {ρ : DEnv} {j : Nat} {e : D} (h : (settleL M as ρ)[j]? = some (some (true, e))) : ρ[j]? = some (some (true, e)) := by
  unfold settleL at h
  split at h
  · exact h
  · exact (freeze_own h).1
theorem meth_core {g0 g : G} {B H : Hp} {ρ : DEnv} {σ : L2.St} (I : SInv S g0 B g H ρ σ) (M : Nat → Bool) {i : Nat} {K : PySem.W.Frag} {r : V → List V → Hp → VK → Prop} {f : MtF} (hl : LiftM S r f) {ta : TA} {u : UA} {W : List D → List D → D → Prop} {P : VK}
    (h : ∀ (ρ : DEnv) (σ : L2.St) (g : G) (H : Hp) (Q : List D → Prop) (P : List V → Hp → Prop), HInv S g H → RepS g H ρ σ → u ρ Q → (∀ vs H', APost S g H Q vs H' → P vs H') → ta σ H P)
    (ho : ownAt ρ i (fun _ => True)) (hu : u (vis M ρ) fun as => ownAt (settleL M as ρ) i fun ds => f ds as fun ds' d => W as ds' d)
    (hP : ∀ v H' as ds' d g', SInv S g0 B g' H' ((settleL M as ρ).set i (some (true, .lst ds'))) σ → Rep g' H' d v → W as ds' d → P v H') : tBM K "list" r (tVar i) ta σ H P := by
  obtain ⟨ds, e1, _⟩ := ownAt_of ho
  obtain ⟨a, xs, ds', ea, e0, eh, _⟩ := I.own i _ e1
  refine ⟨.ref a, ea, .inl ⟨rfl, xs, .inl (.inl eh)⟩, ?_⟩
  obtain ⟨gv, Iv, Rv, fin⟩ := I.view M
  refine h (vis M ρ) σ gv H _ _ Iv Rv hu fun vs H' e => ?_
  obtain ⟨g', as, s, I', ra, q⟩ := e
  obtain ⟨f1, g2, f2, q1, q2, q3⟩ := fin g' H' s I'
  have fork : ∃ g3, SInv S g0 B g3 H' (settleL M as ρ) σ ∧ RepL g3 H' as vs := by
    unfold settleL
    by_cases hn : noLstL as = true
    · rw [if_pos hn]
      exact ⟨g2, f2, RepL.noLst (g := g') (g' := g2) q1 q2 as vs hn ra⟩
    · rw [if_neg hn]
      exact ⟨g', f1, ra⟩
  obtain ⟨g3, I3, ra3⟩ := fork
  obtain ⟨ds, e3, q⟩ := ownAt_of q
  obtain ⟨a', ys, ds2, h1, h0, h2, h3, h4, h5, h6⟩ := I3.own i _ e3
  cases h0
  rw [ea] at h1
  cases h1
  refine hl g3 H' a ys ds vs as _ P h2 h6 ra3 q fun xs' ds' v d l' rd w => ?_
  refine hP v _ as ds' d g3 (I3.put e3 ea l') ?_ w
  exact Rep.up (Up.upd h2 h4) d v rd
variable {e : Expr} {es : List Expr} {x name : Str} {id : String} {i : Nat} {p1 p2 p3 : Pos} {r : V → List V → Hp → VK → Prop} {f : MtF} {u : UA}
/-- x.m(e, ..) as a statement -/
theorem js_meth (M : Nat → Bool) (slot : Slot "list" name id) (hty : typeOf (.builtin id) = pure (.type "method_descriptor")) (hm : MtR X id r) (hl : LiftM S r f) (hi : X.N[i]? = some x) (ha : JA S X (e :: es) u)
    (hv : Vis X.env.scope x := by first | exact Or.inl rfl | exact Or.inr (Or.inl rfl) | exact Or.inr (Or.inr rfl)) (hd : (x == ("__debug__" : Str)) = false := by decide) (hcd : (x == ("__classdict__" : Str)) = false := by decide)
    (hbase : attributeBase (.Name x p1) name X.env (eval (.Name x p1) X.env) = eval (.Name x p1) X.env := by rfl)
    (hfew : ((backTo p3 (starEach (e :: es) X.env)).all (fun x => !x.1) && (backToKw p3 (keywordEach [] X.env)).all (fun x => x.1.isSome)
      && decide ((e :: es).length + ([] : List Keyword).length + (if ([] : List Keyword).isEmpty then 0 else 1) < 30)) = true := by rfl)
    (hline : (p2.endLine == p3.line) = true := by rfl) (hst : starEach (e :: es) X.env = (false, eval e X.env) :: starEach es X.env := by rfl) (hplain : (backTo p3 (starEach es X.env)).any (·.1) = false := by rfl)
    (hs : swapsWith (.Call (.Attribute (.Name x p1) name p2) (e :: es) [] p3) none pos.line X.env = pure false := by rfl) :
    JS S X (.Expr (.Call (.Attribute (.Name x p1) name p2) (e :: es) [] p3) pos) (sMeth M i f u) := by
  obtain ⟨t, p, h⟩ := ha.ex
  refine ⟨_, ps_expr (pe_bm PySem.F.plainAttrs_list slot hty hm (pv i hi hv hd hcd) p hbase hfew hline hst hplain) hs, fun g0 B g H ρ σ E E' I hu gl => ?_⟩
  exact meth_core I M hl h hu.1 hu.2 fun v H' as ds' d g' I' _ w => gl.nx g' H' _ _ I' w
/-- x.m() as a statement -/
theorem js_meth0 (slot : Slot "list" name id) (hty : typeOf (.builtin id) = pure (.type "method_descriptor")) (hm : MtR X id r) (hl : LiftM S r f) (hi : X.N[i]? = some x)
    (hv : Vis X.env.scope x := by first | exact Or.inl rfl | exact Or.inr (Or.inl rfl) | exact Or.inr (Or.inr rfl)) (hd : (x == ("__debug__" : Str)) = false := by decide) (hcd : (x == ("__classdict__" : Str)) = false := by decide)
    (hbase : attributeBase (.Name x p1) name X.env (eval (.Name x p1) X.env) = eval (.Name x p1) X.env := by rfl) (hline : (p2.endLine == p3.line) = true := by rfl)
    (hs : swapsWith (.Call (.Attribute (.Name x p1) name p2) [] [] p3) none pos.line X.env = pure false := by rfl) :
    JS S X (.Expr (.Call (.Attribute (.Name x p1) name p2) [] [] p3) pos) (sMeth allM i f uNil) := by
  refine ⟨_, ps_expr (pe_bm0 PySem.F.plainAttrs_list slot hty hm (pv i hi hv hd hcd) hbase hline) hs, fun g0 B g H ρ σ E E' I hu gl => ?_⟩
  exact meth_core (K := X.K) (ta := tNil) (u := uNil) I allM hl (fun ρ σ g H Q P I R hu hP => hP [] H ⟨g, [], Step.refl g H, I, RepL.nil, hu⟩) hu.1 hu.2 fun v H' as ds' d g' I' _ w => gl.nx g' H' _ _ I' w
/-- y = x.m(e, ..) -/
theorem js_methV (M : Nat → Bool) {k : Nat} {y : Str} {p4 : Pos} (hN : X.N.Nodup) (slot : Slot "list" name id) (hty : typeOf (.builtin id) = pure (.type "method_descriptor")) (hm : MtR X id r) (hl : LiftM S r f) (hi : X.N[i]? = some x) (ha : JA S X (e :: es) u) (hk : X.N[k]? = some y) (hx : Loc X.env.scope y := by first | exact Or.inl rfl | exact Or.inr rfl)
    (hf : X.fn y = true ∨ X.env.scope.names.lookup y = some .local := by first | exact .inl rfl | exact .inr rfl | assumption)
    (hv : Vis X.env.scope x := by first | exact Or.inl rfl | exact Or.inr (Or.inl rfl) | exact Or.inr (Or.inr rfl)) (hd : (x == ("__debug__" : Str)) = false := by decide) (hcd : (x == ("__classdict__" : Str)) = false := by decide)
    (hbase : attributeBase (.Name x p1) name X.env (eval (.Name x p1) X.env) = eval (.Name x p1) X.env := by rfl)
    (hfew : ((backTo p3 (starEach (e :: es) X.env)).all (fun x => !x.1) && (backToKw p3 (keywordEach [] X.env)).all (fun x => x.1.isSome)
      && decide ((e :: es).length + ([] : List Keyword).length + (if ([] : List Keyword).isEmpty then 0 else 1) < 30)) = true := by rfl)
    (hline : (p2.endLine == p3.line) = true := by rfl) (hst : starEach (e :: es) X.env = (false, eval e X.env) :: starEach es X.env := by rfl) (hplain : (backTo p3 (starEach es X.env)).any (·.1) = false := by rfl)
    (hs : swapsWith (.Call (.Attribute (.Name x p1) name p2) (e :: es) [] p3) (some (.Name y p4)) pos.line X.env = pure false := by rfl) :
    JS S X (.Assign [.Name y p4] (.Call (.Attribute (.Name x p1) name p2) (e :: es) [] p3) pos) (sMethV M k i f u) := by
  obtain ⟨t, p, h⟩ := ha.ex
  refine ⟨_, ps_set hN hk hx (pe_bm PySem.F.plainAttrs_list slot hty hm (pv i hi hv hd hcd) p hbase hfew hline hst hplain) hs hf, fun g0 B g H ρ σ E E' I hu gl => ?_⟩
  exact meth_core I M hl h hu.1 hu.2 fun v H' as ds' d g' I' r w => gl.nx g' H' _ _ (I'.set (t := false) r (fun z => (by cases z))) w
/-- y = x.m() -/
theorem js_methV0 {k : Nat} {y : Str} {p4 : Pos} (hN : X.N.Nodup) (slot : Slot "list" name id) (hty : typeOf (.builtin id) = pure (.type "method_descriptor")) (hm : MtR X id r) (hl : LiftM S r f) (hi : X.N[i]? = some x) (hk : X.N[k]? = some y) (hx : Loc X.env.scope y := by first | exact Or.inl rfl | exact Or.inr rfl)
    (hf : X.fn y = true ∨ X.env.scope.names.lookup y = some .local := by first | exact .inl rfl | exact .inr rfl | assumption)
    (hv : Vis X.env.scope x := by first | exact Or.inl rfl | exact Or.inr (Or.inl rfl) | exact Or.inr (Or.inr rfl)) (hd : (x == ("__debug__" : Str)) = false := by decide) (hcd : (x == ("__classdict__" : Str)) = false := by decide)
    (hbase : attributeBase (.Name x p1) name X.env (eval (.Name x p1) X.env) = eval (.Name x p1) X.env := by rfl) (hline : (p2.endLine == p3.line) = true := by rfl)
    (hs : swapsWith (.Call (.Attribute (.Name x p1) name p2) [] [] p3) (some (.Name y p4)) pos.line X.env = pure false := by rfl) :
    JS S X (.Assign [.Name y p4] (.Call (.Attribute (.Name x p1) name p2) [] [] p3) pos) (sMethV allM k i f uNil) := by
  refine ⟨_, ps_set hN hk hx (pe_bm0 PySem.F.plainAttrs_list slot hty hm (pv i hi hv hd hcd) hbase hline) hs hf, fun g0 B g H ρ σ E E' I hu gl => ?_⟩
  exact meth_core (K := X.K) (ta := tNil) (u := uNil) I allM hl (fun ρ σ g H Q P I R hu hP => hP [] H ⟨g, [], Step.refl g H, I, RepL.nil, hu⟩) hu.1 hu.2 fun v H' as ds' d g' I' r w => gl.nx g' H' _ _ (I'.set (t := false) r (fun z => (by cases z))) w

/-! ### x[k] = e -/
@[simp] def sSetIx (M : Nat → Bool) (i : Nat) (uk u : UE) (D : UEnds) (ρ : DEnv) : Prop := u (vis M ρ) fun t d => ownAt (settle M t d ρ) i (fun _ => True) ∧ uk (settle M t d ρ) fun _ k => isI (fun k => ownAt (settle M t d ρ) i fun ds => ∃ j, ixN ds.length k = some j ∧ D.nx ((settle M t d ρ).set i (some (true, .lst (ds.set j d))))) k
theorem settle_hold {g0 g : G} {B H : Hp} {ρ : DEnv} {σ : L2.St} (I : SInv S g0 B g H ρ σ) {M : Nat → Bool} {t : Bool} {d : D} {v : V} (f : t = true → ∀ a, v = .ref a → H a = none) :
    t = true → ∀ a, v = .ref a → B a = none ∧ ∀ (j : Nat) (e : D), (settle M t d ρ)[j]? = some (some (true, e)) → σ[j]? ≠ some (some (V.ref a)) := fun z a ea => by
  refine ⟨I.st.free (f z a ea), fun j e h1 h2 => ?_⟩
  obtain ⟨a', xs, ds, e1, _, e2, _⟩ := I.own j e (settle_own h1)
  rw [h2] at e1
  cases e1
  rw [f z a ea] at e2
  cases e2
/-- an expression whose value is an int, in the midst of a body, with another value at hand -/
theorem SInv.int {g0 g : G} {B H : Hp} {ρ : DEnv} {σ : L2.St} (I : SInv S g0 B g H ρ σ) {u : UE} {te : TE} {Q : Int → Prop} {P : VK} {d0 : D} {v0 : V} (r0 : Rep g H d0 v0)
    (h : ∀ (ρ : DEnv) (σ : L2.St) (g : G) (H : Hp) (Q : UK) (P : VK), HInv S g H → RepS g H ρ σ → u ρ Q → (∀ v H', EPost S g H Q v H' → P v H') → te σ H P) (hu : u ρ fun _ k => isI Q k)
    (hP : ∀ k H' g', SInv S g0 B g' H' ρ σ → Rep g' H' d0 v0 → Q k → P (.int k) H') : te σ H P := by
  -- the value at hand rides along as one more name
  have I1 : SInv S g0 B g H (ρ ++ [some (false, d0)]) (σ ++ [some v0]) := by
    have hl := I.len
    have at_ : ∀ (j : Nat) (x : Bool × D), (ρ ++ [some (false, d0)])[j]? = some (some x) → (j < ρ.length ∧ ρ[j]? = some (some x) ∧ (σ ++ [some v0])[j]? = σ[j]?) ∨ (j = ρ.length ∧ x = (false, d0) ∧ (σ ++ [some v0])[j]? = some (some v0)) := fun j x e => by
      by_cases hj : j < ρ.length
      · rw [List.getElem?_append_left hj] at e
        exact .inl ⟨hj, e, List.getElem?_append_left (by omega)⟩
      · have hj2 : j = ρ.length := by
          have := (List.getElem?_eq_some_iff.mp e).1
          rw [List.length_append, List.length_singleton] at this
          omega
        subst hj2
        rw [List.getElem?_append_right (Nat.le_refl _), Nat.sub_self] at e
        cases e
        refine .inr ⟨rfl, rfl, ?_⟩
        rw [hl, List.getElem?_append_right (Nat.le_refl _), Nat.sub_self]
        rfl
    refine ⟨I.st, I.hi, by rw [List.length_append, List.length_append, hl]; rfl, fun j d e => ?_, fun j k d e a h1 h2 h3 h4 => ?_, fun j d e => ?_⟩
    · rcases at_ j _ e with ⟨_, e1, e2⟩ | ⟨_, e1, _⟩
      · rw [e2]; exact I.own j d e1
      · cases e1
    · rcases at_ j _ h1 with ⟨_, e1, e2⟩ | ⟨_, e1, _⟩
      · rcases at_ k _ h2 with ⟨_, e3, e4⟩ | ⟨_, e3, _⟩
        · rw [e2] at h3
          rw [e4] at h4
          exact I.inj j k d e a e1 e3 h3 h4
        · cases e3
      · cases e1
    · rcases at_ j _ e with ⟨_, e1, e2⟩ | ⟨_, e1, e2⟩
      · rw [e2]; exact I.imm j d e1
      · cases e1
        exact ⟨v0, e2, r0⟩
  obtain ⟨gv, Iv, Rv, fin⟩ := I1.view allM
  have Rv' : RepS gv H ρ σ := by
    rw [vis_all] at Rv
    refine ⟨I.len, fun j t d e => ?_⟩
    have hj : j < ρ.length := (List.getElem?_eq_some_iff.mp e).1
    obtain ⟨v, hv, r⟩ := Rv.get j t d (by rw [List.getElem?_append_left hj]; exact e)
    rw [List.getElem?_append_left (by rw [← I.len]; exact hj)] at hv
    exact ⟨v, hv, r⟩
  refine h ρ σ gv H _ _ Iv Rv' hu fun v H' e => ?_
  obtain ⟨g', d, s, I', r, _, q⟩ := e.rep
  obtain ⟨_, g2, f2, q1, q2, q3⟩ := fin g' H' s I'
  cases d with
  | int k =>
    rw [Rep] at r
    subst r
    have e0 : (ρ ++ [some (false, d0)])[ρ.length]? = some (some (false, d0)) := by rw [List.getElem?_append_right (Nat.le_refl _), Nat.sub_self]; rfl
    obtain ⟨w, hw, rw'⟩ := f2.imm ρ.length d0 e0
    rw [I.len, List.getElem?_append_right (Nat.le_refl _), Nat.sub_self] at hw
    cases hw
    refine hP k H' g2 ⟨f2.st, f2.hi, I.len, fun j d e => ?_, fun j k d e a h1 h2 h3 h4 => ?_, fun j d e => ?_⟩ rw' q
    · have hj : j < ρ.length := (List.getElem?_eq_some_iff.mp e).1
      have := f2.own j d (by rw [List.getElem?_append_left hj]; exact e)
      rwa [List.getElem?_append_left (by rw [← I.len]; exact hj)] at this
    · have hj : j < ρ.length := (List.getElem?_eq_some_iff.mp h1).1
      have hk : k < ρ.length := (List.getElem?_eq_some_iff.mp h2).1
      exact f2.inj j k d e a (by rw [List.getElem?_append_left hj]; exact h1) (by rw [List.getElem?_append_left hk]; exact h2) (by rw [List.getElem?_append_left (by rw [← I.len]; exact hj)]; exact h3) (by rw [List.getElem?_append_left (by rw [← I.len]; exact hk)]; exact h4)
    · have hj : j < ρ.length := (List.getElem?_eq_some_iff.mp e).1
      have := f2.imm j d (by rw [List.getElem?_append_left hj]; exact e)
      rwa [List.getElem?_append_left (by rw [← I.len]; exact hj)] at this
  | _ => exact (show False from q).elim
theorem js_setIx (M : Nat → Bool) {a ek : Expr} {ua uk : UE} {pt : Pos} (he : JE S X a ua) (hk : JE S X ek uk) (hi : X.N[i]? = some x)
    (hv : Vis X.env.scope x := by first | exact Or.inl rfl | exact Or.inr (Or.inl rfl) | exact Or.inr (Or.inr rfl)) (hd : (x == ("__debug__" : Str)) = false := by decide) (hcd : (x == ("__classdict__" : Str)) = false := by decide)
    (hs : swapsWithSole [.Subscript (.Name x p1) ek pt] a pos.line X.env = pure false := by rfl) (hw : swappedStores [.Subscript (.Name x p1) ek pt] a X.env = pure none := by rfl)
    (h1 : (assignEach [.Subscript (.Name x p1) ek pt] X.env).map (·.2) = [assign (.Subscript (.Name x p1) ek pt) X.env] := by rfl)
    (hsub : ∀ v, assign (.Subscript (.Name x p1) ek pt) X.env v = (do
      let ov ← holding [v] (eval (.Name x p1) X.env)
      let iv ← holding [v, ov] (eval ek X.env)
      standAt pt
      holding [v, ov, iv] (setItem ov iv v)
      release [v, ov, iv] []) := by intro _; rfl) :
    JS S X (.Assign [.Subscript (.Name x p1) ek pt] a pos) (sSetIx M i uk ua) := by
  obtain ⟨t, p, h⟩ := he.ex
  obtain ⟨tk, pk, hk⟩ := hk.ex
  refine ⟨_, ps_asg p (pg_sub (pv i hi hv hd hcd) pk set_list hsub) hs hw h1, fun g0 B g H ρ σ E E' I hu gl => ?_⟩
  refine I.expr M h hu fun v H' t d g' I' r f hth q => ?_
  obtain ⟨g2, I2, r2, _⟩ := I'.share r (settle_hold I f)
  -- the list's place
  obtain ⟨q0, q⟩ := q
  obtain ⟨ds0, e0, _⟩ := ownAt_of q0
  obtain ⟨b, _, _, eb, _⟩ := I2.own i _ e0
  refine ⟨.ref b, eb, ?_⟩
  refine I2.int r2 hk q fun k H2 g3 I3 r3 q3 => ?_
  obtain ⟨ds, e3, j, hj, q3⟩ := ownAt_of q3
  obtain ⟨b', ys, ds2, h1, h0, h2, h3, h4, h5, h6⟩ := I3.own i _ e3
  cases h0
  rw [eb] at h1
  cases h1
  exact ⟨b, ys, k, j, rfl, rfl, h2, by rw [h6.len]; exact hj, gl.nx g3 _ _ _ (I3.put e3 eb (h6.set j r3)) q3⟩
end
end DL

/-! DLDef: further assignments, while, loops over numbers, defs, the law's end. -/
namespace DL
open PySem PySem.Spec PyProof.Rows L2

section
variable {S : Src} {X : Cx} {pos : Pos}
/-! ### x op= e over ints -/
@[simp] def sAugI (i : Nat) (k : Int → Int → Int) (u : UE) (D : UEnds) (ρ : DEnv) : Prop := match ρ[i]? with
  | some (some (_, .int a)) => u ρ fun _ y => isI (fun b => D.nx (ρ.set i (some (false, .int (k a b))))) y
  | _ => False
theorem js_augI {i : Nat} {x : Str} {e : Expr} {ue : UE} {op : Operator} {k : Int → Int → Int} {pos' : Pos} (hN : X.N.Nodup) (ho : PIp X op (ipI k)) (he : JE S X e ue) (hi : X.N[i]? = some x := by rfl) (hx : Loc X.env.scope x := by first | exact Or.inl rfl | exact Or.inr rfl) (hf : X.fn x = true ∨ X.env.scope.names.lookup x = some .local := by first | exact .inl rfl | exact .inr rfl | assumption) :
    JS S X (.AugAssign (.Name x pos') op e pos) (sAugI i k ue) := by
  obtain ⟨t, p, h⟩ := he.ex
  refine ⟨_, ps_aug hN hi hx p ho hf, fun g0 B g H ρ σ E E' I hu gl => ?_⟩
  unfold sAugI at hu
  split at hu
  · rename_i tt a e1
    cases tt with
    | true =>
      obtain ⟨_, _, _, _, h0, _⟩ := I.own i _ e1
      cases h0
    | false =>
      obtain ⟨v, hv, r⟩ := I.imm i _ e1
      rw [Rep] at r
      subst r
      refine ⟨.int a, hv, I.int (d0 := .non) (v0 := .non) (by rw [Rep]) h hu fun b H' g' I' _ q => ?_⟩
      exact ⟨a, b, rfl, rfl, gl.nx g' H' _ _ (I'.set (t := false) (d := .int (k a b)) (by show Rep _ _ _ _; rw [Rep]) (fun z => (by cases z))) q⟩
  · exact hu.elim

/-! ### targets of any form -/
@[simp] def sAsgG (gt : UG) (u : UE) (D : UEnds) (ρ : DEnv) : Prop := u ρ fun t d => match gt d with
  | some L => D.nx (setAll (settle allM t d ρ) (dset L))
  | none => False
theorem js_asgG {tg e : Expr} {ue : UE} {gt : UG} {vs : List Nat} (he : JE S X e ue) (hg : JG S X tg gt vs) (hs : swapsWithSole [tg] e pos.line X.env = pure false := by rfl) (hw : swappedStores [tg] e X.env = pure none := by rfl)
    (h1 : (assignEach [tg] X.env).map (·.2) = [assign tg X.env] := by rfl) : JS S X (.Assign [tg] e pos) (sAsgG gt ue) := by
  obtain ⟨t, p, h⟩ := he.ex
  obtain ⟨⟨tg', pg, hg⟩, _⟩ := hg
  refine ⟨_, ps_asg p pg hs hw h1, fun g0 B g H ρ σ E E' I hu gl => ?_⟩
  refine I.expr allM h (by rw [vis_all]; exact hu) fun v H' t d g' I' r f _ q => ?_
  obtain ⟨g2, I2, r2, _⟩ := I'.share r (settle_hold I f)
  cases e1 : gt d with
  | none => rw [e1] at q; exact q.elim
  | some L =>
    rw [e1] at q
    exact hg g2 H' σ d v L _ r2 e1 fun M hM => gl.nx g2 H' _ _ (hM.inv I2) q
/-- a, b = x, y (plain names) -/
@[simp] def sParA (i j : Nat) (u : UA) (D : UEnds) (ρ : DEnv) : Prop := u ρ fun ds => match ds with
  | [a, b] => D.nx (((settleL allM ds ρ).set i (some (false, a))).set j (some (false, b)))
  | _ => False
theorem SInv.args {g0 g : G} {B H : Hp} {ρ : DEnv} {σ : L2.St} (I : SInv S g0 B g H ρ σ) {u : UA} {ta : TA} {Q : List D → Prop} {P : List V → Hp → Prop}
    (h : ∀ (ρ : DEnv) (σ : L2.St) (g : G) (H : Hp) (Q : List D → Prop) (P : List V → Hp → Prop), HInv S g H → RepS g H ρ σ → u ρ Q → (∀ vs H', APost S g H Q vs H' → P vs H') → ta σ H P) (hu : u ρ Q)
    (hP : ∀ vs H' ds g', SInv S g0 B g' H' (settleL allM ds ρ) σ → RepL g' H' ds vs → Q ds → P vs H') : ta σ H P := by
  obtain ⟨gv, Iv, Rv, fin⟩ := I.view allM
  rw [vis_all] at Rv
  refine h ρ σ gv H _ _ Iv Rv hu fun vs H' e => ?_
  obtain ⟨g', as, s, I', ra, q⟩ := e
  obtain ⟨f1, g2, f2, q1, q2, q3⟩ := fin g' H' s I'
  by_cases hn : noLstL as = true
  · refine hP vs H' as g2 ?_ (RepL.noLst (g := g') (g' := g2) q1 q2 as vs hn ra) q
    unfold settleL
    rw [if_pos hn]
    exact f2
  · refine hP vs H' as g' ?_ ra q
    unfold settleL
    rw [if_neg hn]
    exact f1
theorem js_parA {i j : Nat} {x y : Str} {a b : Expr} {u : UA} {px py pt : Pos} {kt k2 pt2} (hc : X.calm = true) (hN : X.N.Nodup) (ha : JA S X [a, b] u) (hi : X.N[i]? = some x := by rfl) (hj : X.N[j]? = some y := by rfl) (hij : i ≠ j := by decide)
    (hx : X.env.scope.names.lookup x = some .local := by rfl) (hy : X.env.scope.names.lookup y = some .local := by rfl)
    (hw : swappedStores [.Tuple [.Name x px, .Name y py] kt pt] (.Tuple [a, b] k2 pt2) X.env = pure (some [x, y]) := by rfl)
    (hs : swapsWithSole [.Tuple [.Name x px, .Name y py] kt pt] (.Tuple [a, b] k2 pt2) pos.line X.env = pure false := by rfl) :
    JS S X (.Assign [.Tuple [.Name x px, .Name y py] kt pt] (.Tuple [a, b] k2 pt2) pos) (sParA i j u) := by
  obtain ⟨t, p, h⟩ := ha.ex
  refine ⟨_, ps_par hc hN hi hj hij hx hy p hw hs, fun g0 B g H ρ σ E E' I hu gl => I.args h hu fun vs H' ds g' I' r q => ?_⟩
  split at q
  · rename_i d1 d2
    simp only [RepL] at r
    obtain ⟨v, r', rfl, r1, w, r2, rfl, r3, rfl⟩ := r
    exact ⟨v, w, rfl, gl.nx g' H' _ _ ((I'.set (t := false) r1 (fun z => (by cases z))).set (t := false) r3 (fun z => (by cases z))) q⟩
  · exact q.elim
@[simp] def sParA3 (i j l : Nat) (u : UA) (D : UEnds) (ρ : DEnv) : Prop := u ρ fun ds => match ds with
  | [a, b, c] => D.nx ((((settleL allM ds ρ).set i (some (false, a))).set j (some (false, b))).set l (some (false, c)))
  | _ => False
theorem js_parA3 {i j l : Nat} {x y z : Str} {a b c : Expr} {u : UA} {px py pz pt : Pos} {kt k2 pt2} (hc : X.calm = true) (hN : X.N.Nodup) (ha : JA S X [a, b, c] u) (hi : X.N[i]? = some x := by rfl) (hj : X.N[j]? = some y := by rfl) (hl : X.N[l]? = some z := by rfl) (hij : i ≠ j := by decide) (hil : i ≠ l := by decide) (hjl : j ≠ l := by decide)
    (hx : X.env.scope.names.lookup x = some .local := by rfl) (hy : X.env.scope.names.lookup y = some .local := by rfl) (hz : X.env.scope.names.lookup z = some .local := by rfl)
    (hw : swappedStores [.Tuple [.Name x px, .Name y py, .Name z pz] kt pt] (.Tuple [a, b, c] k2 pt2) X.env = pure (some [x, y, z]) := by rfl)
    (hs : swapsWithSole [.Tuple [.Name x px, .Name y py, .Name z pz] kt pt] (.Tuple [a, b, c] k2 pt2) pos.line X.env = pure false := by rfl) :
    JS S X (.Assign [.Tuple [.Name x px, .Name y py, .Name z pz] kt pt] (.Tuple [a, b, c] k2 pt2) pos) (sParA3 i j l u) := by
  obtain ⟨t, p, h⟩ := ha.ex
  refine ⟨_, ps_par3 hc hN hi hj hl hij hil hjl hx hy hz p hw hs, fun g0 B g H ρ σ E E' I hu gl => I.args h hu fun vs H' ds g' I' r q => ?_⟩
  split at q
  · rename_i d1 d2 d3
    simp only [RepL] at r
    obtain ⟨v, r', rfl, r1, w, r2, rfl, r3, w2, r4, rfl, r5, rfl⟩ := r
    exact ⟨v, w, w2, rfl, gl.nx g' H' _ _ (((I'.set (t := false) r1 (fun z => (by cases z))).set (t := false) r3 (fun z => (by cases z))).set (t := false) r5 (fun z => (by cases z))) q⟩
  · exact q.elim
/-- a, b = x, y where new lists stay own; y does not speak of a -/
@[simp] def notI (i : Nat) : Nat → Bool := fun k => k != i
@[simp] def sPar (i j : Nat) (u1 u2 : UE) (D : UEnds) (ρ : DEnv) : Prop := u1 ρ fun t1 d1 => u2 ((vis (notI i) ((settle allM t1 d1 ρ).set i (some (t1, d1)))).set i none) fun t2 d2 =>
  D.nx ((settle (notI i) t2 d2 ((settle allM t1 d1 ρ).set i (some (t1, d1)))).set j (some (t2, d2)))
theorem SInv.settled {g0 gv : G} {B H : Hp} {ρ : DEnv} {σ : L2.St} {M : Nat → Bool} (fin : ∀ g' H', Step gv H g' H' → HInv S g' H' → SInv S g0 B g' H' (freeze M ρ) σ ∧ ∃ g2, SInv S g0 B g2 H' ρ σ ∧ g2.rl = g'.rl ∧ g2.rp = g'.rp ∧ (∀ a, g2.fz a → g'.fz a)) {Q : UK} {v : V} {H' : Hp} (e : EPost S gv H Q v H') :
    ∃ t d g', SInv S g0 B g' H' (settle M t d ρ) σ ∧ RepT g' H' t d v ∧ (t = true → ∀ a, v = .ref a → H a = none) ∧ Q t d := by
  obtain ⟨g', t, d, s, I', r, f, q⟩ := e.ex
  obtain ⟨f1, g2, f2, e1, e2, e3⟩ := fin g' H' s I'
  by_cases hs : safe t d = true
  · refine ⟨t, d, g2, ?_, ?_, f, q⟩
    · rw [settle, if_pos hs]
      exact f2
    · cases t with
      | false => exact Rep.noLst (g := g') (g' := g2) e1 e2 d v hs r
      | true =>
        obtain ⟨a, xs, ds, rfl, rfl, h1, h2, h3, h4⟩ := r
        exact ⟨a, xs, ds, rfl, rfl, h1, fun z => h2 (e3 a z), by rw [e1]; exact h3, RepL.noLst (g := g') (g' := g2) e1 e2 ds xs hs h4⟩
  · refine ⟨t, d, g', ?_, r, f, q⟩
    rw [settle, if_neg hs]
    exact f1
theorem js_par {i j : Nat} {x y : Str} {a b : Expr} {u1 u2 : UE} {px py pt : Pos} {kt k2 pt2} (hc : X.calm = true) (hN : X.N.Nodup) (ha : JE S X a u1) (hb : JE S X b u2) (hi : X.N[i]? = some x := by rfl) (hj : X.N[j]? = some y := by rfl) (hij : i ≠ j := by decide)
    (hx : X.env.scope.names.lookup x = some .local := by rfl) (hy : X.env.scope.names.lookup y = some .local := by rfl)
    (hs1 : starEach [a, b] X.env = (false, eval a X.env) :: starEach [b] X.env := by rfl) (hs2 : starEach [b] X.env = (false, eval b X.env) :: starEach [] X.env := by rfl)
    (hw : swappedStores [.Tuple [.Name x px, .Name y py] kt pt] (.Tuple [a, b] k2 pt2) X.env = pure (some [x, y]) := by rfl)
    (hs : swapsWithSole [.Tuple [.Name x px, .Name y py] kt pt] (.Tuple [a, b] k2 pt2) pos.line X.env = pure false := by rfl) :
    JS S X (.Assign [.Tuple [.Name x px, .Name y py] kt pt] (.Tuple [a, b] k2 pt2) pos) (sPar i j u1 u2) := by
  obtain ⟨t1, p1, h1⟩ := ha.ex
  obtain ⟨t2, p2, h2⟩ := hb.ex
  refine ⟨_, ps_par hc hN hi hj hij hx hy (pa_cons p1 (pa_cons p2 pa_nil hs2) hs1) hw hs, fun g0 B g H ρ σ E E' I hu gl => ?_⟩
  refine I.expr allM h1 (by rw [vis_all]; exact hu) fun v1 H1 tt1 d1 g1 I1 r1 f1 hth q1 => ?_
  have nw : ∀ (H' : Hp) (t : Bool) (v : V), (t = true → ∀ a, v = .ref a → H1 a = none) → ∀ (ρ' : DEnv) (σ' : L2.St) (g' : G) (k : Nat), SInv S g0 B g' H1 ρ' σ' → t = true → ∀ a, v = .ref a → B a = none ∧ ∀ (j' : Nat) (e : D), ρ'[j']? = some (some (true, e)) → σ'[j']? = some (some (V.ref a)) → j' = k := fun H' t v f ρ' σ' g' k I' z a ea => by
    refine ⟨I'.st.free (f z a ea), fun j' e h3 h4 => ?_⟩
    obtain ⟨a', xs, ds, e1, _, e2, _⟩ := I'.own j' e h3
    rw [h4] at e1
    cases e1
    rw [f z a ea] at e2
    cases e2
  have I1s : SInv S g0 B g1 H1 ((settle allM tt1 d1 ρ).set i (some (tt1, d1))) (σ.set i (some v1)) := I1.set r1 fun z a ea => by
    refine ⟨I.st.free (f1 z a ea), fun j' e h3 h4 => ?_⟩
    obtain ⟨a', xs, ds, e1, _, e2, _⟩ := I.own j' e (settle_own h3)
    rw [h4] at e1
    cases e1
    rw [f1 z a ea] at e2
    cases e2
  obtain ⟨gv, Iv, Rv, fin⟩ := I1s.view (notI i)
  have Rv' : RepS gv H1 ((vis (notI i) ((settle allM tt1 d1 ρ).set i (some (tt1, d1)))).set i none) σ := by
    refine ⟨?_, fun k t d e => ?_⟩
    · have := Rv.len
      rw [List.length_set] at this ⊢
      exact this
    · by_cases hk : i = k
      · subst hk
        exfalso
        by_cases hl : i < (vis (notI i) ((settle allM tt1 d1 ρ).set i (some (tt1, d1)))).length
        · rw [List.getElem?_set_self hl] at e; cases e
        · rw [List.getElem?_eq_none (by rw [List.length_set]; omega)] at e; cases e
      · rw [List.getElem?_set_ne hk] at e
        obtain ⟨w, hw, r⟩ := Rv.get k t d e
        rw [List.getElem?_set_ne hk] at hw
        exact ⟨w, hw, r⟩
  refine h2 _ σ gv H1 _ _ Iv Rv' q1 fun v2 H2 e2 => ?_
  obtain ⟨tt2, d2, g2, I2, r2, f2, q2⟩ := SInv.settled fin e2
  refine ⟨v1, v2, rfl, gl.nx g2 H2 _ _ (I2.set r2 fun z a ea => ?_) q2⟩
  refine ⟨I1s.st.free (f2 z a ea), fun j' e h3 h4 => ?_⟩
  obtain ⟨a', xs, ds, e1, _, e2', _⟩ := I1s.own j' e (settle_own h3)
  rw [h4] at e1
  cases e1
  rw [f2 z a ea] at e2'
  cases e2'

/-! ### while -/
/-- W: what holds, with what falls -/
def sWhile (c : UT) (ub : US) : US := fun D ρ => ∃ W : Nat → DEnv → Prop, (∃ m, W m ρ) ∧ ∀ m ρ, W m ρ → c ρ fun b => if b = true then ub { D with nx := fun ρ' => ∃ m', m' < m ∧ W m' ρ', ct := fun ρ' => ∃ m', m' < m ∧ W m' ρ', bk := D.nx } ρ else D.nx ρ
theorem js_while {c : Expr} {body : List Stmt} {uc : UT} {ub : US} (hp : PassesOwn (model X.prog X.w) X.A X.env X.xe) (hc : JT S X c uc) (hb : JSs S X body ub) : JS S X (.While c body [] pos) (sWhile uc ub) := by
  obtain ⟨tc, pc, hc⟩ := hc.ex
  obtain ⟨tb, pb, hb⟩ := hb.ex
  refine ⟨_, ps_while hp pc pb, fun g0 B g H ρ σ E E' I hu gl => ?_⟩
  obtain ⟨W, ⟨m0, w0⟩, turn⟩ := hu
  refine ⟨fun m σ' H' => ∃ g' ρ', SInv S g0 B g' H' ρ' σ' ∧ W m ρ', ⟨m0, g, ρ, I, w0⟩, fun m σ1 H1 ⟨g1, ρ1, I1, w1⟩ => ?_⟩
  refine I1.test hc (turn m ρ1 w1) fun b H2 g2 I2 q => ?_
  cases b with
  | false => exact gl.nx g2 H2 ρ1 σ1 I2 q
  | true =>
    refine ⟨fun σ' H' => ∃ m', m' < m ∧ ∃ g' ρ', SInv S g0 B g' H' ρ' σ' ∧ W m' ρ', fun σ' H' ⟨m', h, z⟩ => ⟨m', h, z⟩, ?_⟩
    exact hb g0 B g2 H2 ρ1 σ1 _ _ I2 q ⟨fun g' H' ρ' σ' I' ⟨m', h, w⟩ => ⟨m', h, g', ρ', I', w⟩, gl.rt, fun g' H' ρ' σ' I' h => gl.nx g' H' ρ' σ' I' h, fun g' H' ρ' σ' I' ⟨m', h, w⟩ => ⟨m', h, g', ρ', I', w⟩⟩

/-! ### for over numbers: own lists stay own -/
structure JR (S : Src) (X : Cx) (tg it : Expr) (u : UI) : Prop where
  ex : ∃ w : TI, PI X tg it w ∧ ∀ (ρ : DEnv) (σ : L2.St) (g : G) (H : Hp) (Q : List D → Prop) (R : It → Hp → Prop), HInv S g H → RepS g H ρ σ → u ρ Q →
    (∀ J H' g' ds, Step g H g' H' → HInv S g' H' → (∀ g H, Walks S g H J ds) → Q ds → R J H') → w σ H R
theorem JR.ji {tg it : Expr} {u : UI} (h : JR S X tg it u) : JI S X tg it u := by
  obtain ⟨w, p, h⟩ := h.ex
  exact ⟨w, p, fun ρ σ g H Q R I RS hu hR => h ρ σ g H Q R I RS hu fun J H' g' ds s I' W q => hR J H' g' ds s I' (W g' H') q⟩
theorem jr_range1 {tg a : Expr} {u : UA} {p : Pos} (hg : Gl X "range") (hm : X.mg "range" = none) (ha : JA S X [a] u) (hs : starEach [a] X.env = [(false, eval a X.env)] := by rfl) : JR S X tg (.Call (.Name "range" p) [a] [] pos) (uRng1 u) := by
  obtain ⟨t, pa, h⟩ := ha.ex
  refine ⟨_, pi_range1 hg hm pa hs, fun ρ σ g H Q R I RS hu hR => h ρ σ g H _ _ I RS hu fun vs H1 e => ?_⟩
  obtain ⟨g1, ds, s1, I1, r1, q1⟩ := e
  unfold rng1 at q1
  split at q1
  · rename_i j
    simp only [RepL, Rep] at r1
    obtain ⟨v, r', rfl, rfl, rfl⟩ := r1
    exact ⟨j, rfl, q1.1.1, q1.1.2, hR _ _ g1 _ s1 I1 (fun _ _ => .rng) q1.2⟩
  · exact q1.elim
theorem jr_range2 {tg a b : Expr} {u : UA} {p : Pos} (hg : Gl X "range") (hm : X.mg "range" = none) (ha : JA S X [a, b] u) (hs : starEach [a, b] X.env = [(false, eval a X.env), (false, eval b X.env)] := by rfl) (hs2 : starEach [b] X.env = [(false, eval b X.env)] := by rfl) : JR S X tg (.Call (.Name "range" p) [a, b] [] pos) (uRng2 u) := by
  obtain ⟨t, pa, h⟩ := ha.ex
  refine ⟨_, pi_range2 hg hm pa hs hs2, fun ρ σ g H Q R I RS hu hR => h ρ σ g H _ _ I RS hu fun vs H1 e => ?_⟩
  obtain ⟨g1, ds, s1, I1, r1, q1⟩ := e
  unfold rng2 at q1
  split at q1
  · rename_i i j
    simp only [RepL, Rep] at r1
    obtain ⟨v, r', rfl, rfl, w, r2, rfl, rfl, rfl⟩ := r1
    exact ⟨i, j, rfl, q1.1, hR _ _ g1 _ s1 I1 (fun _ _ => .rng) q1.2⟩
  · exact q1.elim
theorem js_forR {tg it : Expr} {body : List Stmt} {ui : UI} {gt : UG} {vs : List Nat} {ub : US} (hp : PassesOwn (model X.prog X.w) X.A X.env X.xe) (hc : X.calm = true) (hi : JR S X tg it ui) (hg : JG S X tg gt vs) (hb : JSs S X body ub) 
    (hs : ∀ x, foldedSetIterable it X.env x = pure x := by intro _; rfl) : JS S X (.For tg it body [] pos) (sForR ui gt ub) := by
  obtain ⟨w, pw, hi⟩ := hi.ex
  obtain ⟨⟨t, pt, hg⟩, _⟩ := hg
  obtain ⟨tb, pb, hb⟩ := hb.ex
  refine ⟨_, ps_for hp hc pw pt pb hs, fun g0 B g H ρ σ D D' I hu gl => ?_⟩
  obtain ⟨gv, Iv, Rv, fin⟩ := I.view allM
  rw [vis_all] at Rv
  refine hi _ σ gv H _ _ Iv Rv hu fun J H' g' ds s I' W hq => ?_
  obtain ⟨_, g2, f2, _⟩ := fin g' H' s I'
  exact for_core (vs := vs) f2 (W g2 H') hg hb hq gl
end

/-! ### defs -/
@[simp] def startD (N : List Str) (ds : List D) : DEnv := ds.map (fun d => some (false, d)) ++ List.replicate (N.length - ds.length) none
theorem start_inv {S : Src} {g : G} {H : Hp} {N : List Str} {ds : List D} {vs : List V} (I : HInv S g H) (l : RepL g H ds vs) : SInv S g H g H (startD N ds) (L2.start N vs) := by
  have hl := l.len
  have at_ : ∀ (j : Nat) (x : Bool × D), (startD N ds)[j]? = some (some x) → ∃ d, x = (false, d) ∧ ds[j]? = some d := fun j x e => by
    unfold startD at e
    by_cases hj : j < ds.length
    · rw [List.getElem?_append_left (by rw [List.length_map]; exact hj), List.getElem?_map, List.getElem?_eq_getElem hj] at e
      cases e
      exact ⟨_, rfl, List.getElem?_eq_getElem hj⟩
    · rw [List.getElem?_append_right (by rw [List.length_map]; omega), List.getElem?_replicate] at e
      split at e <;> cases e
  refine ⟨Step.refl g H, I, ?_, fun j d e => ?_, fun i j d e a h1 h2 h3 h4 => ?_, fun j d e => ?_⟩
  · unfold startD L2.start
    rw [List.length_append, List.length_append, List.length_map, List.length_map, List.length_replicate, List.length_replicate, hl]
  · obtain ⟨d', e1, _⟩ := at_ j _ e
    cases e1
  · obtain ⟨d', e1, _⟩ := at_ i _ h1
    cases e1
  · obtain ⟨d', e1, e2⟩ := at_ j _ e
    cases e1
    obtain ⟨v, hv, r⟩ := l.get e2
    refine ⟨v, ?_, r⟩
    unfold L2.start
    have hj : j < vs.length := (List.getElem?_eq_some_iff.mp hv).1
    rw [List.getElem?_append_left (by rw [List.length_map]; exact hj), List.getElem?_map, hv]
    rfl
section
variable {P : Program} {w : World} {K : PySem.W.Frag} {mg : Str → Option Value} {base : Heap}
/-- THE RULE for a def: its body's reading keeps the contract -/
theorem def_ok {S : Src} {x qual : Str} {params : Arguments} {body : List Stmt} {scope : Scope} {f : Addr} {fd : FuncData} {N ps : List Str} {k : Nat} {C : Ctr} {u : US} (F : FunD K x qual params body scope [] [] f fd) (sc : FnScope N ps scope)
    (hlen : ∀ ds R, C ds R → ds.length = ps.length)
    (hbody : ∀ (cdv : Value) (A : Around) (outer : List Env) (s : Shared) (H : Hp) (E : XK), Room k (A.deeper (envOfC qual scope s.heap.objs.size f cdv)) → JSs S (cxOf CX0 P w K mg base N qual scope f cdv A outer s H E).nox body u)
    (hC : ∀ ds R, C ds R → u { nx := fun _ => R false .non, rt := R } (startD N ds)) : FnOk P w K mg base CX0 (k + 1) f fd ps (SpOf S C) := by
  refine F.ok sc (fun vs H Q E h => ?_) (fun cdv A outer s H vs Q E hr h => ?_)
  · obtain ⟨ds, g, R, _, l, hc, _⟩ := h
    rw [l.len]
    exact hlen ds R hc
  · obtain ⟨ds, g, R, I, l, hc, hq⟩ := h
    obtain ⟨t, p, h2⟩ := (hbody cdv A outer s H E hr).ex
    refine ⟨t, PSs.nox p, h2 g H g H _ _ _ _ (start_inv I l) (hC ds R hc) ⟨fun g' H' ρ' σ' I' q => ?_, fun g' H' v t d st hi r f q => ?_, fun _ _ _ _ _ q => q.elim, fun _ _ _ _ _ q => q.elim⟩⟩
    · exact hq _ _ ⟨g', false, .non, I'.st, I'.hi, by show Rep _ _ _ _; rw [Rep], fun z => (by cases z), q⟩
    · exact hq v H' ⟨g', t, d, st, hi, r, f, q⟩
end
end DL

/-! DLCall: defs by name; short words for generated texts. -/
namespace DL
open PySem PySem.Spec PyProof.Rows L2

/-- the def st of the text stands behind the top under its name, and keeps the contract -/
structure Cal (P : Program) (w : World) (K : PySem.W.Frag) (mg : Str → Option Value) (base : Heap) (S : Src) (st : Stmt) (x : Str) (k : Nat) (ps : List Str) (C : Ctr) : Prop where
  ex : ∃ f fd, FunD K x x (defArgs st) (defBody st) (defScope st) [] [] f fd ∧ mg x = some (.ref f) ∧ FnOk P w K mg base CX0 k f fd ps (SpOf S C)
theorem Cal.mono {P : Program} {w : World} {K : PySem.W.Frag} {mg : Str → Option Value} {base : Heap} {S : Src} {st : Stmt} {x : Str} {j k : Nat} {ps : List Str} {C : Ctr} (c : Cal P w K mg base S st x j ps C) (h : j ≤ k) : Cal P w K mg base S st x k ps C := by
  obtain ⟨f, fd, F, m, ok⟩ := c.ex
  exact ⟨f, fd, F, m, ok.mono h⟩
/-- a weaker contract -/
theorem Cal.imp {P : Program} {w : World} {K : PySem.W.Frag} {mg : Str → Option Value} {base : Heap} {S : Src} {st : Stmt} {x : Str} {k : Nat} {ps : List Str} {C C' : Ctr} (c : Cal P w K mg base S st x k ps C) (h : ∀ ds R, C' ds R → C ds R) : Cal P w K mg base S st x k ps C' := by
  obtain ⟨f, fd, F, m, ok⟩ := c.ex
  exact ⟨f, fd, F, m, ok.imp fun vs H Q E ⟨ds, g, R, I, l, hc, hq⟩ => ⟨ds, g, R, I, l, h ds R hc, hq⟩⟩
section
variable {S : Src} {X : Cx} {k n : Nat} {ps : List Str} {C : Ctr} {x : Str} {p pos : Pos} {e : Expr} {es : List Expr} {u uk : UA} {st : Stmt} {j : Nat}
abbrev BindN (x : Str) (st : Stmt) (ps : List Str) : Prop := ∀ (kV doc pm : Value) (an : Option Addr) (cdv ct : Value) (us : List Value), us.length = ps.length → bindArgs (PySem.W.fnOf x x (defArgs st) (defBody st) (defScope st) .none kV doc pm an cdv ct) ⟨us, []⟩ = pure (ps.zip us)
abbrev BindK (x : Str) (st : Stmt) (ps : List Str) (n : Nat) (ks : List Str) (ix : List Nat) : Prop := ∀ (kV doc pm : Value) (an : Option Addr) (cdv ct : Value) (us ws : List Value), us.length = n → ws.length = ks.length → bindArgs (PySem.W.fnOf x x (defArgs st) (defBody st) (defScope st) .none kV doc pm an cdv ct) ⟨us, ks.zip ws⟩ = pure (ps.zip (pick (us ++ ws) ix))
theorem kwB_of {K : PySem.W.Frag} {f : Addr} {fd : FuncData} {ks : List Str} {ix : List Nat} (F : FunD K x x (defArgs st) (defBody st) (defScope st) [] [] f fd) (h : BindK x st ps n ks ix) : KwB K fd ps n ks ix := by
  obtain ⟨oc, od, dV, kV, doc, pm, an, cdv, ct, osl, rfl, lk, hcd, hD, hK⟩ := F.ex
  rcases hD with ⟨_, rfl⟩ | ⟨e, _⟩
  · exact ⟨fun s us ws h1 h2 => .of_eq (h kV doc pm an cdv ct us ws h1 h2)⟩
  · exact absurd rfl e
theorem je_callC (c : Cal X.prog X.w X.K X.mg X.base S st x j ps C) (hr : Room k X.A) (hb : BindN x st ps) (ha : JA S X (e :: es) u) (hjk : j ≤ k := by decide) (hg : Gl X x := by rfl)
    (hdb : (x == ("__debug__" : Str)) = false := by decide) (he : starEach (e :: es) X.env = (false, eval e X.env) :: starEach es X.env := by rfl) (hpl : (backTo pos (starEach es X.env)).any (·.1) = false := by rfl) : JE S X (.Call (.Name x p) (e :: es) [] pos) (uCall C u) := by
  obtain ⟨f, fd, F, m, ok⟩ := c.ex
  exact je_call ok (hr.mono hjk) hg m F.kp (F.bindsN hb) ha hdb he hpl
theorem je_callC0 (c : Cal X.prog X.w X.K X.mg X.base S st x j ps C) (hr : Room k X.A) (hb : BindN x st ps) (hjk : j ≤ k := by decide) (hg : Gl X x := by rfl)
    (hdb : (x == ("__debug__" : Str)) = false := by decide) : JE S X (.Call (.Name x p) [] [] pos) (uCall C uNil) := by
  obtain ⟨f, fd, F, m, ok⟩ := c.ex
  exact je_call0 ok (hr.mono hjk) hg m F.kp (F.bindsN hb) hdb
theorem je_callCK {ks : List Str} {ix : List Nat} {kws : List Keyword} (c : Cal X.prog X.w X.K X.mg X.base S st x j ps C) (hr : Room k X.A) (hb : BindK x st ps n ks ix) (ha : JA S X (e :: es) u) (hkw : JK S X kws uk) (hjk : j ≤ k := by decide) (hg : Gl X x := by rfl)
    (hall : (backToKw pos (keywordEach kws X.env)).all (·.1.isSome) = true := by rfl) (hks : (backToKw pos (keywordEach kws X.env)).filterMap (·.1) = ks := by rfl)
    (hdb : (x == ("__debug__" : Str)) = false := by decide) (he : starEach (e :: es) X.env = (false, eval e X.env) :: starEach es X.env := by rfl)
    (hpl : ((backTo pos (starEach (e :: es) X.env)).any (·.1) || (backToKw pos (keywordEach kws X.env)).any (·.1.isNone)) = false := by rfl) : JE S X (.Call (.Name x p) (e :: es) kws pos) (uCallK C n ks.length ix u uk) := by
  obtain ⟨f, fd, F, m, ok⟩ := c.ex
  exact je_callK ok (hr.mono hjk) hg m F.kp (kwB_of F hb) ha hkw hall hks hdb he hpl
theorem je_callCK0 {ks : List Str} {ix : List Nat} {kws : List Keyword} (c : Cal X.prog X.w X.K X.mg X.base S st x j ps C) (hr : Room k X.A) (hb : BindK x st ps 0 ks ix) (hkw : JK S X kws uk) (hjk : j ≤ k := by decide) (hg : Gl X x := by rfl)
    (hall : (backToKw pos (keywordEach kws X.env)).all (·.1.isSome) = true := by rfl) (hks : (backToKw pos (keywordEach kws X.env)).filterMap (·.1) = ks := by rfl)
    (hdb : (x == ("__debug__" : Str)) = false := by decide)
    (hpl : ((backTo pos (starEach [] X.env)).any (·.1) || (backToKw pos (keywordEach kws X.env)).any (·.1.isNone)) = false := by rfl) : JE S X (.Call (.Name x p) [] kws pos) (uCallK C 0 ks.length ix uNil uk) := by
  obtain ⟨f, fd, F, m, ok⟩ := c.ex
  exact je_callK0 ok (hr.mono hjk) hg m F.kp (kwB_of F hb) hkw hall hks hdb hpl
end
/-- a def of the text, by its body's reading -/
theorem cal_of {P : Program} {w : World} {K : PySem.W.Frag} {mg : Str → Option Value} {base : Heap} {S : Src} {st : Stmt} {x : Str} {f : Addr} {fd : FuncData} {N ps : List Str} {k : Nat} {C : Ctr} {u : US} (F : FunD K x x (defArgs st) (defBody st) (defScope st) [] [] f fd) (m : mg x = some (.ref f)) (sc : FnScope N ps (defScope st))
    (hbody : ∀ (cdv : Value) (A : Around) (outer : List Env) (s : Shared) (H : Hp) (E : XK), Room k (A.deeper (envOfC x (defScope st) s.heap.objs.size f cdv)) → JSs S (cxOf CX0 P w K mg base N x (defScope st) f cdv A outer s H E).nox (defBody st) u)
    (hlen : ∀ ds R, C ds R → ds.length = ps.length) (hC : ∀ ds R, C ds R → u { nx := fun _ => R false .non, rt := R } (startD N ds)) : Cal P w K mg base S st x (k + 1) ps C :=
  ⟨f, fd, F, m, def_ok F sc hlen hbody hC⟩

/-! ### short words -/
abbrev fSub : D → D → UK → Prop := fI (fun _ _ => True) fun i j => i - j
abbrev fDiv : D → D → UK → Prop := fI CDivW fun i j => i / j
abbrev fMod : D → D → UK → Prop := fI (fun _ j => 0 < j) fun i j => i % j
abbrev fPow : D → D → UK → Prop := fI CPow fun i j => i ^ j.toNat
abbrev fMulW : D → D → UK → Prop := fI CMulW fun i j => i * j
abbrev fLt : D → D → UK → Prop := fB fun i j => decide (i < j)
abbrev fLe : D → D → UK → Prop := fB fun i j => decide (i ≤ j)
abbrev fGt : D → D → UK → Prop := fB fun i j => decide (j < i)
abbrev fGe : D → D → UK → Prop := fB fun i j => decide (j ≤ i)
section
variable {S : Src} {X : Cx} {a b c : Expr} {ua ub uc : UE} {pos : Pos}
theorem je_add (ha : JE S X a ua) (hb : JE S X b ub) : JE S X (.BinOp a .Add b pos) (u2 fAdd ua ub) := je_op op_add4 lift_add ha hb
theorem je_sub (ha : JE S X a ua) (hb : JE S X b ub) : JE S X (.BinOp a .Sub b pos) (u2 fSub ua ub) := je_op op_sub lift_I0 ha hb
theorem je_mul (ha : JE S X a ua) (hb : JE S X b ub) : JE S X (.BinOp a .Mult b pos) (u2 fMul ua ub) := je_op op_mul4 lift_mul ha hb
theorem je_mulW (ha : JE S X a ua) (hb : JE S X b ub) : JE S X (.BinOp a .Mult b pos) (u2 fMulW ua ub) := je_op op_mulW lift_I ha hb
theorem je_div (ha : JE S X a ua) (hb : JE S X b ub) : JE S X (.BinOp a .FloorDiv b pos) (u2 fDiv ua ub) := je_op op_fdivW lift_I ha hb
theorem je_mod (ha : JE S X a ua) (hb : JE S X b ub) : JE S X (.BinOp a .Mod b pos) (u2 fMod ua ub) := je_op op_mod lift_I ha hb
theorem je_pow (ha : JE S X a ua) (hb : JE S X b ub) : JE S X (.BinOp a .Pow b pos) (u2 fPow ua ub) := je_op op_pow lift_I ha hb
theorem je_neg (ha : JE S X a ua) : JE S X (.UnaryOp .USub a pos) (u1 fNeg ua) := je_un un_neg lift_neg ha
theorem je_lt (ha : JE S X a ua) (hb : JE S X b ub) : JE S X (.Compare a [.Lt] [b] pos) (u2 fLt ua ub) := je_cmp op_lt lift_B ha hb (nomark _)
theorem je_le (ha : JE S X a ua) (hb : JE S X b ub) : JE S X (.Compare a [.LtE] [b] pos) (u2 fLe ua ub) := je_cmp op_le lift_B ha hb (nomark _)
theorem je_gt (ha : JE S X a ua) (hb : JE S X b ub) : JE S X (.Compare a [.Gt] [b] pos) (u2 fGt ua ub) := je_cmp op_gt lift_B ha hb (nomark _)
theorem je_ge (ha : JE S X a ua) (hb : JE S X b ub) : JE S X (.Compare a [.GtE] [b] pos) (u2 fGe ua ub) := je_cmp op_ge lift_B ha hb (nomark _)
theorem je_eq {k : Nat} (hr : Room k X.A) (ha : JE S X a ua) (hb : JE S X b ub) : JE S X (.Compare a [.Eq] [b] pos) (u2 fEq ua ub) := je_cmp (op_eqD hr.units) lift_eq ha hb (nomark _)
theorem je_ne {k : Nat} (hr : Room k X.A) (ha : JE S X a ua) (hb : JE S X b ub) : JE S X (.Compare a [.NotEq] [b] pos) (u2 fNe ua ub) := je_cmp (op_neD hr.units) lift_ne ha hb (nomark _)
theorem room65 {k : Nat} {A : Around} (r : Room k A) : A.units + 65 < cLine := by have := r.un; omega
theorem je_in {k : Nat} (hr : Room k X.A) (ha : JE S X a ua) (hb : JE S X b ub) (hm : behindInMarks .In b = false := by rfl) : JE S X (.Compare a [.In] [b] pos) (u2 (fIn false) ua ub) := je_cmp (op_inA (room65 hr)) lift_in ha hb hm
theorem je_notIn {k : Nat} (hr : Room k X.A) (ha : JE S X a ua) (hb : JE S X b ub) (hm : behindInMarks .NotIn b = false := by rfl) : JE S X (.Compare a [.NotIn] [b] pos) (u2 (fIn true) ua ub) := je_cmp (op_notInA (room65 hr)) lift_in ha hb hm
theorem je_isN (ha : JE S X a ua) (hb : JE S X b ub) : JE S X (.Compare a [.Is] [b] pos) (u2 (fIsN false) ua ub) := je_cmp op_isN lift_isN ha hb (nomark _)
theorem je_isNot (ha : JE S X a ua) (hb : JE S X b ub) : JE S X (.Compare a [.IsNot] [b] pos) (u2 (fIsN true) ua ub) := je_cmp op_notN lift_notN ha hb (nomark _)
theorem jt_lt (ha : JE S X a ua) (hb : JE S X b ub) : JT S X (.Compare a [.Lt] [b] pos) (uTest (u2 fLt ua ub)) := jt_cmp op_lt lift_B ha hb (nomark _)
theorem jt_le (ha : JE S X a ua) (hb : JE S X b ub) : JT S X (.Compare a [.LtE] [b] pos) (uTest (u2 fLe ua ub)) := jt_cmp op_le lift_B ha hb (nomark _)
theorem jt_gt (ha : JE S X a ua) (hb : JE S X b ub) : JT S X (.Compare a [.Gt] [b] pos) (uTest (u2 fGt ua ub)) := jt_cmp op_gt lift_B ha hb (nomark _)
theorem jt_ge (ha : JE S X a ua) (hb : JE S X b ub) : JT S X (.Compare a [.GtE] [b] pos) (uTest (u2 fGe ua ub)) := jt_cmp op_ge lift_B ha hb (nomark _)
theorem jt_eq {k : Nat} (hr : Room k X.A) (ha : JE S X a ua) (hb : JE S X b ub) : JT S X (.Compare a [.Eq] [b] pos) (uTest (u2 fEq ua ub)) := jt_cmp (op_eqD hr.units) lift_eq ha hb (nomark _)
theorem jt_ne {k : Nat} (hr : Room k X.A) (ha : JE S X a ua) (hb : JE S X b ub) : JT S X (.Compare a [.NotEq] [b] pos) (uTest (u2 fNe ua ub)) := jt_cmp (op_neD hr.units) lift_ne ha hb (nomark _)
theorem jt_in {k : Nat} (hr : Room k X.A) (ha : JE S X a ua) (hb : JE S X b ub) (hm : behindInMarks .In b = false := by rfl) : JT S X (.Compare a [.In] [b] pos) (uTest (u2 (fIn false) ua ub)) := jt_cmp (op_inA (room65 hr)) lift_in ha hb hm
theorem jt_notIn {k : Nat} (hr : Room k X.A) (ha : JE S X a ua) (hb : JE S X b ub) (hm : behindInMarks .NotIn b = false := by rfl) : JT S X (.Compare a [.NotIn] [b] pos) (uTest (u2 (fIn true) ua ub)) := jt_cmp (op_notInA (room65 hr)) lift_in ha hb hm
theorem jt_isN (ha : JE S X a ua) (hb : JE S X b ub) : JT S X (.Compare a [.Is] [b] pos) (uTest (u2 (fIsN false) ua ub)) := jt_cmp op_isN lift_isN ha hb (nomark _)
theorem jt_isNot (ha : JE S X a ua) (hb : JE S X b ub) : JT S X (.Compare a [.IsNot] [b] pos) (uTest (u2 (fIsN true) ua ub)) := jt_cmp op_notN lift_notN ha hb (nomark _)
/-- a < b < c over ints, the middle asked once -/
@[simp] def fCh (f g : D → D → UK → Prop) (a b c : UE) (ρ : DEnv) (Q : UK) : Prop := a ρ fun _ x => b ρ fun _ y => f x y fun _ k => isB (fun k => if k = true then c ρ fun _ z => g y z Q else Q false (.bl false)) k
theorem two3 {r r' : R2} {f f' : D → D → UK → Prop} (hl : Lift2 S r f) (hl' : Lift2 S r' f') (ha : JE S X a ua) (hb : JE S X b ub) (hc : JE S X c uc) : ∃ t1 t2 t3 : TE, PE X a t1 ∧ PE X b t2 ∧ PE X c t3 ∧ ∀ (ρ : DEnv) (σ : L2.St) (g : G) (H : Hp) (Q : UK) (P : VK), HInv S g H → RepS g H ρ σ → fCh f f' ua ub uc ρ Q → (∀ v H', EPost S g H Q v H' → P v H') → tChain r r' t1 t2 t3 σ H P := by
  obtain ⟨t1, p1, h1⟩ := ha.ex
  obtain ⟨t2, p2, h2⟩ := hb.ex
  obtain ⟨t3, p3, h3⟩ := hc.ex
  refine ⟨t1, t2, t3, p1, p2, p3, fun ρ σ g H Q P I R h hP => ?_⟩
  refine h1 ρ σ g H _ _ I R h fun x H1 e1 => ?_
  obtain ⟨g1, dx, s1, I1, r1, _, q1⟩ := e1.rep
  refine h2 ρ σ g1 H1 _ _ I1 (R.step I s1) q1 fun y H2 e2 => ?_
  obtain ⟨g2, dy, s2, I2, r2, _, q2⟩ := e2.rep
  refine hl g2 H2 x y dx dy _ _ I2 (r1.step I1 s2) r2 q2 fun v H3 e3 => ?_
  obtain ⟨k, rfl, g3, s3, I3, q3⟩ := e3.isB
  refine ⟨k, rfl, ?_⟩
  cases k with
  | false => exact hP _ _ ((EPost.val (d := .bl false) I3 (by rw [Rep]) q3).after ((s1.trans s2).trans s3))
  | true =>
    refine h3 ρ σ g3 H3 _ _ I3 (((R.step I s1).step I1 s2).step I2 s3) q3 fun z H4 e4 => ?_
    obtain ⟨g4, dz, s4, I4, r4, _, q4⟩ := e4.rep
    exact hl' g4 H4 y z dy dz Q P I4 ((r2.step I2 s3).step I3 s4) r4 q4 fun v H' e => hP v H' (e.after (((s1.trans s2).trans s3).trans s4))
theorem je_ch {op op' : CmpOp} {k k' : Int → Int → Bool} (ho : OpR X (compareOp op) (rI0 fun i j => .bl (k i j))) (ho' : OpR X (compareOp op') (rI0 fun i j => .bl (k' i j))) (ha : JE S X a ua) (hb : JE S X b ub) (hc : JE S X c uc) (hm : lastMarks [op, op'] [b, c] = false := by with_unfolding_all rfl) : JE S X (.Compare a [op, op'] [b, c] pos) (fCh (fB k) (fB k') ua ub uc) := by
  obtain ⟨t1, t2, t3, p1, p2, p3, h⟩ := two3 lift_B lift_B ha hb hc
  exact ⟨_, pe_chain ho ho' p1 p2 p3 hm, h⟩
theorem jt_ch {op op' : CmpOp} {k k' : Int → Int → Bool} (ho : OpR X (compareOp op) (rI0 fun i j => .bl (k i j))) (ho' : OpR X (compareOp op') (rI0 fun i j => .bl (k' i j))) (ha : JE S X a ua) (hb : JE S X b ub) (hc : JE S X c uc) (hm : lastMarks [op, op'] [b, c] = false := by with_unfolding_all rfl) : JT S X (.Compare a [op, op'] [b, c] pos) (uTest (fCh (fB k) (fB k') ua ub uc)) := by
  obtain ⟨t1, t2, t3, p1, p2, p3, h⟩ := two3 lift_B lift_B ha hb hc
  refine ⟨_, pt_chain ho ho' p1 p2 p3 hm, fun ρ σ g H Q P I R hu hP => h ρ σ g H _ _ I R hu fun v H' e => ?_⟩
  obtain ⟨k, rfl, tp⟩ := e.isB
  exact ⟨k, rfl, hP k H' tp⟩
/-! built-ins by name -/
variable {es : List Expr} {u : UA} {p : Pos}
theorem je_len (hm : X.mg "len" = none) (ha : JA S X [a] u) (hg : Gl X "len" := by rfl) (hs : starEach [a] X.env = (false, eval a X.env) :: starEach [] X.env := by rfl) (hp : (backTo pos (starEach [] X.env)).any (·.1) = false := by rfl) : JE S X (.Call (.Name "len" p) [a] [] pos) (uF (fA1 fLen) u) := je_callB call_len lift_len hg hm PySem.boot_len ha (by decide) (by decide) hs hp
theorem je_abs (hm : X.mg "abs" = none) (ha : JA S X [a] u) (hg : Gl X "abs" := by rfl) (hs : starEach [a] X.env = (false, eval a X.env) :: starEach [] X.env := by rfl) (hp : (backTo pos (starEach [] X.env)).any (·.1) = false := by rfl) : JE S X (.Call (.Name "abs" p) [a] [] pos) (uF (fA1 fAbs) u) := je_callB call_abs lift_abs hg hm (by decide +kernel) ha (by decide) (by decide) hs hp
theorem je_sum (hc : X.calm = true) (hm : X.mg "sum" = none) (ha : JA S X [a] u) (hg : Gl X "sum" := by rfl) (hs : starEach [a] X.env = (false, eval a X.env) :: starEach [] X.env := by rfl) (hp : (backTo pos (starEach [] X.env)).any (·.1) = false := by rfl) : JE S X (.Call (.Name "sum" p) [a] [] pos) (uF (fA1 fSum) u) := je_callB (cr_sum hc) lift_sum hg hm (by decide +kernel) ha (by decide) (by decide) hs hp
theorem je_max2 (hc : X.calm = true) (hm : X.mg "max" = none) (ha : JA S X [a, b] u) (hg : Gl X "max" := by rfl) (hs : starEach [a, b] X.env = (false, eval a X.env) :: starEach [b] X.env := by rfl) (hp : (backTo pos (starEach [b] X.env)).any (·.1) = false := by rfl) : JE S X (.Call (.Name "max" p) [a, b] [] pos) (uF (fA2 fMax2) u) := je_callB (call_max2 hc) lift_max2 hg hm (by decide +kernel) ha (by decide) (by decide) hs hp
theorem je_min2 (hc : X.calm = true) (hm : X.mg "min" = none) (ha : JA S X [a, b] u) (hg : Gl X "min" := by rfl) (hs : starEach [a, b] X.env = (false, eval a X.env) :: starEach [b] X.env := by rfl) (hp : (backTo pos (starEach [b] X.env)).any (·.1) = false := by rfl) : JE S X (.Call (.Name "min" p) [a, b] [] pos) (uF (fA2 fMin2) u) := je_callB (call_min2 hc) lift_min2 hg hm (by decide +kernel) ha (by decide) (by decide) hs hp
theorem je_max1 (hc : X.calm = true) (hm : X.mg "max" = none) (ha : JA S X [a] u) (hg : Gl X "max" := by rfl) (hs : starEach [a] X.env = (false, eval a X.env) :: starEach [] X.env := by rfl) (hp : (backTo pos (starEach [] X.env)).any (·.1) = false := by rfl) : JE S X (.Call (.Name "max" p) [a] [] pos) (uF (fA1 fMaxL) u) := je_callB (cr_max hc) lift_maxL hg hm (by decide +kernel) ha (by decide) (by decide) hs hp
theorem je_min1 (hc : X.calm = true) (hm : X.mg "min" = none) (ha : JA S X [a] u) (hg : Gl X "min" := by rfl) (hs : starEach [a] X.env = (false, eval a X.env) :: starEach [] X.env := by rfl) (hp : (backTo pos (starEach [] X.env)).any (·.1) = false := by rfl) : JE S X (.Call (.Name "min" p) [a] [] pos) (uF (fA1 fMinL) u) := je_callB (cr_min hc) lift_minL hg hm (by decide +kernel) ha (by decide) (by decide) hs hp
theorem je_sorted (hm : X.mg "sorted" = none) (ha : JA S X [a] u) (hg : Gl X "sorted" := by rfl) (hs : starEach [a] X.env = (false, eval a X.env) :: starEach [] X.env := by rfl) (hp : (backTo pos (starEach [] X.env)).any (·.1) = false := by rfl) : JE S X (.Call (.Name "sorted" p) [a] [] pos) (uF (fA1 fSorted) u) := je_callB cr_sortedI lift_sorted hg hm (by decide +kernel) ha (by decide) (by decide) hs hp
theorem je_tuple (hm : X.mg "tuple" = none) (ha : JA S X [a] u) (hg : Gl X "tuple" := by rfl) (hs : starEach [a] X.env = (false, eval a X.env) :: starEach [] X.env := by rfl) (hp : (backTo pos (starEach [] X.env)).any (·.1) = false := by rfl) : JE S X (.Call (.Name "tuple" p) [a] [] pos) (uF (fA1 fTuple) u) := je_callTy call_tuple_of lift_tuple hg hm (by decide +kernel) ha (by decide) (by decide) hs hp
theorem je_list (hm : X.mg "list" = none) (ha : JA S X [a] u) (hg : Gl X "list" := by rfl) (hs : starEach [a] X.env = (false, eval a X.env) :: starEach [] X.env := by rfl) (hp : (backTo pos (starEach [] X.env)).any (·.1) = false := by rfl) : JE S X (.Call (.Name "list" p) [a] [] pos) (uF (fA1 fList) u) := je_callTy call_list_of lift_list hg hm (by decide +kernel) ha (by decide) (by decide) hs hp
theorem je_intC (hm : X.mg "int" = none) (ha : JA S X [a] u) (hg : Gl X "int" := by rfl) (hs : starEach [a] X.env = (false, eval a X.env) :: starEach [] X.env := by rfl) (hp : (backTo pos (starEach [] X.env)).any (·.1) = false := by rfl) : JE S X (.Call (.Name "int" p) [a] [] pos) (uF (fA1 fInt) u) := je_callTy call_int1 lift_int hg hm (by decide +kernel) ha (by decide) (by decide) hs hp
theorem je_isI {p2 : Pos} (hm : X.mg "isinstance" = none) (hm2 : X.mg "int" = none) (ha : JE S X a ua) (hg : Gl X "isinstance" := by rfl) (hg2 : Gl X "int" := by rfl)
    (hs : starEach [a, .Name "int" p2] X.env = (false, eval a X.env) :: starEach [.Name "int" p2] X.env := by rfl) (hs2 : starEach [.Name "int" p2] X.env = (false, eval (.Name "int" p2) X.env) :: starEach [] X.env := by rfl) (hp : (backTo pos (starEach [.Name "int" p2] X.env)).any (·.1) = false := by rfl) : JE S X (.Call (.Name "isinstance" p) [a, .Name "int" p2] [] pos) (u1 (fIsi "int") ua) := je_isi kit_int hg hm (by decide +kernel) hg2 hm2 (by decide +kernel) ha (by decide) (by decide) (by decide) (by decide) hs hs2 hp
theorem je_isB {p2 : Pos} (hm : X.mg "isinstance" = none) (hm2 : X.mg "bool" = none) (ha : JE S X a ua) (hg : Gl X "isinstance" := by rfl) (hg2 : Gl X "bool" := by rfl)
    (hs : starEach [a, .Name "bool" p2] X.env = (false, eval a X.env) :: starEach [.Name "bool" p2] X.env := by rfl) (hs2 : starEach [.Name "bool" p2] X.env = (false, eval (.Name "bool" p2) X.env) :: starEach [] X.env := by rfl) (hp : (backTo pos (starEach [.Name "bool" p2] X.env)).any (·.1) = false := by rfl) : JE S X (.Call (.Name "isinstance" p) [a, .Name "bool" p2] [] pos) (u1 (fIsi "bool") ua) := je_isi kit_bool hg hm (by decide +kernel) hg2 hm2 (by decide +kernel) ha (by decide) (by decide) (by decide) (by decide) hs hs2 hp
theorem je_isT {p2 : Pos} (hm : X.mg "isinstance" = none) (hm2 : X.mg "tuple" = none) (ha : JE S X a ua) (hg : Gl X "isinstance" := by rfl) (hg2 : Gl X "tuple" := by rfl)
    (hs : starEach [a, .Name "tuple" p2] X.env = (false, eval a X.env) :: starEach [.Name "tuple" p2] X.env := by rfl) (hs2 : starEach [.Name "tuple" p2] X.env = (false, eval (.Name "tuple" p2) X.env) :: starEach [] X.env := by rfl) (hp : (backTo pos (starEach [.Name "tuple" p2] X.env)).any (·.1) = false := by rfl) : JE S X (.Call (.Name "isinstance" p) [a, .Name "tuple" p2] [] pos) (u1 (fIsi "tuple") ua) := je_isi kit_tuple hg hm (by decide +kernel) hg2 hm2 (by decide +kernel) ha (by decide) (by decide) (by decide) (by decide) hs hs2 hp
theorem je_isS {p2 : Pos} (hm : X.mg "isinstance" = none) (hm2 : X.mg "str" = none) (ha : JE S X a ua) (hg : Gl X "isinstance" := by rfl) (hg2 : Gl X "str" := by rfl)
    (hs : starEach [a, .Name "str" p2] X.env = (false, eval a X.env) :: starEach [.Name "str" p2] X.env := by rfl) (hs2 : starEach [.Name "str" p2] X.env = (false, eval (.Name "str" p2) X.env) :: starEach [] X.env := by rfl) (hp : (backTo pos (starEach [.Name "str" p2] X.env)).any (·.1) = false := by rfl) : JE S X (.Call (.Name "isinstance" p) [a, .Name "str" p2] [] pos) (u1 (fIsi "str") ua) := je_isi kit_str hg hm (by decide +kernel) hg2 hm2 (by decide +kernel) ha (by decide) (by decide) (by decide) (by decide) hs hs2 hp
theorem je_at (ha : JE S X a ua) (hb : JE S X b ub) (hs : PlainIx b := by exact fun _ _ => rfl) : JE S X (.Subscript a b pos) (u2 fIx ua ub) := je_ix ix_seq lift_ix ha hb hs
/-! methods -/
theorem js_app (M : Nat → Bool) {i : Nat} {x : Str} {p1 p2 p3 : Pos} (ha : JA S X [a] u) (hi : X.N[i]? = some x := by rfl)
    (hv : Vis X.env.scope x := by first | exact Or.inl rfl | exact Or.inr (Or.inl rfl) | exact Or.inr (Or.inr rfl)) (hd : (x == ("__debug__" : Str)) = false := by decide) (hcd : (x == ("__classdict__" : Str)) = false := by decide)
    (hbase : attributeBase (.Name x p1) "append" X.env (eval (.Name x p1) X.env) = eval (.Name x p1) X.env := by rfl)
    (hfew : ((backTo p3 (starEach [a] X.env)).all (fun x => !x.1) && (backToKw p3 (keywordEach [] X.env)).all (fun x => x.1.isSome)
      && decide ([a].length + ([] : List Keyword).length + (if ([] : List Keyword).isEmpty then 0 else 1) < 30)) = true := by rfl)
    (hline : (p2.endLine == p3.line) = true := by rfl) (hst : starEach [a] X.env = (false, eval a X.env) :: starEach [] X.env := by rfl) (hplain : (backTo p3 (starEach [] X.env)).any (·.1) = false := by rfl)
    (hs : swapsWith (.Call (.Attribute (.Name x p1) "append" p2) [a] [] p3) none pos.line X.env = pure false := by rfl) :
    JS S X (.Expr (.Call (.Attribute (.Name x p1) "append" p2) [a] [] p3) pos) (sMeth M i mAppend u) := js_meth M PySem.F.slot_list_append PySem.F.type_list_append mt_append liftm_append hi ha hv hd hcd hbase hfew hline hst hplain hs
end
end DL

/-! DLSrc: a second small layer for the laws' sources: a list at one place that holds ints and lists of ints, drawn from and written in place. -/
namespace DL
open PySem PySem.Spec PyProof.Rows L2

inductive SC where
  | int (i : Int) | il (l : List Int)
inductive XV where
  | int (i : Int) | bl (b : Bool) | self | inn (j : Nat)
abbrev XEnv := List (Option XV)
abbrev XQ := XV → List SC → Prop
abbrev UX := XEnv → List SC → XQ → Prop
abbrev UXT := XEnv → List SC → (Bool → List SC → Prop) → Prop
abbrev UXA := XEnv → List SC → (List XV → List SC → Prop) → Prop
def SCat (H : Hp) (pl : Nat → Option Addr) (xs : List V) (j : Nat) : SC → Prop
  | .int i => xs[j]? = some (.int i)
  | .il l => ∃ q, pl j = some q ∧ xs[j]? = some (.ref q) ∧ H q = some (.lst (l.map .int))
structure XI (J : Prop) (p : Addr) (pl : Nat → Option Addr) (B H : Hp) (c : List SC) : Prop where
  at_ : ∃ xs, H p = some (.lst xs) ∧ xs.length = c.length ∧ ∀ j k, c[j]? = some k → SCat H pl xs j k
  pl_ : ∀ j q, pl j = some q → ∃ l, c[j]? = some (.il l)
  inj : J → ∀ i j q, pl i = some q → pl j = some q → i = j
  np : ∀ j, pl j ≠ some p
  keep : ∀ a o, B a = some o → a ≠ p → (∀ j, pl j ≠ some a) → H a = some o
def Vx (p : Addr) (pl : Nat → Option Addr) : XV → V → Prop
  | .int i, v => v = .int i
  | .bl b, v => v = .bl b
  | .self, v => v = .ref p
  | .inn j, v => ∃ q, pl j = some q ∧ v = .ref q
def RX (p : Addr) (pl : Nat → Option Addr) (ρ : XEnv) (σ : L2.St) : Prop := ρ.length = σ.length ∧ ∀ (j : Nat) (x : XV), ρ[j]? = some (some x) → ∃ v, σ[j]? = some (some v) ∧ Vx p pl x v
def XPost (J : Prop) (p : Addr) (pl : Nat → Option Addr) (B : Hp) (Q : XQ) (v : V) (H' : Hp) : Prop := ∃ x c', XI J p pl B H' c' ∧ Vx p pl x v ∧ Q x c'
def XTPost (J : Prop) (p : Addr) (pl : Nat → Option Addr) (B : Hp) (Q : Bool → List SC → Prop) (b : Bool) (H' : Hp) : Prop := ∃ c', XI J p pl B H' c' ∧ Q b c'
def VxL (p : Addr) (pl : Nat → Option Addr) : List XV → List V → Prop
  | [], vs => vs = []
  | x :: xs, vs => ∃ v r, vs = v :: r ∧ Vx p pl x v ∧ VxL p pl xs r
def XAPost (J : Prop) (p : Addr) (pl : Nat → Option Addr) (B : Hp) (Q : List XV → List SC → Prop) (vs : List V) (H' : Hp) : Prop := ∃ xs c', XI J p pl B H' c' ∧ VxL p pl xs vs ∧ Q xs c'
structure XE (J : Prop) (X : Cx) (e : Expr) (u : UX) : Prop where
  ex : ∃ t : TE, PE X e t ∧ ∀ (p : Addr) (pl : Nat → Option Addr) (B : Hp) (ρ : XEnv) (σ : L2.St) (H : Hp) (c : List SC) (Q : XQ) (P : VK), XI J p pl B H c → RX p pl ρ σ → u ρ c Q → (∀ v H', XPost J p pl B Q v H' → P v H') → t σ H P
structure XT (J : Prop) (X : Cx) (e : Expr) (u : UXT) : Prop where
  ex : ∃ t : TT, PT X e t ∧ ∀ (p : Addr) (pl : Nat → Option Addr) (B : Hp) (ρ : XEnv) (σ : L2.St) (H : Hp) (c : List SC) (Q : Bool → List SC → Prop) (P : Bool → Hp → Prop), XI J p pl B H c → RX p pl ρ σ → u ρ c Q → (∀ b H', XTPost J p pl B Q b H' → P b H') → t σ H P
structure XW (J : Prop) (X : Cx) (e : Expr) (u : UXT) : Prop where
  ex : ∃ t : TT, PW X e t ∧ ∀ (p : Addr) (pl : Nat → Option Addr) (B : Hp) (ρ : XEnv) (σ : L2.St) (H : Hp) (c : List SC) (Q : Bool → List SC → Prop) (P : Bool → Hp → Prop), XI J p pl B H c → RX p pl ρ σ → u ρ c Q → (∀ b H', XTPost J p pl B Q b H' → P b H') → t σ H P
structure XA (J : Prop) (X : Cx) (es : List Expr) (u : UXA) : Prop where
  ex : ∃ t : TA, PA X es t ∧ ∀ (p : Addr) (pl : Nat → Option Addr) (B : Hp) (ρ : XEnv) (σ : L2.St) (H : Hp) (c : List SC) (Q : List XV → List SC → Prop) (P : List V → Hp → Prop), XI J p pl B H c → RX p pl ρ σ → u ρ c Q → (∀ v H', XAPost J p pl B Q v H' → P v H') → t σ H P

/-! ### readings -/
@[simp] def xVar (i : Nat) (ρ : XEnv) (c : (List SC)) (Q : XQ) : Prop := match ρ[i]? with
  | some (some x) => Q x c
  | _ => False
@[simp] def xC (x : XV) (_ : XEnv) (c : (List SC)) (Q : XQ) : Prop := Q x c
@[simp] def xI (C : Int → Int → Prop) (k : Int → Int → Int) (a b : UX) (ρ : XEnv) (c : (List SC)) (Q : XQ) : Prop := a ρ c fun x c1 => b ρ c1 fun y c2 => match x, y with
  | .int i, .int j => C i j ∧ Q (.int (k i j)) c2
  | _, _ => False
@[simp] def xB (k : Int → Int → Bool) (a b : UX) (ρ : XEnv) (c : (List SC)) (Q : XQ) : Prop := a ρ c fun x c1 => b ρ c1 fun y c2 => match x, y with
  | .int i, .int j => Q (.bl (k i j)) c2
  | _, _ => False
@[simp] def xTest (a : UX) (ρ : XEnv) (c : (List SC)) (Q : (Bool → List SC → Prop)) : Prop := a ρ c fun x c1 => match x with
  | .bl b => Q b c1
  | _ => False
@[simp] def xAnd (a b : UXT) (ρ : XEnv) (c : (List SC)) (Q : (Bool → List SC → Prop)) : Prop := a ρ c fun k c1 => if k = true then b ρ c1 Q else Q false c1
@[simp] def xOr (a b : UXT) (ρ : XEnv) (c : (List SC)) (Q : (Bool → List SC → Prop)) : Prop := a ρ c fun k c1 => if k = true then Q true c1 else b ρ c1 Q
@[simp] def xIte (t : UXT) (a b : UX) (ρ : XEnv) (c : (List SC)) (Q : XQ) : Prop := t ρ c fun k c1 => if k = true then a ρ c1 Q else b ρ c1 Q
@[simp] def xInt (a : UX) (ρ : XEnv) (c : (List SC)) (Q : XQ) : Prop := a ρ c fun x c1 => match x with
  | .int i => Q (.int i) c1
  | .bl b => Q (.int (if b then 1 else 0)) c1
  | _ => False
@[simp] def xAbs (a : UX) (ρ : XEnv) (c : (List SC)) (Q : XQ) : Prop := a ρ c fun x c1 => match x with
  | .int i => Q (.int (if i < 0 then -i else i)) c1
  | _ => False
@[simp] def xLen (a : UX) (ρ : XEnv) (c : (List SC)) (Q : XQ) : Prop := a ρ c fun x c1 => match x with
  | .self => Q (.int c1.length) c1
  | .inn j => match c1[j]? with
    | some (.il l) => Q (.int l.length) c1
    | _ => False
  | _ => False
@[simp] def xIx (a b : UX) (ρ : XEnv) (c : (List SC)) (Q : XQ) : Prop := a ρ c fun x c1 => b ρ c1 fun y c2 => match x, y with
  | .self, .int k => ∃ m, ixN c2.length k = some m ∧ match c2[m]? with
    | some (.int i) => Q (.int i) c2
    | some (.il _) => Q (.inn m) c2
    | none => False
  | .inn j, .int k => match c2[j]? with
    | some (.il l) => ∃ m i, ixN l.length k = some m ∧ l[m]? = some i ∧ Q (.int i) c2
    | _ => False
  | _, _ => False
@[simp] def xPop0 (a : UX) (ρ : XEnv) (c : (List SC)) (Q : XQ) : Prop := a ρ c fun x c1 => match x with
  | .inn j => match c1[j]? with
    | some (.il (i :: l)) => Q (.int i) (c1.set j (.il l))
    | _ => False
  | _ => False
@[simp] def xPop (a : UX) (ρ : XEnv) (c : (List SC)) (Q : XQ) : Prop := a ρ c fun x c1 => match x with
  | .inn j => match c1[j]? with
    | some (.il l) => ∃ i, l[l.length - 1]? = some i ∧ Q (.int i) (c1.set j (.il l.dropLast))
    | _ => False
  | .self => match c1[c1.length - 1]? with
    | some (.int i) => Q (.int i) c1.dropLast
    | _ => False
  | _ => False
@[simp] def xNil (_ : XEnv) (c : (List SC)) (Q : (List XV → List SC → Prop)) : Prop := Q [] c
@[simp] def xCons (a : UX) (r : UXA) (ρ : XEnv) (c : (List SC)) (Q : (List XV → List SC → Prop)) : Prop := a ρ c fun x c1 => r ρ c1 fun xs c2 => Q (x :: xs) c2
@[simp] def xDs : List XV → Option (List D)
  | [] => some []
  | .int i :: r => (xDs r).map (.int i :: ·)
  | _ => none
@[simp] def xCall (C : Ctr) (a : UXA) (ρ : XEnv) (c : (List SC)) (Q : XQ) : Prop := a ρ c fun xs c1 => ∃ ds, xDs xs = some ds ∧ C ds fun t d => match d with
  | .int i => Q (.int i) c1
  | _ => False

section
variable {J : Prop} {X : Cx} {a b e : Expr} {pos : Pos} {ua ub u : UX} {ta tb : UXT}
theorem xe_var (i : Nat) {x : Str} (hN : X.N[i]? = some x := by rfl) (hv : Vis X.env.scope x := by first | exact Or.inl rfl | exact Or.inr (Or.inl rfl) | exact Or.inr (Or.inr rfl)) (hd : (x == ("__debug__" : Str)) = false := by decide)
    (hcd : (x == ("__classdict__" : Str)) = false := by decide) : XE J X (.Name x pos) (xVar i) := by
  refine ⟨tVar i, pv i hN hv hd hcd, fun p pl B ρ σ H c Q P I R h hP => ?_⟩
  unfold xVar at h
  split at h
  · rename_i x e
    obtain ⟨v, hv, r⟩ := R.2 i _ e
    exact ⟨v, hv, hP v H ⟨_, c, I, r, h⟩⟩
  · exact h.elim
theorem xe_int {i j pos} : XE J X (.Constant (.int i) j pos) (xC (.int i)) := ⟨_, pe_int, fun p pl B ρ σ H c Q P I R h hP => hP _ _ ⟨.int i, c, I, rfl, h⟩⟩
theorem two_x {r : R2} {f : XV → XV → List SC → XQ → Prop} (hl : ∀ p pl B H c x y dx dy Q P, XI J p pl B H c → Vx p pl dx x → Vx p pl dy y → f dx dy c Q → (∀ v H', XPost J p pl B Q v H' → P v H') → r x y H P) (ha : XE J X a ua) (hb : XE J X b ub) :
    ∃ t1 t2 : TE, PE X a t1 ∧ PE X b t2 ∧ ∀ (p : Addr) (pl : Nat → Option Addr) (B : Hp) (ρ : XEnv) (σ : L2.St) (H : Hp) (c : List SC) (Q : XQ) (P : VK), XI J p pl B H c → RX p pl ρ σ → (ua ρ c fun x c1 => ub ρ c1 fun y c2 => f x y c2 Q) → (∀ v H', XPost J p pl B Q v H' → P v H') → tOp r t1 t2 σ H P := by
  obtain ⟨t1, p1, h1⟩ := ha.ex
  obtain ⟨t2, p2, h2⟩ := hb.ex
  refine ⟨t1, t2, p1, p2, fun p pl B ρ σ H c Q P I R h hP => ?_⟩
  refine h1 p pl B ρ σ H c _ _ I R h fun v H1 ⟨x, c1, I1, r1, q1⟩ => ?_
  refine h2 p pl B ρ σ H1 c1 _ _ I1 R q1 fun v2 H2 ⟨y, c2, I2, r2, q2⟩ => ?_
  exact hl p pl B H2 c2 v v2 x y Q P I2 r1 r2 q2 hP
theorem lx_I {C : Int → Int → Prop} {k : Int → Int → Int} : ∀ p pl B H c x y dx dy Q P, XI J p pl B H c → Vx p pl dx x → Vx p pl dy y → (match dx, dy with
  | .int i, .int j => C i j ∧ Q (.int (k i j)) c
  | _, _ => False) → (∀ v H', XPost J p pl B Q v H' → P v H') → rI C (fun i j => .int (k i j)) x y H P := by
  intro p pl B H c x y dx dy Q P I r1 r2 h hP
  cases dx with
  | int i =>
    cases dy with
    | int j => exact ⟨i, j, r1, r2, h.1, hP _ _ ⟨.int (k i j), c, I, rfl, h.2⟩⟩
    | _ => exact h.elim
  | _ => exact h.elim
theorem lx_I0 {k : Int → Int → Int} : ∀ p pl B H c x y dx dy Q P, XI J p pl B H c → Vx p pl dx x → Vx p pl dy y → (match dx, dy with
  | .int i, .int j => True ∧ Q (.int (k i j)) c
  | _, _ => False) → (∀ v H', XPost J p pl B Q v H' → P v H') → rI0 (fun i j => .int (k i j)) x y H P := by
  intro p pl B H c x y dx dy Q P I r1 r2 h hP
  cases dx with
  | int i =>
    cases dy with
    | int j => exact ⟨i, j, r1, r2, hP _ _ ⟨.int (k i j), c, I, rfl, h.2⟩⟩
    | _ => exact h.elim
  | _ => exact h.elim
theorem lx_B {k : Int → Int → Bool} : ∀ p pl B H c x y dx dy Q P, XI J p pl B H c → Vx p pl dx x → Vx p pl dy y → (match dx, dy with
  | .int i, .int j => Q (.bl (k i j)) c
  | _, _ => False) → (∀ v H', XPost J p pl B Q v H' → P v H') → rI0 (fun i j => .bl (k i j)) x y H P := by
  intro p pl B H c x y dx dy Q P I r1 r2 h hP
  cases dx with
  | int i =>
    cases dy with
    | int j => exact ⟨i, j, r1, r2, hP _ _ ⟨.bl (k i j), c, I, rfl, h⟩⟩
    | _ => exact h.elim
  | _ => exact h.elim
theorem lx_eq : ∀ p pl B H c x y dx dy Q P, XI J p pl B H c → Vx p pl dx x → Vx p pl dy y → (match dx, dy with
  | .int i, .int j => Q (.bl (i == j)) c
  | _, _ => False) → (∀ v H', XPost J p pl B Q v H' → P v H') → rEq x y H P := by
  intro p pl B H c x y dx dy Q P I r1 r2 h hP
  cases dx with
  | int i =>
    cases dy with
    | int j =>
      cases r1; cases r2
      refine ⟨rfl, ?_⟩
      rw [dec_int]
      exact hP _ _ ⟨.bl (i == j), c, I, rfl, h⟩
    | _ => exact h.elim
  | _ => exact h.elim
theorem xe_opC {op : Operator} {C : Int → Int → Prop} {k : Int → Int → Int} (ho : OpR X (binaryOp op) (rI C fun i j => .int (k i j))) (ha : XE J X a ua) (hb : XE J X b ub) : XE J X (.BinOp a op b pos) (xI C k ua ub) := by
  obtain ⟨t1, t2, p1, p2, h⟩ := two_x lx_I ha hb
  exact ⟨tOp _ t1 t2, pe_op ho p1 p2, h⟩
theorem xe_op0 {op : Operator} {k : Int → Int → Int} (ho : OpR X (binaryOp op) (rI0 fun i j => .int (k i j))) (ha : XE J X a ua) (hb : XE J X b ub) : XE J X (.BinOp a op b pos) (xI (fun _ _ => True) k ua ub) := by
  obtain ⟨t1, t2, p1, p2, h⟩ := two_x lx_I0 ha hb
  exact ⟨tOp _ t1 t2, pe_op ho p1 p2, h⟩
theorem xe_add (ha : XE J X a ua) (hb : XE J X b ub) : XE J X (.BinOp a .Add b pos) (xI (fun _ _ => True) (fun i j => i + j) ua ub) := xe_op0 op_add ha hb
theorem xe_sub (ha : XE J X a ua) (hb : XE J X b ub) : XE J X (.BinOp a .Sub b pos) (xI (fun _ _ => True) (fun i j => i - j) ua ub) := xe_op0 op_sub ha hb
theorem xe_mul (ha : XE J X a ua) (hb : XE J X b ub) : XE J X (.BinOp a .Mult b pos) (xI CMul (fun i j => i * j) ua ub) := xe_opC op_mul ha hb
theorem xe_div (ha : XE J X a ua) (hb : XE J X b ub) : XE J X (.BinOp a .FloorDiv b pos) (xI CDivW (fun i j => i / j) ua ub) := xe_opC op_fdivW ha hb
theorem xe_mod (ha : XE J X a ua) (hb : XE J X b ub) : XE J X (.BinOp a .Mod b pos) (xI (fun _ j => 0 < j) (fun i j => i % j) ua ub) := xe_opC op_mod ha hb
theorem xe_pow (ha : XE J X a ua) (hb : XE J X b ub) : XE J X (.BinOp a .Pow b pos) (xI CPow (fun i j => i ^ j.toNat) ua ub) := xe_opC op_pow ha hb
theorem xe_cmp {op : CmpOp} {k : Int → Int → Bool} (ho : OpR X (compareOp op) (rI0 fun i j => .bl (k i j))) (ha : XE J X a ua) (hb : XE J X b ub) (hm : behindInMarks op b = false) : XE J X (.Compare a [op] [b] pos) (xB k ua ub) := by
  obtain ⟨t1, t2, p1, p2, h⟩ := two_x lx_B ha hb
  exact ⟨tOp _ t1 t2, pe_cmpR ho p1 p2 hm, h⟩
theorem xt_cmp {op : CmpOp} {k : Int → Int → Bool} (ho : OpR X (compareOp op) (rI0 fun i j => .bl (k i j))) (ha : XE J X a ua) (hb : XE J X b ub) (hm : behindInMarks op b = false) : XT J X (.Compare a [op] [b] pos) (xTest (xB k ua ub)) := by
  obtain ⟨t1, t2, p1, p2, h⟩ := two_x lx_B ha hb
  refine ⟨_, pt_cmpR ho p1 p2 hm, fun p pl B ρ σ H c Q P I R hu hP => h p pl B ρ σ H c (fun x c1 => match x with
    | .bl b => Q b c1
    | _ => False) _ I R hu fun v H' ⟨x, c', I', r, q⟩ => ?_⟩
  cases x with
  | bl k => exact ⟨k, r, hP k H' ⟨c', I', q⟩⟩
  | _ => exact q.elim
theorem xt_eq (ha : XE J X a ua) (hb : XE J X b ub) : XT J X (.Compare a [.Eq] [b] pos) (xTest (xB (fun i j => i == j) ua ub)) := by
  obtain ⟨t1, t2, p1, p2, h⟩ := two_x lx_eq ha hb
  refine ⟨_, pt_cmpR op_eq p1 p2 (nomark _), fun p pl B ρ σ H c Q P I R hu hP => h p pl B ρ σ H c (fun x c1 => match x with
    | .bl b => Q b c1
    | _ => False) _ I R hu fun v H' ⟨x, c', I', r, q⟩ => ?_⟩
  cases x with
  | bl k => exact ⟨k, r, hP k H' ⟨c', I', q⟩⟩
  | _ => exact q.elim
theorem xe_lt (ha : XE J X a ua) (hb : XE J X b ub) : XE J X (.Compare a [.Lt] [b] pos) (xB (fun i j => decide (i < j)) ua ub) := xe_cmp op_lt ha hb (nomark _)
theorem xe_gt (ha : XE J X a ua) (hb : XE J X b ub) : XE J X (.Compare a [.Gt] [b] pos) (xB (fun i j => decide (j < i)) ua ub) := xe_cmp op_gt ha hb (nomark _)
theorem xt_lt (ha : XE J X a ua) (hb : XE J X b ub) : XT J X (.Compare a [.Lt] [b] pos) (xTest (xB (fun i j => decide (i < j)) ua ub)) := xt_cmp op_lt ha hb (nomark _)
theorem xt_le (ha : XE J X a ua) (hb : XE J X b ub) : XT J X (.Compare a [.LtE] [b] pos) (xTest (xB (fun i j => decide (i ≤ j)) ua ub)) := xt_cmp op_le ha hb (nomark _)
theorem xt_gt (ha : XE J X a ua) (hb : XE J X b ub) : XT J X (.Compare a [.Gt] [b] pos) (xTest (xB (fun i j => decide (j < i)) ua ub)) := xt_cmp op_gt ha hb (nomark _)
theorem xt_ge (ha : XE J X a ua) (hb : XE J X b ub) : XT J X (.Compare a [.GtE] [b] pos) (xTest (xB (fun i j => decide (j ≤ i)) ua ub)) := xt_cmp op_ge ha hb (nomark _)
theorem XW.xt (h : XW J X e ta) : XT J X e ta := by
  obtain ⟨t, p, h⟩ := h.ex
  exact ⟨t, p.pt, h⟩
variable {rest : List Expr}
theorem xw_and1 (h : XT J X a ta) : XW J X (.BoolOp .And [a] pos) ta := by
  obtain ⟨t, p, h⟩ := h.ex
  exact ⟨t, pw_and1 p, h⟩
theorem xw_or1 (h : XT J X a ta) : XW J X (.BoolOp .Or [a] pos) ta := by
  obtain ⟨t, p, h⟩ := h.ex
  exact ⟨t, pw_or1 p, h⟩
theorem xw_and (ha : XT J X a ta) (hb : XW J X (.BoolOp .And (b :: rest) pos) tb) : XW J X (.BoolOp .And (a :: b :: rest) pos) (xAnd ta tb) := by
  obtain ⟨t, p, h⟩ := ha.ex
  obtain ⟨t2, p2, h2⟩ := hb.ex
  refine ⟨_, pw_and p p2, fun p pl B ρ σ H c Q P I R hu hP => h p pl B ρ σ H c _ _ I R hu fun k H1 ⟨c1, I1, q1⟩ => ?_⟩
  cases k with
  | true => exact h2 p pl B ρ σ H1 c1 Q P I1 R q1 hP
  | false => exact hP false H1 ⟨c1, I1, q1⟩
theorem xw_or (ha : XT J X a ta) (hb : XW J X (.BoolOp .Or (b :: rest) pos) tb) : XW J X (.BoolOp .Or (a :: b :: rest) pos) (xOr ta tb) := by
  obtain ⟨t, p, h⟩ := ha.ex
  obtain ⟨t2, p2, h2⟩ := hb.ex
  refine ⟨_, pw_or p p2, fun p pl B ρ σ H c Q P I R hu hP => h p pl B ρ σ H c _ _ I R hu fun k H1 ⟨c1, I1, q1⟩ => ?_⟩
  cases k with
  | false => exact h2 p pl B ρ σ H1 c1 Q P I1 R q1 hP
  | true => exact hP true H1 ⟨c1, I1, q1⟩
theorem xe_ifExp {c : Expr} (hc : XT J X c ta) (ha : XE J X a ua) (hb : XE J X b ub) : XE J X (.IfExp c a b pos) (xIte ta ua ub) := by
  obtain ⟨t, p, h⟩ := hc.ex
  obtain ⟨t1, p1, h1⟩ := ha.ex
  obtain ⟨t2, p2, h2⟩ := hb.ex
  refine ⟨_, pe_ifExp p p1 p2, fun p pl B ρ σ H c Q P I R hu hP => h p pl B ρ σ H c _ _ I R hu fun k H1 ⟨c1, I1, q1⟩ => ?_⟩
  cases k with
  | true => exact h1 p pl B ρ σ H1 c1 Q P I1 R q1 hP
  | false => exact h2 p pl B ρ σ H1 c1 Q P I1 R q1 hP
theorem xa_nil : XA J X [] xNil := ⟨tNil, pa_nil, fun p pl B ρ σ H c Q P I R hu hP => hP [] H ⟨[], c, I, by rw [VxL], hu⟩⟩
theorem xa_cons {es : List Expr} {ur : UXA} (ha : XE J X a ua) (hr : XA J X es ur) (hs : starEach (a :: es) X.env = (false, eval a X.env) :: starEach es X.env := by rfl) : XA J X (a :: es) (xCons ua ur) := by
  obtain ⟨t, p, h⟩ := ha.ex
  obtain ⟨t2, p2, h2⟩ := hr.ex
  refine ⟨_, pa_cons p p2 hs, fun p pl B ρ σ H c Q P I R hu hP => h p pl B ρ σ H c _ _ I R hu fun v H1 ⟨x, c1, I1, r1, q1⟩ => ?_⟩
  refine h2 p pl B ρ σ H1 c1 _ _ I1 R q1 fun vs H2 ⟨xs, c2, I2, r2, q2⟩ => ?_
  exact hP (v :: vs) H2 ⟨x :: xs, c2, I2, by rw [VxL]; exact ⟨v, vs, rfl, r1, r2⟩, q2⟩
/-! built-ins -/
variable {p : Pos}
theorem xe_intC (hm : X.mg "int" = none) (ha : XE J X a ua) (hg : Gl X "int" := by rfl) (hs : starEach [a] X.env = (false, eval a X.env) :: starEach [] X.env := by rfl) (hp : (backTo pos (starEach [] X.env)).any (·.1) = false := by rfl) : XE J X (.Call (.Name "int" p) [a] [] pos) (xInt ua) := by
  obtain ⟨t, q, h⟩ := ha.ex
  refine ⟨_, pe_callTy call_int1 hg hm (by decide +kernel) (pa_cons q pa_nil hs) (by decide) (by decide) hs hp, fun p pl B ρ σ H c Q P I R hu hP => h p pl B ρ σ H c _ _ I R hu fun v H1 ⟨x, c1, I1, r1, q1⟩ => ?_⟩
  cases x with
  | int i => exact .inl ⟨i, by rw [show v = .int i from r1], hP _ _ ⟨.int i, c1, I1, rfl, q1⟩⟩
  | bl k => exact .inr ⟨k, by rw [show v = .bl k from r1], hP _ _ ⟨.int (if k then 1 else 0), c1, I1, rfl, q1⟩⟩
  | _ => exact q1.elim
theorem xe_abs (hm : X.mg "abs" = none) (ha : XE J X a ua) (hg : Gl X "abs" := by rfl) (hs : starEach [a] X.env = (false, eval a X.env) :: starEach [] X.env := by rfl) (hp : (backTo pos (starEach [] X.env)).any (·.1) = false := by rfl) : XE J X (.Call (.Name "abs" p) [a] [] pos) (xAbs ua) := by
  obtain ⟨t, q, h⟩ := ha.ex
  refine ⟨_, pe_callB call_abs hg hm (by decide +kernel) (pa_cons q pa_nil hs) (by decide) (by decide) hs hp, fun p pl B ρ σ H c Q P I R hu hP => h p pl B ρ σ H c _ _ I R hu fun v H1 ⟨x, c1, I1, r1, q1⟩ => ?_⟩
  cases x with
  | int i => exact ⟨i, by rw [show v = .int i from r1], hP _ _ ⟨.int (if i < 0 then -i else i), c1, I1, rfl, q1⟩⟩
  | _ => exact q1.elim
theorem XI.inner {q : Addr} {pl : Nat → Option Addr} {B H : Hp} {c : List SC} {j : Nat} {l : List Int} {r : Addr} (I : XI J q pl B H c) (e : c[j]? = some (.il l)) (hr : pl j = some r) : H r = some (.lst (l.map .int)) := by
  obtain ⟨xs, _, _, h⟩ := I.at_
  obtain ⟨q', e1, _, e3⟩ := h j _ e
  rw [hr] at e1; cases e1
  exact e3
theorem xe_len (hm : X.mg "len" = none) (ha : XE J X a ua) (hg : Gl X "len" := by rfl) (hs : starEach [a] X.env = (false, eval a X.env) :: starEach [] X.env := by rfl) (hp : (backTo pos (starEach [] X.env)).any (·.1) = false := by rfl) : XE J X (.Call (.Name "len" p) [a] [] pos) (xLen ua) := by
  obtain ⟨t, q, h⟩ := ha.ex
  refine ⟨_, pe_callB call_len_seq hg hm PySem.boot_len (pa_cons q pa_nil hs) (by decide) (by decide) hs hp, fun p pl B ρ σ H c Q P I R hu hP => h p pl B ρ σ H c _ _ I R hu fun v H1 ⟨x, c1, I1, r1, q1⟩ => ?_⟩
  cases x with
  | self =>
    obtain ⟨xs, e1, e2, _⟩ := I1.at_
    refine ⟨p, xs, by rw [show v = .ref p from r1], .inl (.inl (.inl e1)), ?_⟩
    rw [e2]
    exact hP _ _ ⟨.int c1.length, c1, I1, rfl, q1⟩
  | inn j =>
    obtain ⟨r, hr, ev⟩ := r1
    dsimp only at q1
    split at q1
    · rename_i l e
      have := I1.inner e hr
      refine ⟨r, l.map .int, by rw [ev], .inl (.inl (.inl this)), ?_⟩
      rw [List.length_map]
      exact hP _ _ ⟨.int l.length, c1, I1, rfl, q1⟩
    · exact q1.elim
  | _ => exact q1.elim
theorem ixN_atI {α : Type} {xs : List α} {k : Int} {m : Nat} {v : α} (h : ixN xs.length k = some m) (e : xs[m]? = some v) : L2.atI xs k = some v := by
  unfold L2.atI
  rw [h]
  exact e
theorem xe_ix (ha : XE J X a ua) (hb : XE J X b ub) (hs : PlainIx b := by exact fun _ _ => rfl) : XE J X (.Subscript a b pos) (xIx ua ub) := by
  have hl : ∀ p pl B H c x y dx dy Q P, XI J p pl B H c → Vx p pl dx x → Vx p pl dy y → (match dx, dy with
    | .self, .int k => ∃ m, ixN c.length k = some m ∧ match c[m]? with
      | some (.int i) => Q (.int i) c
      | some (.il _) => Q (.inn m) c
      | none => False
    | .inn j, .int k => match c[j]? with
      | some (.il l) => ∃ m i, ixN l.length k = some m ∧ l[m]? = some i ∧ Q (.int i) c
      | _ => False
    | _, _ => False) → (∀ v H', XPost J p pl B Q v H' → P v H') → rIxL X.K x y H P := by
    intro p pl B H c x y dx dy Q P I r1 r2 h hP
    cases dx with
    | self =>
      cases dy with
      | int k =>
        obtain ⟨m, hm, h⟩ := h
        obtain ⟨xs, e1, e2, e3⟩ := I.at_
        split at h
        · rename_i i e
          exact ⟨p, xs, k, .int i, r1, r2, .inl (.inl e1), ixN_atI (by rw [e2]; exact hm) (e3 m _ e), hP _ _ ⟨.int i, c, I, rfl, h⟩⟩
        · rename_i l e
          obtain ⟨q, hq, ex, eh⟩ := e3 m _ e
          exact ⟨p, xs, k, .ref q, r1, r2, .inl (.inl e1), ixN_atI (by rw [e2]; exact hm) ex, hP _ _ ⟨.inn m, c, I, ⟨q, hq, rfl⟩, h⟩⟩
        · exact h.elim
      | _ => exact h.elim
    | inn j =>
      cases dy with
      | int k =>
        obtain ⟨r, hr, ev⟩ := r1
        dsimp only at h
        split at h
        · rename_i l e
          obtain ⟨m, i, hm, hi, h⟩ := h
          exact ⟨r, l.map .int, k, .int i, ev, r2, .inl (.inl (I.inner e hr)), ixN_atI (m := m) (by rw [List.length_map]; exact hm) (by rw [List.getElem?_map, hi]; rfl), hP _ _ ⟨.int i, c, I, rfl, h⟩⟩
        · exact h.elim
      | _ => exact h.elim
    | _ => exact h.elim
  obtain ⟨t1, t2, p1, p2, h⟩ := two_x hl ha hb
  exact ⟨tOp _ t1 t2, pe_ix ix_list p1 p2 hs, h⟩
/-- an inner list is written -/
theorem XI.inn {q : Addr} {pl : Nat → Option Addr} {B H : Hp} {c : List SC} {j : Nat} {l l' : List Int} {r : Addr} (hJ : J) (I : XI J q pl B H c) (e : c[j]? = some (.il l)) (hr : pl j = some r) : XI J q pl B (upd H r (.lst (l'.map .int))) (c.set j (.il l')) := by
  have hj : j < c.length := (List.getElem?_eq_some_iff.mp e).1
  have hne : q ≠ r := fun z => I.np j (by rw [z]; exact hr)
  obtain ⟨xs, e1, e2, e3⟩ := I.at_
  refine ⟨⟨xs, by rw [upd_ne hne]; exact e1, by rw [List.length_set]; exact e2, fun i k hk => ?_⟩, fun i q' hq' => ?_, I.inj, I.np, fun a o ho n1 n2 => ?_⟩
  · by_cases hij : j = i
    · subst hij
      rw [List.getElem?_set_self hj] at hk
      cases hk
      obtain ⟨q', h1, h2, h3⟩ := e3 j _ e
      rw [hr] at h1; cases h1
      exact ⟨r, hr, h2, upd_same⟩
    · rw [List.getElem?_set_ne hij] at hk
      have := e3 i k hk
      cases k with
      | int z => exact this
      | il z =>
        obtain ⟨q', h1, h2, h3⟩ := this
        refine ⟨q', h1, h2, ?_⟩
        rw [upd_ne (fun z => hij (I.inj hJ j i r hr (by rw [h1, z])))]
        exact h3
  · obtain ⟨l2, h2⟩ := I.pl_ i q' hq'
    by_cases hij : j = i
    · subst hij
      exact ⟨l', List.getElem?_set_self hj⟩
    · exact ⟨l2, by rw [List.getElem?_set_ne hij]; exact h2⟩
  · rw [upd_ne (fun z => n2 j (by rw [z]; exact hr))]
    exact I.keep a o ho n1 n2
theorem seqIx0 {n : Nat} (h : 0 < n) : seqIndex? 0 n = some 0 := by
  unfold seqIndex?
  simp [h]
theorem xe_pop0 {p2 p3 : Pos} {j0 : Nat} (hJ : J) (ha : XE J X a ua) (hbase : attributeBase a "pop" X.env (eval a X.env) = eval a X.env := by rfl)
    (hfew : ((backTo p3 (starEach [.Constant (.int 0) j0 p] X.env)).all (fun x => !x.1) && (backToKw p3 (keywordEach [] X.env)).all (fun x => x.1.isSome)
      && decide ([Expr.Constant (.int 0) j0 p].length + ([] : List Keyword).length + (if ([] : List Keyword).isEmpty then 0 else 1) < 30)) = true := by rfl)
    (hline : (p2.endLine == p3.line) = true := by rfl) (hst : starEach [.Constant (.int 0) j0 p] X.env = (false, eval (.Constant (.int 0) j0 p) X.env) :: starEach [] X.env := by rfl) (hplain : (backTo p3 (starEach [] X.env)).any (·.1) = false := by rfl) :
    XE J X (.Call (.Attribute a "pop" p2) [.Constant (.int 0) j0 p] [] p3) (xPop0 ua) := by
  obtain ⟨t, q, h⟩ := ha.ex
  refine ⟨_, pe_bm PySem.F.plainAttrs_list PySem.F.slot_list_pop PySem.F.type_list_pop mt_popAt q (pa_cons pe_int pa_nil hst) hbase hfew hline hst hplain, fun p pl B ρ σ H c Q P I R hu hP => h p pl B ρ σ H c _ _ I R hu fun v H1 ⟨x, c1, I1, r1, q1⟩ => ?_⟩
  cases x with
  | inn j =>
    obtain ⟨r, hr, ev⟩ := r1
    dsimp only at q1
    split at q1
    · rename_i i l e
      have hH := I1.inner e hr
      subst ev
      refine ⟨.inl ⟨rfl, _, .inl (.inl hH)⟩, ?_⟩
      refine ⟨r, _, 0, 0, .int i, rfl, rfl, hH, by omega, by omega, seqIx0 (by simp), rfl, ?_⟩
      exact hP _ _ ⟨.int i, _, I1.inn (l' := l) hJ e hr, rfl, q1⟩
    · exact q1.elim
  | _ => exact q1.elim
theorem xe_popI {p2 p3 : Pos} (hJ : J) (ha : XE J X a ua) (hbase : attributeBase a "pop" X.env (eval a X.env) = eval a X.env := by rfl) (hline : (p2.endLine == p3.line) = true := by rfl) :
    XE J X (.Call (.Attribute a "pop" p2) [] [] p3) (xPop ua) := by
  obtain ⟨t, q, h⟩ := ha.ex
  refine ⟨_, pe_bm0 PySem.F.plainAttrs_list PySem.F.slot_list_pop PySem.F.type_list_pop mt_pop q hbase hline, fun p pl B ρ σ H c Q P I R hu hP => h p pl B ρ σ H c _ _ I R hu fun v H1 ⟨x, c1, I1, r1, q1⟩ => ?_⟩
  cases x with
  | inn j =>
    obtain ⟨r, hr, ev⟩ := r1
    dsimp only at q1
    split at q1
    · rename_i l e
      obtain ⟨i, hi, q1⟩ := q1
      have hH := I1.inner e hr
      subst ev
      refine ⟨.inl ⟨rfl, _, .inl (.inl hH)⟩, ?_⟩
      refine ⟨r, _, .int i, rfl, rfl, hH, by rw [List.length_map, List.getElem?_map, hi]; rfl, ?_⟩
      rw [← List.map_dropLast]
      exact hP _ _ ⟨.int i, _, I1.inn (l' := l.dropLast) hJ e hr, rfl, q1⟩
    · exact q1.elim
  | self =>
    dsimp only at q1
    split at q1
    · rename_i i e
      obtain ⟨xs, e1, e2, e3⟩ := I1.at_
      have hv : v = .ref p := r1
      subst hv
      refine ⟨.inl ⟨rfl, _, .inl (.inl e1)⟩, ?_⟩
      have hlast := e3 _ _ e
      refine ⟨p, xs, .int i, rfl, rfl, e1, by rw [e2]; exact hlast, ?_⟩
      refine hP _ _ ⟨.int i, c1.dropLast, ⟨⟨xs.dropLast, upd_same, by rw [List.length_dropLast, List.length_dropLast, e2], fun j k hk => ?_⟩, fun j q' hq' => ?_, I1.inj, I1.np, fun a o ho n1 n2 => ?_⟩, rfl, q1⟩
      · have hj : j < c1.dropLast.length := (List.getElem?_eq_some_iff.mp hk).1
        rw [List.length_dropLast] at hj
        rw [List.getElem?_dropLast, if_pos hj] at hk
        have := e3 j k hk
        cases k with
        | int z =>
          show xs.dropLast[j]? = _
          rw [List.getElem?_dropLast, if_pos (by rw [e2]; exact hj)]
          exact this
        | il z =>
          obtain ⟨q', h1, h2, h3⟩ := this
          refine ⟨q', h1, by rw [List.getElem?_dropLast, if_pos (by rw [e2]; exact hj)]; exact h2, ?_⟩
          rw [upd_ne (fun z => I1.np j (by rw [h1, z]))]
          exact h3
      · obtain ⟨l2, h2⟩ := I1.pl_ j q' hq'
        have hj : j < c1.length := (List.getElem?_eq_some_iff.mp h2).1
        refine ⟨l2, ?_⟩
        rw [List.getElem?_dropLast, if_pos]
        · exact h2
        · by_cases hjj : j = c1.length - 1
          · subst hjj
            rw [e] at h2; cases h2
          · omega
      · rw [upd_ne n1]
        exact I1.keep a o ho n1 n2
    · exact q1.elim
  | _ => exact q1.elim

/-! calls of the text's defs over ints -/
theorem xDs_rep {g : G} {H : Hp} {p : Addr} {pl : Nat → Option Addr} : ∀ {xs : List XV} {vs : List V} {ds : List D}, VxL p pl xs vs → xDs xs = some ds → RepL g H ds vs
  | [], vs, ds, h, e => by
    rw [VxL] at h; subst h
    rw [xDs] at e; cases e
    exact RepL.nil
  | x :: xs, vs, ds, h, e => by
    rw [VxL] at h
    obtain ⟨v, r, rfl, h1, h2⟩ := h
    cases x with
    | int i =>
      rw [xDs] at e
      cases e2 : xDs xs with
      | none => rw [e2] at e; cases e
      | some es =>
        rw [e2] at e; cases e
        exact RepL.cons (by rw [Rep]; exact h1) (xDs_rep h2 e2)
    | _ => cases (show (none : Option (List D)) = some ds from e)
theorem xe_call {S : Src} {k j : Nat} {ps : List Str} {C : Ctr} {x : Str} {st : Stmt} {es : List Expr} {ua : UXA} (c : Cal X.prog X.w X.K X.mg X.base S st x j ps C) (hr : Room k X.A) (hb : BindN x st ps) (ha : XA J X (e :: es) ua) (hjk : j ≤ k := by decide) (hg : Gl X x := by rfl)
    (hdb : (x == ("__debug__" : Str)) = false := by decide) (he : starEach (e :: es) X.env = (false, eval e X.env) :: starEach es X.env := by rfl) (hpl : (backTo pos (starEach es X.env)).any (·.1) = false := by rfl) : XE J X (.Call (.Name x p) (e :: es) [] pos) (xCall C ua) := by
  obtain ⟨f, fd, F, m, ok⟩ := c.ex
  obtain ⟨t, pa, h⟩ := ha.ex
  refine ⟨_, pe_call (E := E0) ok (hr.mono hjk) hg m F.kp (F.bindsN hb) .nil pass0 pa hdb he hpl, fun p pl B ρ σ H c Q P I R hu hP => h p pl B ρ σ H c _ _ I R hu fun vs H1 ⟨xs, c1, I1, r1, ds, hd, hC⟩ => ?_⟩
  show SpOf S C (vs ++ []) H1 P E0
  rw [List.append_nil]
  refine ⟨ds, ⟨fun _ => False, fun _ => False, p⟩, _, ⟨fun a h => h.elim, fun a h => h.elim, fun ⟨a, h⟩ => h.elim⟩, xDs_rep r1 hd, hC, fun v H' ⟨g', t, d, s, hi, r, f, q⟩ => ?_⟩
  cases d with
  | int i =>
    refine hP v H' ⟨.int i, c1, ?_, ?_, q⟩
    · have kp : ∀ a o, H1 a = some o → H' a = some o := fun a o e => s.keep a o e fun z => z
      obtain ⟨xs, e1, e2, e3⟩ := I1.at_
      refine ⟨⟨xs, kp _ _ e1, e2, fun j k hk => ?_⟩, I1.pl_, I1.inj, I1.np, fun a o ho n1 n2 => kp a o (I1.keep a o ho n1 n2)⟩
      have := e3 j k hk
      cases k with
      | int z => exact this
      | il z =>
        obtain ⟨q', h1, h2, h3⟩ := this
        exact ⟨q', h1, h2, kp _ _ h3⟩
    · cases t with
      | false =>
        have r : Rep g' H' (.int i) v := r
        rw [Rep] at r
        exact r
      | true =>
        obtain ⟨_, _, _, _, z, _⟩ := r
        cases z
  | _ => exact (show False from q).elim
end

/-! ### statements -/
structure XEnds where
  nx : XEnv → List SC → Prop
  rt : XQ
abbrev UXS := XEnds → XEnv → List SC → Prop
structure XGlue (J : Prop) (p : Addr) (pl : Nat → Option Addr) (B : Hp) (D : XEnds) (D' : Ends) : Prop where
  nx : ∀ ρ σ H c, XI J p pl B H c → RX p pl ρ σ → D.nx ρ c → D'.nx σ H
  rt : ∀ v H, XPost J p pl B D.rt v H → D'.rt v H
structure XS (J : Prop) (X : Cx) (st : Stmt) (u : UXS) : Prop where
  ex : ∃ t : TS, PS X st t ∧ ∀ (p : Addr) (pl : Nat → Option Addr) (B : Hp) (D : XEnds) (D' : Ends) (ρ : XEnv) (σ : L2.St) (H : Hp) (c : List SC), XI J p pl B H c → RX p pl ρ σ → u D ρ c → XGlue J p pl B D D' → t D' σ H
structure XSs (J : Prop) (X : Cx) (st : List Stmt) (u : UXS) : Prop where
  ex : ∃ t : TS, PSs X st t ∧ ∀ (p : Addr) (pl : Nat → Option Addr) (B : Hp) (D : XEnds) (D' : Ends) (ρ : XEnv) (σ : L2.St) (H : Hp) (c : List SC), XI J p pl B H c → RX p pl ρ σ → u D ρ c → XGlue J p pl B D D' → t D' σ H
@[simp] def ysNext (D : XEnds) (ρ : XEnv) (c : (List SC)) : Prop := D.nx ρ c
@[simp] def ysSeq (a b : UXS) (D : XEnds) (ρ : XEnv) (c : (List SC)) : Prop := a { D with nx := b D } ρ c
@[simp] def ysRet (u : UX) (D : XEnds) (ρ : XEnv) (c : (List SC)) : Prop := u ρ c D.rt
@[simp] def ysIf (t : UXT) (a b : UXS) (D : XEnds) (ρ : XEnv) (c : (List SC)) : Prop := t ρ c fun k c1 => if k = true then a D ρ c1 else b D ρ c1
@[simp] def ysAsg (i : Nat) (u : UX) (D : XEnds) (ρ : XEnv) (c : (List SC)) : Prop := u ρ c fun x c1 => D.nx (ρ.set i (some x)) c1
/-- self[k] = an int, where an int stands -/
@[simp] def putX (o k x : XV) (c : List SC) (Q : List SC → Prop) : Prop := match o, k, x with
  | .self, .int k, .int v => ∃ m, ixN c.length k = some m ∧ (match c[m]? with
    | some (.int _) => True
    | _ => False) ∧ Q (c.set m (.int v))
  | _, _, _ => False
@[simp] def ysPut (uo uk u : UX) (D : XEnds) (ρ : XEnv) (c : (List SC)) : Prop := u ρ c fun x c1 => uo ρ c1 fun o c2 => uk ρ c2 fun k c3 => putX o k x c3 (D.nx ρ)
section
variable {J : Prop} {X : Cx} {a b e : Expr} {pos : Pos} {ua ub u : UX} {ta tb : UXT} {st : Stmt} {rest : List Stmt} {us vs : UXS}
theorem RX.set {p : Addr} {pl : Nat → Option Addr} {ρ : XEnv} {σ : L2.St} (R : RX p pl ρ σ) {i : Nat} {x : XV} {v : V} (r : Vx p pl x v) : RX p pl (ρ.set i (some x)) (σ.set i (some v)) := by
  refine ⟨by rw [List.length_set, List.length_set]; exact R.1, fun j y h => ?_⟩
  by_cases hij : i = j
  · subst hij
    by_cases hi : i < ρ.length
    · rw [List.getElem?_set_self hi] at h
      cases h
      exact ⟨v, List.getElem?_set_self (by rw [← R.1]; exact hi), r⟩
    · rw [List.getElem?_eq_none (by rw [List.length_set]; omega)] at h
      cases h
  · rw [List.getElem?_set_ne hij] at h ⊢
    exact R.2 j y h
theorem ys_nil : XSs J X [] ysNext := ⟨tNext, pss_nil, fun p pl B D D' ρ σ H c I R h gl => gl.nx ρ σ H c I R h⟩
theorem ys_cons (h1 : XS J X st us) (h2 : XSs J X rest vs) : XSs J X (st :: rest) (ysSeq us vs) := by
  obtain ⟨t1, p1, h1⟩ := h1.ex
  obtain ⟨t2, p2, h2⟩ := h2.ex
  exact ⟨tSeq t1 t2, pss_cons p1 p2, fun p pl B D D' ρ σ H c I R h gl => h1 p pl B { D with nx := vs D } { D' with nx := t2 D' } ρ σ H c I R h
    ⟨fun ρ σ H c I R h => h2 p pl B D D' ρ σ H c I R h gl, gl.rt⟩⟩
theorem ys_one (h1 : XS J X st us) : XSs J X [st] us := by
  obtain ⟨t1, p1, h1⟩ := h1.ex
  exact ⟨t1, pss_one p1, h1⟩
theorem ys_ret (he : XE J X e u) : XS J X (.Return (some e) pos) (ysRet u) := by
  obtain ⟨t, q, h⟩ := he.ex
  exact ⟨_, ps_ret q, fun p pl B D D' ρ σ H c I R hu gl => h p pl B ρ σ H c _ _ I R hu fun v H' e => gl.rt v H' e⟩
theorem ys_if {c : Expr} {x y : List Stmt} (hc : XT J X c ta) (h1 : XSs J X x us) (h2 : XSs J X y vs) : XS J X (.If c x y pos) (ysIf ta us vs) := by
  obtain ⟨t, q, h⟩ := hc.ex
  obtain ⟨t1, p1, h1⟩ := h1.ex
  obtain ⟨t2, p2, h2⟩ := h2.ex
  refine ⟨_, ps_if q p1 p2, fun p pl B D D' ρ σ H c I R hu gl => h p pl B ρ σ H c _ _ I R hu fun k H1 ⟨c1, I1, q1⟩ => ?_⟩
  cases k with
  | true => exact h1 p pl B D D' ρ σ H1 c1 I1 R q1 gl
  | false => exact h2 p pl B D D' ρ σ H1 c1 I1 R q1 gl
theorem ys_asg {i : Nat} {x : Str} {pos' : Pos} (hN : X.N.Nodup) (he : XE J X e u) (hi : X.N[i]? = some x := by rfl) (hx : Loc X.env.scope x := by first | exact Or.inl rfl | exact Or.inr rfl) (hs : swapsWith e (some (.Name x pos')) pos.line X.env = pure false := by rfl)
    (hf : X.fn x = true ∨ X.env.scope.names.lookup x = some .local := by first | exact .inl rfl | exact .inr rfl | assumption) : XS J X (.Assign [.Name x pos'] e pos) (ysAsg i u) := by
  obtain ⟨t, q, h⟩ := he.ex
  exact ⟨_, ps_set hN hi hx q hs hf, fun p pl B D D' ρ σ H c I R hu gl => h p pl B ρ σ H c _ _ I R hu fun v H' ⟨x, c1, I1, r1, q1⟩ => gl.nx _ _ H' c1 I1 (R.set r1) q1⟩
theorem put_ok {p : Addr} {pl : Nat → Option Addr} {B H : Hp} {c : List SC} {o k x : XV} {vo vk v : V} {Q : List SC → Prop} {P : Hp → Prop} (I : XI J p pl B H c) (ro : Vx p pl o vo) (rk : Vx p pl k vk) (rx : Vx p pl x v) (h : putX o k x c Q)
    (hP : ∀ H' c', XI J p pl B H' c' → Q c' → P H') : rSetL vo vk v H P := by
  cases o with
  | self =>
    cases k with
    | int k =>
      cases x with
      | int z =>
        obtain ⟨m, hm, hk, q⟩ := h
        obtain ⟨xs, e1, e2, e3⟩ := I.at_
        cases ro; cases rk; cases rx
        refine ⟨p, xs, k, m, rfl, rfl, e1, by rw [e2]; exact hm, hP _ _ ⟨⟨xs.set m (.int z), upd_same, by rw [List.length_set, List.length_set, e2], fun j y hy => ?_⟩, fun j q' hq' => ?_, I.inj, I.np, fun a o ho n1 n2 => ?_⟩ q⟩
        · by_cases hj : m = j
          · subst hj
            by_cases hl : m < c.length
            · rw [List.getElem?_set_self hl] at hy
              cases hy
              show (xs.set m (.int z))[m]? = _
              rw [List.getElem?_set_self (by rw [e2]; exact hl)]
            · rw [List.getElem?_eq_none (by rw [List.length_set]; omega)] at hy
              cases hy
          · rw [List.getElem?_set_ne hj] at hy
            have := e3 j y hy
            cases y with
            | int w =>
              show (xs.set m (.int z))[j]? = _
              rw [List.getElem?_set_ne hj]
              exact this
            | il w =>
              obtain ⟨q', h1, h2, h3⟩ := this
              refine ⟨q', h1, by rw [List.getElem?_set_ne hj]; exact h2, ?_⟩
              rw [upd_ne (fun z => I.np j (by rw [h1, z]))]
              exact h3
        · obtain ⟨l, hl⟩ := I.pl_ j q' hq'
          refine ⟨l, ?_⟩
          rw [List.getElem?_set_ne]
          · exact hl
          · intro z
            subst z
            rw [hl] at hk
            exact hk
        · rw [upd_ne n1]
          exact I.keep a o ho n1 n2
      | _ => exact h.elim
    | _ => exact (by cases x <;> exact h.elim)
  | _ => exact (by cases k <;> cases x <;> exact h.elim)
theorem ys_put {o ek : Expr} {uo uk : UX} {pt : Pos} (he : XE J X a u) (ho : XE J X o uo) (hk : XE J X ek uk)
    (hs : swapsWithSole [.Subscript o ek pt] a pos.line X.env = pure false := by rfl) (hw : swappedStores [.Subscript o ek pt] a X.env = pure none := by rfl)
    (h1 : (assignEach [.Subscript o ek pt] X.env).map (·.2) = [assign (.Subscript o ek pt) X.env] := by rfl)
    (hsub : ∀ v, assign (.Subscript o ek pt) X.env v = (do
      let ov ← holding [v] (eval o X.env)
      let iv ← holding [v, ov] (eval ek X.env)
      standAt pt
      holding [v, ov, iv] (setItem ov iv v)
      release [v, ov, iv] []) := by intro _; rfl) : XS J X (.Assign [.Subscript o ek pt] a pos) (ysPut uo uk u) := by
  obtain ⟨t, q, h⟩ := he.ex
  obtain ⟨tobj, qo, ho⟩ := ho.ex
  obtain ⟨tk, qk, hk⟩ := hk.ex
  refine ⟨_, ps_asg q (pg_sub qo qk set_list hsub) hs hw h1, fun p pl B D D' ρ σ H c I R hu gl => h p pl B ρ σ H c _ _ I R hu fun v H1 ⟨x, c1, I1, r1, q1⟩ => ?_⟩
  refine ho p pl B ρ σ H1 c1 _ _ I1 R q1 fun vo H2 ⟨ox, c2, I2, r2, q2⟩ => ?_
  refine hk p pl B ρ σ H2 c2 _ _ I2 R q2 fun vk H3 ⟨kx, c3, I3, r3, q3⟩ => ?_
  exact put_ok I3 r2 r3 r1 q3 fun H' c' I' q' => gl.nx ρ σ H' c' I' R q'
end

/-! ### the source as the data layer sees it -/
def srcOf (J : Prop) (Inv : List SC → Prop) : Src where
  ok := fun H p F => ∃ pl c, XI J p pl (fun _ => none) H c ∧ (∀ a, F a ↔ a = p ∨ ∃ j, pl j = some a) ∧ Inv c
  loc := fun H H' p F hF ⟨pl, c, I, hf, hc⟩ => by
    have kp : ∀ a o, F a → H a = some o → H' a = some o := fun a o f e => by rw [← hF a f]; exact e
    obtain ⟨xs, e1, e2, e3⟩ := I.at_
    refine ⟨pl, c, ⟨⟨xs, kp _ _ ((hf p).mpr (.inl rfl)) e1, e2, fun j k hk => ?_⟩, I.pl_, I.inj, I.np, fun a o z => (by cases z)⟩, hf, hc⟩
    have := e3 j k hk
    cases k with
    | int z => exact this
    | il z =>
      obtain ⟨q', h1, h2, h3⟩ := this
      exact ⟨q', h1, h2, kp _ _ ((hf q').mpr (.inr ⟨j, h1⟩)) h3⟩
  tr := fun H p F a ⟨pl, c, I, hf, hc⟩ fa => by
    obtain ⟨xs, e1, _, _⟩ := I.at_
    rcases (hf a).mp fa with h | ⟨j, h⟩
    · subst h; exact ⟨_, e1⟩
    · obtain ⟨l, hl⟩ := I.pl_ j a h
      exact ⟨_, I.inner hl h⟩
  nt := fun H p F a ys ⟨pl, c, I, hf, hc⟩ fa z => by
    obtain ⟨xs, e1, _, _⟩ := I.at_
    rcases (hf a).mp fa with h | ⟨j, h⟩
    · subst h; rw [e1] at z; cases z
    · obtain ⟨l, hl⟩ := I.pl_ j a h
      rw [I.inner hl h] at z; cases z
/-- a draw: 0 < m, and what comes is from 0 to below m -/
def Draw : Ctr := fun ds R => ∃ m : Int, ds = [.src, .int m] ∧ 0 < m ∧ m.natAbs.log2 < 9000 ∧ ∀ k : Int, 0 ≤ k → k < m → R false (.int k)
theorem draw_of {J : Prop} {Inv : List SC → Prop} {P : Program} {w : World} {K : PySem.W.Frag} {mg : Str → Option Value} {base : Heap} {st : Stmt} {x : Str} {f : Addr} {fd : FuncData} {N ps : List Str} {k : Nat} {u : UXS} (F : FunD K x x (defArgs st) (defBody st) (defScope st) [] [] f fd) (m : mg x = some (.ref f)) (sc : FnScope N ps (defScope st)) (h2 : ps.length = 2)
    (hbody : ∀ (cdv : Value) (A : Around) (outer : List Env) (s : Shared) (H : Hp) (E : XK), Room k (A.deeper (envOfC x (defScope st) s.heap.objs.size f cdv)) → XSs J (cxOf CX0 P w K mg base N x (defScope st) f cdv A outer s H E).nox (defBody st) u)
    (hC : ∀ (c : List SC) (m : Int), Inv c → 0 < m → m.natAbs.log2 < 9000 → u { nx := fun _ _ => False, rt := fun x c' => Inv c' ∧ ∃ k : Int, x = .int k ∧ 0 ≤ k ∧ k < m } ([some .self, some (.int m)] ++ List.replicate (N.length - 2) none) c) :
    Cal P w K mg base (srcOf J Inv) st x (k + 1) ps Draw := by
  refine ⟨f, fd, F, m, F.ok sc (fun vs H Q E h => ?_) (fun cdv A outer s H vs Q E hr h => ?_)⟩
  · obtain ⟨ds, g, R, _, l, ⟨n, rfl, _⟩, _⟩ := h
    rw [l.len, h2]; rfl
  · obtain ⟨ds, g, R, I, l, ⟨n, rfl, hn, hn2, hR⟩, hq⟩ := h
    rw [RepL] at l
    obtain ⟨v, r, rfl, l1, l⟩ := l
    rw [RepL] at l
    obtain ⟨v2, r, rfl, l2, l⟩ := l
    rw [RepL] at l
    subst l
    rw [Rep] at l1
    rw [Rep] at l2
    obtain ⟨rfl, rl⟩ := l1
    subst l2
    obtain ⟨pl, c, XIc, hf, hc⟩ := I.rl ⟨_, rl⟩
    obtain ⟨t, pp, hs⟩ := (hbody cdv A outer s H E hr).ex
    refine ⟨t, PSs.nox pp, hs g.rp pl H _ _ _ _ H c ⟨XIc.at_, XIc.pl_, XIc.inj, XIc.np, fun a o e _ _ => e⟩ ⟨by unfold L2.start; simp, fun j y e => ?_⟩ (hC c n hc hn hn2) ⟨fun _ _ _ _ _ _ z => z.elim, fun v H' ⟨x, c', I', rx, hc', k, ek, hk1, hk2⟩ => ?_⟩⟩
    · match j, e with
      | 0, e => cases e; exact ⟨_, rfl, rfl⟩
      | 1, e => cases e; exact ⟨_, rfl, rfl⟩
      | j + 2, e =>
        have e : (List.replicate (N.length - 2) (none : Option XV))[j]? = some (some y) := e
        rw [List.getElem?_replicate] at e
        split at e <;> cases e
    · subst ek
      have ev : v = .int k := rx
      subst ev
      have fr : ∀ a, ¬ g.rl a → a ≠ g.rp ∧ ∀ j, pl j ≠ some a := fun a na => ⟨fun z => na ((hf a).mpr (.inl z)), fun j z => na ((hf a).mpr (.inr ⟨j, z⟩))⟩
      have tr' : ∀ a o, H a = some o → ∃ o', H' a = some o' := fun a o e => by
        by_cases ha : g.rl a
        · rcases (hf a).mp ha with h | ⟨j, h⟩
          · subst h; obtain ⟨xs, e1, _⟩ := I'.at_; exact ⟨_, e1⟩
          · obtain ⟨l, hl⟩ := I'.pl_ j a h
            exact ⟨_, I'.inner hl h⟩
        · exact ⟨o, I'.keep a o e (fr a ha).1 (fr a ha).2⟩
      refine hq _ H' ⟨g, false, .int k, ⟨fun _ h => h, fun _ h => .inl h, fun _ h => h, fun _ h => .inl h, fun _ => rfl, fun a o e na => I'.keep a o e (fr a na).1 (fr a na).2, tr'⟩, ⟨fun a ha => ?_, I.dis, fun _ => ⟨pl, c', ⟨I'.at_, I'.pl_, I'.inj, I'.np, fun a o z => (by cases z)⟩, hf, hc'⟩⟩, by show Rep _ _ _ _; rw [Rep], fun z => (by cases z), hR k hk1 hk2⟩
      obtain ⟨o, e⟩ := I.fz a ha
      exact tr' a o e

/-! ### the script as a datum -/
theorem rep_scr {g : G} {H : Hp} {K : PySem.W.Frag} {a : Addr} {ns : List Int} {v : V} (h : Rep g H (.scr K a ns) v) : v = .ref a ∧ ∀ g' H', Up g H g' H' → SqL K H' a (ns.map .int) := by
  rw [Rep] at h
  exact ⟨h.1, fun g' H' u => h.2.elim (fun r => .inl (Rd.up u r.1 r.2)) fun r => r H'⟩
@[simp] def fListS (K : PySem.W.Frag) : D → UK → Prop
  | .scr K' _ ns, Q => K' = K ∧ Q true (.lst (ns.map .int))
  | _, _ => False
@[simp] def fLenS (K : PySem.W.Frag) : D → UK → Prop
  | .scr K' _ ns, Q => K' = K ∧ Q false (.int ns.length)
  | _, _ => False
@[simp] def fSlS (K : PySem.W.Frag) : D → Option Int → Option Int → UK → Prop
  | .scr K' _ ns, lo, hi, Q => K' = K ∧ Q true (.lst (cutD (ns.map .int) lo hi))
  | _, _, _, _ => False
@[simp] def uIterS (K : PySem.W.Frag) (u : UE) (ρ : DEnv) (Q : (List D → Prop)) : Prop := u ρ fun _ d => match d with
  | .scr K' _ ns => K' = K ∧ Q (ns.map .int)
  | _ => False
section
variable {S : Src} {X : Cx} {a e : Expr} {ua u : UE} {p pos : Pos} {us : UA}
theorem lift_listS {K : PySem.W.Frag} : LiftA S (fun xs H Q => ∃ p ys, xs = [.ref p] ∧ (SqL K H p ys ∨ SqT K H p ys) ∧ ∀ l, H l = none → Q (.ref l) (upd H l (.lst ys))) (fA1 (fListS K)) := by
  refine lift_A1 fun g H x dx Q P I rx h hP => ?_
  cases dx with
  | scr K' a ns =>
    obtain ⟨rfl, r⟩ := rep_scr rx
    obtain ⟨rfl, h⟩ := h
    exact ⟨a, _, rfl, .inl (r g H (Up.refl g H)), fun p hp => hP _ _ (EPost.newL I hp (RepL.ofInts ns) h)⟩
  | _ => exact (show False from h).elim
theorem lift_lenS {K : PySem.W.Frag} : LiftA S (fun xs H Q => ∃ x n, xs = [x] ∧ LenV K x H n ∧ Q (.int n) H) (fA1 (fLenS K)) := by
  refine lift_A1 fun g H x dx Q P I rx h hP => ?_
  cases dx with
  | scr K' a ns =>
    obtain ⟨rfl, r⟩ := rep_scr rx
    obtain ⟨rfl, h⟩ := h
    refine ⟨_, _, rfl, .inl ⟨_, r g H (Up.refl g H), rfl⟩, ?_⟩
    rw [List.length_map]
    exact hP _ _ (EPost.val (d := .int ns.length) I (by rw [Rep]) h)
  | _ => exact (show False from h).elim
theorem je_listS (hm : X.mg "list" = none) (ha : JA S X [a] us) (hg : Gl X "list" := by rfl) (hs : starEach [a] X.env = (false, eval a X.env) :: starEach [] X.env := by rfl) (hp : (backTo pos (starEach [] X.env)).any (·.1) = false := by rfl) : JE S X (.Call (.Name "list" p) [a] [] pos) (uF (fA1 (fListS X.K)) us) := je_callTy call_list_of lift_listS hg hm (by decide +kernel) ha (by decide) (by decide) hs hp
theorem je_lenS (hm : X.mg "len" = none) (ha : JA S X [a] us) (hg : Gl X "len" := by rfl) (hs : starEach [a] X.env = (false, eval a X.env) :: starEach [] X.env := by rfl) (hp : (backTo pos (starEach [] X.env)).any (·.1) = false := by rfl) : JE S X (.Call (.Name "len" p) [a] [] pos) (uF (fA1 (fLenS X.K)) us) := je_callB call_len lift_lenS hg hm PySem.boot_len ha (by decide) (by decide) hs hp
theorem je_sliceS {lo hi : Option Expr} {ul uh : UO} {p2 : Pos} (h : JE S X e u) (hl : JO S X lo ul) (hh : JO S X hi uh) : JE S X (.Subscript e (.Slice lo hi none p2) pos) (fun ρ Q => u ρ fun _ x => ul ρ fun lo => uh ρ fun hi => fSlS X.K x lo hi Q) := by
  obtain ⟨t, p, h⟩ := h.ex
  obtain ⟨tl, pl, hl⟩ := hl.ex
  obtain ⟨th, ph, hh⟩ := hh.ex
  refine ⟨_, pe_slice (sl_list.or sl_tupA) p pl ph, fun ρ σ g H Q P I R hu hP => h ρ σ g H _ _ I R hu fun v H1 e => ?_⟩
  obtain ⟨g1, d, s1, I1, r1, _, q1⟩ := e.rep
  refine hl ρ σ g1 H1 _ _ I1 (R.step I s1) q1 fun o H2 e2 => ?_
  obtain ⟨g2, s2, I2, q2⟩ := e2
  refine hh ρ σ g2 H2 _ _ I2 ((R.step I s1).step I1 s2) q2 fun o2 H3 e3 => ?_
  obtain ⟨g3, s3, I3, q3⟩ := e3
  have s13 : Step g H g3 H3 := (s1.trans s2).trans s3
  have r3 := (r1.step I1 s2).step I2 s3
  cases d with
  | scr K' a ns =>
    obtain ⟨rfl, r⟩ := rep_scr r3
    obtain ⟨rfl, q3⟩ := q3
    exact .inl ⟨a, _, rfl, r g3 H3 (Up.refl g3 H3), fun p hp => hP _ _ ((EPost.newL I3 hp ((RepL.ofInts ns).cut o o2) q3).after s13)⟩
  | _ => exact (show False from q3).elim
theorem ji_scr {tg : Expr} (h : JE S X e u) : JI S X tg e (uIterS X.K u) := by
  obtain ⟨t, p, h⟩ := h.ex
  refine ⟨iSeq X.K t, pi_seq p, fun ρ σ g H Q R I RS hu hR => h ρ σ g H _ _ I RS hu fun v H1 e => ?_⟩
  obtain ⟨g1, d, s1, I1, r1, _, q1⟩ := e.rep
  cases d with
  | scr K' a ns =>
    obtain ⟨rfl, r⟩ := rep_scr r1
    obtain ⟨rfl, q1⟩ := q1
    refine .inl ⟨a, rfl, ⟨_, r g1 H1 (Up.refl _ _)⟩, hR _ _ g1 _ s1 I1 ⟨fun i g' H' u I' hi => ?_, fun i g' H' u I' hi => ⟨_, r g' H' u, by simpa using hi⟩, fun i g' H' x H'' d u I' hd y => ?_⟩ q1⟩
    · have hi' : i < (ns.map V.int).length := by simpa using hi
      exact ⟨_, (ns.map V.int)[i], r g' H' u, List.getElem?_eq_getElem hi'⟩
    · obtain ⟨e, y⟩ := y
      have := y _ (r g' H' u)
      subst e
      rw [List.getElem?_map] at hd this
      cases hn : ns[i]? with
      | none => rw [hn] at hd; cases hd
      | some z =>
        rw [hn] at hd this
        cases hd; cases this
        exact ⟨g', Step.refl _ _, I', by rw [Rep]⟩
  | _ => exact (show False from q1).elim
end
end DL

/-! DLLaw: a law's def: its first statement lays the source from the script, the rest is read over data. -/
namespace DL
open PySem PySem.Spec PyProof.Rows L2
def scD : SC → D
  | .int i => .int i
  | .il l => .lst (l.map .int)
theorem RepL.sc {g : G} {H : Hp} : ∀ {c : List SC} {xs : List V}, RepL g H (c.map scD) xs → ∀ (j : Nat) (k : SC), c[j]? = some k → match k with
    | .int i => xs[j]? = some (.int i)
    | .il l => ∃ q, xs[j]? = some (.ref q) ∧ H q = some (.lst (l.map .int)) ∧ g.fz q := by
  intro c xs h j k hk
  obtain ⟨v, hv, r⟩ := h.get (i := j) (d := scD k) (by rw [List.getElem?_map, hk]; rfl)
  cases k with
  | int i =>
    have r : Rep g H (.int i) v := r
    rw [Rep] at r; subst r
    exact hv
  | il l =>
    have r : Rep g H (.lst (l.map .int)) v := r
    rw [Rep] at r
    obtain ⟨a, ys, rfl, ⟨h1, h2⟩, l1⟩ := r
    have := l1.ints
    subst this
    exact ⟨a, hv, h1, h2⟩
def plOf (c : List SC) (xs : List V) (j : Nat) : Option Addr := match c[j]?, xs[j]? with
  | some (.il _), some (.ref q) => some q
  | _, _ => none
theorem plOf_some {c : List SC} {xs : List V} {j : Nat} {q : Addr} (h : plOf c xs j = some q) : ∃ l, c[j]? = some (.il l) ∧ xs[j]? = some (.ref q) := by
  unfold plOf at h
  split at h
  · rename_i l q' e1 e2
    cases h
    exact ⟨l, e1, e2⟩
  · cases h
theorem xi_of {J : Prop} {g : G} {H : Hp} {p : Addr} {c : List SC} {xs : List V} (l : RepL g H (c.map scD) xs) (hp : H p = some (.lst xs)) (hn : ¬ g.fz p) (hJ : J → ∀ (i j : Nat) (l : List Int), c[i]? = some (SC.il l) → c[j]? = some (SC.il l) → i = j) : XI J p (plOf c xs) (fun _ => none) H c where
  at_ := ⟨xs, hp, by rw [l.len, List.length_map], fun j k hk => by
    have := l.sc j k hk
    cases k with
    | int i => exact this
    | il l =>
      obtain ⟨q, h1, h2, _⟩ := this
      exact ⟨q, by unfold plOf; rw [hk, h1], h1, h2⟩⟩
  pl_ := fun j q h => by
    obtain ⟨l, h1, _⟩ := plOf_some h
    exact ⟨l, h1⟩
  inj := fun z i j q h1 h2 => by
    obtain ⟨l1, a1, b1⟩ := plOf_some h1
    obtain ⟨l2, a2, b2⟩ := plOf_some h2
    obtain ⟨q1, c1, d1, _⟩ := l.sc i _ a1
    obtain ⟨q2, c2, d2, _⟩ := l.sc j _ a2
    rw [b1] at c1; cases c1
    rw [b2] at c2; cases c2
    rw [d1] at d2
    have d2 : l1.map V.int = l2.map V.int := by injection d2 with d2; injection d2
    have : l1 = l2 := List.map_inj_right (fun a b h => by cases h; rfl) |>.mp d2
    subst this
    exact hJ z i j l1 a1 a2
  np := fun j h => by
    obtain ⟨l1, a1, b1⟩ := plOf_some h
    obtain ⟨q1, c1, d1, f1⟩ := l.sc j _ a1
    rw [b1] at c1; cases c1
    exact hn f1
  keep := fun a o z => by cases z
theorem only_src {n i j : Nat} {x : Bool × D} (e : ((List.replicate n (none : Option (Bool × D))).set i (some (false, .src)))[j]? = some (some x)) : i = j ∧ x = (false, .src) := by
  by_cases hij : i = j
  · subst hij
    by_cases hl : i < n
    · rw [List.getElem?_set_self (by simpa using hl)] at e; cases e; exact ⟨rfl, rfl⟩
    · rw [List.getElem?_eq_none (by simp; omega)] at e; cases e
  · rw [List.getElem?_set_ne hij, List.getElem?_replicate] at e
    split at e <;> cases e
theorem only_len {n i : Nat} {x : Option (Bool × D)} (e : ((List.replicate n (none : Option (Bool × D))).set i (some (false, .src)))[i]? = some x) : i < n := by
  have := (List.getElem?_eq_some_iff.mp e).1
  simpa using this
def law_rhs : List Stmt → Expr
  | .Assign _ e _ :: _ => e
  | _ => .Constant .none 0 ⟨0, 0, 0, 0⟩
def LawSp (n : Nat) (K : PySem.W.Frag) : Sp := fun vs H Q _ => ∃ (a : Addr) (ns : List Int), vs = [.ref a] ∧ ns.length ≤ n ∧ SqL K H a (ns.map .int) ∧ ∀ H', Q (.bl true) H'
/-- THE RULE for a law's def: x = e lays the source, the rest is read over data and returns True -/
theorem law_ok {J : Prop} {Inv : List SC → Prop} {P : Program} {w : World} {K : PySem.W.Frag} {mg : Str → Option Value} {base : Heap} {st : Stmt} {x : Str} {f : Addr} {fd : FuncData} {N : List Str} {sv : Str} {k i n : Nat} {st1 : Stmt} {e : Expr} {rest : List Stmt} {ue : UE} {ub : US} (F : FunD K x x (defArgs st) (defBody st) (defScope st) [] [] f fd) (sc : FnScope N [sv] (defScope st))
    (hb : defBody st = st1 :: rest)
    (hset : ∀ (cdv : Value) (A : Around) (outer : List Env) (s : Shared) (H : Hp) (E : XK) (t : TE), PE (cxOf CX0 P w K mg base N x (defScope st) f cdv A outer s H E).nox e t → PS (cxOf CX0 P w K mg base N x (defScope st) f cdv A outer s H E).nox st1 (tAsg t (gName i)))
    (hbody : ∀ (cdv : Value) (A : Around) (outer : List Env) (s : Shared) (H : Hp) (E : XK), Room k (A.deeper (envOfC x (defScope st) s.heap.objs.size f cdv)) → JE (srcOf J Inv) (cxOf CX0 P w K mg base N x (defScope st) f cdv A outer s H E).nox e ue ∧ JSs (srcOf J Inv) (cxOf CX0 P w K mg base N x (defScope st) f cdv A outer s H E).nox rest ub)
    (hC : ∀ (a : Addr) (ns : List Int), ns.length ≤ n → ue (startD N [.scr K a ns]) fun t d => t = true ∧ ∃ c : List SC, d = .lst (c.map scD) ∧ Inv c ∧ (J → ∀ (i j : Nat) (l : List Int), c[i]? = some (SC.il l) → c[j]? = some (SC.il l) → i = j) ∧
      ub { nx := fun _ => False, rt := fun t d => t = false ∧ d = .bl true } ((List.replicate N.length none).set i (some (false, .src)))) (hN : 0 < N.length) :
    FnOk P w K mg base CX0 (k + 1) f fd [sv] (LawSp n K) := by
  refine F.ok sc (fun vs H Q E h => ?_) (fun cdv A outer s H vs Q E hr h => ?_)
  · obtain ⟨a, ns, rfl, _⟩ := h
    rfl
  · obtain ⟨a, ns, rfl, hn, hS, hq⟩ := h
    obtain ⟨⟨te, pe, he⟩, ⟨tb, pb, hbd⟩⟩ := hbody cdv A outer s H E hr
    have hs : PSs (cxOf CX0 P w K mg base N x (defScope st) f cdv A outer s H E).nox (defBody st) (tSeq (tAsg te (gName i)) tb) := by
      rw [hb]
      exact pss_cons (hset cdv A outer s H E te pe) pb
    refine ⟨_, PSs.nox hs, ?_⟩
    let g0 : G := ⟨fun b => b = a ∧ Rd H a (.lst (ns.map .int)), fun _ => False, a⟩
    have I0 : HInv (srcOf J Inv) g0 H := ⟨fun b hb => by
      obtain ⟨rfl, h | ⟨o, h⟩⟩ := hb
      · exact ⟨_, h⟩
      · exact ⟨_, h⟩, fun b h => h.elim, fun ⟨b, h⟩ => h.elim⟩
    have rep0 : RepL g0 H [.scr K a ns] [.ref a] := RepL.cons (by
      rw [Rep]
      refine ⟨rfl, ?_⟩
      rcases hS with h | h
      · exact .inl ⟨h, rfl, h⟩
      · exact .inr fun H' => .inr h) RepL.nil
    have S0 := start_inv (N := N) I0 rep0
    show te _ H _
    refine he _ _ g0 H _ _ I0 ⟨S0.len, fun i t d e => ?_⟩ (hC a ns hn) fun v H1 ep => ?_
    · cases t with
      | false => exact S0.imm i d e
      | true =>
        obtain ⟨_, _, _, _, _, h, hn, _⟩ := S0.own i d e
        rw [h] at hn; cases hn
    obtain ⟨g', t, d, s1, I1, r1, f1, rfl, c, rfl, hc, hJ, hu⟩ := ep.ex
    obtain ⟨p, xs, ds, rfl, ed, hp, n1, n2, l⟩ := r1
    cases ed
    have xi := xi_of (J := J) l hp n1 hJ
    let g1 : G := ⟨fun _ => False, fun b => b = p ∨ ∃ j, plOf c xs j = some b, p⟩
    have I2 : HInv (srcOf J Inv) g1 H1 := ⟨fun b h => h.elim, fun b _ h => h, fun _ => ⟨plOf c xs, c, xi, fun b => Iff.rfl, hc⟩⟩
    refine hbd g1 H1 g1 H1 _ _ _ _ ⟨Step.refl _ _, I2, ?_, fun j d e => ?_, fun i j d e b h1 => ?_, fun j d e => ?_⟩ hu ⟨fun g' H' ρ' σ' I' q => q.elim, fun g' H' v t d st hi r f q => ?_, fun _ _ _ _ _ q => q.elim, fun _ _ _ _ _ q => q.elim⟩
    · unfold L2.start; simp; omega
    · obtain ⟨_, z⟩ := only_src e; cases z
    · obtain ⟨_, z⟩ := only_src h1; cases z
    · obtain ⟨rfl, z⟩ := only_src e
      cases z
      have hi := only_len e
      exact ⟨.ref p, List.getElem?_set_self (by unfold L2.start; simp; omega), by rw [Rep]; exact ⟨rfl, .inl rfl⟩⟩
    · obtain ⟨rfl, rfl⟩ := q
      have r : Rep g' H' (.bl true) v := r
      rw [Rep] at r
      subst r
      exact hq H'
end DL

/-! DLAux: weaker readings (fewer names known, less wanted), loops by invariants, comprehensions by relations. -/
namespace DL
open PySem PySem.Spec PyProof.Rows L2

/-- fewer names known -/
@[simp] def Le : DEnv → DEnv → Prop
  | [], [] => True
  | none :: r, _ :: s => Le r s
  | some x :: r, y :: s => y = some x ∧ Le r s
  | _, _ => False
theorem Le.len : ∀ {ρ ρ' : DEnv}, Le ρ ρ' → ρ.length = ρ'.length
  | [], [], _ => rfl
  | none :: r, y :: s, h => by
    rw [Le] at h
    rw [List.length_cons, List.length_cons, Le.len h]
  | some x :: r, y :: s, h => by
    rw [Le] at h
    rw [List.length_cons, List.length_cons, Le.len h.2]
  | [], _ :: _, h => h.elim
  | _ :: _, [], h => by rename_i a _; cases a <;> exact h.elim
theorem Le.get : ∀ {ρ ρ' : DEnv} {i : Nat} {x : Bool × D}, Le ρ ρ' → ρ[i]? = some (some x) → ρ'[i]? = some (some x)
  | [], _, i, x, _, e => by simp at e
  | none :: r, [], i, x, h, e => h.elim
  | some _ :: r, [], i, x, h, e => h.elim
  | none :: r, y :: s, i, x, h, e => by
    rw [Le] at h
    cases i with
    | zero => simp at e
    | succ i => exact Le.get (i := i) h e
  | some z :: r, y :: s, i, x, h, e => by
    rw [Le] at h
    cases i with
    | zero => simp at e; subst e; rw [h.1]; rfl
    | succ i => exact Le.get (i := i) h.2 e
theorem Le.refl : ∀ ρ : DEnv, Le ρ ρ
  | [] => trivial
  | none :: r => Le.refl r
  | some x :: r => ⟨rfl, Le.refl r⟩
section
variable {S : Src} {X : Cx} {g0 g : G} {B H : Hp} {ρ ρ' : DEnv} {σ : L2.St}
theorem SInv.le (I : SInv S g0 B g H ρ σ) (h : Le ρ' ρ) : SInv S g0 B g H ρ' σ :=
  ⟨I.st, I.hi, h.len.trans I.len, fun i d e => I.own i d (h.get e), fun i j d e a h1 h2 => I.inj i j d e a (h.get h1) (h.get h2), fun i d e => I.imm i d (h.get e)⟩
/-- less wanted -/
structure ULe (D D' : UEnds) : Prop where
  nx : ∀ ρ, D.nx ρ → D'.nx ρ
  rt : ∀ t d, D.rt t d → D'.rt t d
  bk : ∀ ρ, D.bk ρ → D'.bk ρ
  ct : ∀ ρ, D.ct ρ → D'.ct ρ
theorem ULe.refl (D : UEnds) : ULe D D := ⟨fun _ h => h, fun _ _ h => h, fun _ h => h, fun _ h => h⟩
def sBody (u : US) : US := fun D ρ => ∃ D0 ρ1, Le ρ1 ρ ∧ ULe D0 D ∧ u D0 ρ1
theorem Glue.le {D0 D : UEnds} {D' : Ends} (gl : Glue S g0 B D D') (h : ULe D0 D) : Glue S g0 B D0 D' :=
  ⟨fun g H ρ σ I q => gl.nx g H ρ σ I (h.nx ρ q), fun g H v t d s i r f q => gl.rt g H v t d s i r f (h.rt t d q), fun g H ρ σ I q => gl.bk g H ρ σ I (h.bk ρ q), fun g H ρ σ I q => gl.ct g H ρ σ I (h.ct ρ q)⟩
theorem jss_body {st : List Stmt} {u : US} (h : JSs S X st u) : JSs S X st (sBody u) := by
  obtain ⟨t, p, h⟩ := h.ex
  refine ⟨t, p, fun g0 B g H ρ σ D D' I ⟨D0, ρ1, hl, hD, hu⟩ gl => ?_⟩
  exact h g0 B g H ρ1 σ D0 D' (I.le hl) hu (gl.le hD)
theorem js_body {st : Stmt} {u : US} (h : JS S X st u) : JS S X st (sBody u) := by
  obtain ⟨t, p, h⟩ := h.ex
  refine ⟨t, p, fun g0 B g H ρ σ D D' I ⟨D0, ρ1, hl, hD, hu⟩ gl => ?_⟩
  exact h g0 B g H ρ1 σ D0 D' (I.le hl) hu (gl.le hD)
def uMon (u : UE) : UE := fun ρ Q => ∃ Q0 : UK, (∀ t d, Q0 t d → Q t d) ∧ u ρ Q0
def tMon (u : UT) : UT := fun ρ Q => ∃ Q0 : Bool → Prop, (∀ b, Q0 b → Q b) ∧ u ρ Q0
theorem EPost.mono {Q Q' : UK} {v : V} {H' : Hp} (h : ∀ t d, Q t d → Q' t d) (e : EPost S g H Q v H') : EPost S g H Q' v H' := by
  obtain ⟨g', t, d, s, i, r, f, q⟩ := e
  exact ⟨g', t, d, s, i, r, f, h t d q⟩
theorem je_mon {e : Expr} {u : UE} (h : JE S X e u) : JE S X e (uMon u) := by
  obtain ⟨t, p, h⟩ := h.ex
  exact ⟨t, p, fun ρ σ g H Q P I R ⟨Q0, h0, hu⟩ hP => h ρ σ g H Q0 P I R hu fun v H' e => hP v H' (e.mono h0)⟩
theorem jt_mon {e : Expr} {u : UT} (h : JT S X e u) : JT S X e (tMon u) := by
  obtain ⟨t, p, h⟩ := h.ex
  exact ⟨t, p, fun ρ σ g H Q P I R ⟨Q0, h0, hu⟩ hP => h ρ σ g H Q0 P I R hu fun v H' ⟨g', s, i, q⟩ => hP v H' ⟨g', s, i, h0 v q⟩⟩
end
/-- THE RULE for a loop: an invariant over what must be known -/
theorem loop_inv {gt : UG} {ub : US} (I : Nat → DEnv → Prop) {ds : List D} {E : UEnds} {ρ : DEnv} (h0 : ∃ ρ1, Le ρ1 ρ ∧ I 0 ρ1)
    (hs : ∀ (n : Nat) (d : D) (ρ1 : DEnv), ds[n]? = some d → I n ρ1 → ∃ L, gt d = some L ∧ ∀ K : UEnds, (∀ ρ ρ2, Le ρ2 ρ → I (n + 1) ρ2 → K.nx ρ) → (∀ ρ ρ2, Le ρ2 ρ → I (n + 1) ρ2 → K.ct ρ) → K.rt = E.rt → K.bk = E.nx → ub K (setAll ρ1 (dset L)))
    (h1 : ∀ ρ ρ1, Le ρ1 ρ → I ds.length ρ1 → E.nx ρ) : loopU gt (sBody ub) ds E ρ := by
  have go : ∀ (r pre : List D) (ρ : DEnv), ds = pre ++ r → (∃ ρ1, Le ρ1 ρ ∧ I pre.length ρ1) → loopU gt (sBody ub) r E ρ := by
    intro r
    induction r with
    | nil =>
      intro pre ρ e ⟨ρ1, hl, hi⟩
      rw [List.append_nil] at e
      subst e
      exact h1 ρ ρ1 hl hi
    | cons d r ih =>
      intro pre ρ e ⟨ρ1, hl, hi⟩
      obtain ⟨L, hg, hb⟩ := hs pre.length d ρ1 (by rw [e]; simp) hi
      unfold loopU
      rw [hg]
      have ih' : ∀ ρ ρ2, Le ρ2 ρ → I (pre.length + 1) ρ2 → loopU gt (sBody ub) r E ρ := fun ρ ρ2 h2 i2 =>
        ih (pre ++ [d]) ρ (by rw [e, List.append_assoc]; rfl) ⟨ρ2, h2, by rw [List.length_append]; exact i2⟩
      refine ⟨_, setAll ρ1 (dset L), le_setAll L hl, ULe.refl _, hb _ (fun ρ ρ2 h2 i2 => ih' ρ ρ2 h2 i2) (fun ρ ρ2 h2 i2 => ih' ρ ρ2 h2 i2) rfl rfl⟩
  exact go ds [] ρ rfl h0
where
  le_set {ρ1 ρ : DEnv} (i : Nat) (x : Bool × D) (h : Le ρ1 ρ) : Le (ρ1.set i (some x)) (ρ.set i (some x)) := by
    induction ρ1 generalizing ρ i with
    | nil =>
      cases ρ with
      | nil => exact h
      | cons _ _ => exact h.elim
    | cons a r ih =>
      cases ρ with
      | nil => cases a <;> exact h.elim
      | cons b s =>
        cases i with
        | zero =>
          cases a with
          | none => rw [Le] at h; exact ⟨rfl, h⟩
          | some z => rw [Le] at h; exact ⟨rfl, h.2⟩
        | succ i =>
          cases a with
          | none => rw [Le] at h; exact ih i h
          | some z => rw [Le] at h; exact ⟨h.1, ih i h.2⟩
  le_setAll (L : List (Nat × D)) {ρ1 ρ : DEnv} (h : Le ρ1 ρ) : Le (setAll ρ1 (dset L)) (setAll ρ (dset L)) := by
    induction L generalizing ρ1 ρ with
    | nil => exact h
    | cons p L ih => exact ih (le_set p.1 (false, p.2) h)
/-- a comprehension that gives one thing for each -/
theorem lc_rel {ρ : DEnv} {gt : UG} {ut : UT} {ue : UE} {ds : List D} {K : List D → Prop} (p : D → Bool) (R : Nat → D → Prop)
    (hg : ∀ n d, ds[n]? = some d → ∃ L, gt d = some L ∧ (∀ Q : Bool → Prop, Q (p d) → ut (setAll ρ (dset L)) Q) ∧ (p d = true → ∀ Q : UK, (∀ t y, R n y → Q t y) → ue (setAll ρ (dset L)) Q))
    (hk : ∀ ys : List D, (∀ y ∈ ys, ∃ n d, ds[n]? = some d ∧ p d = true ∧ R n y) → ((∀ d ∈ ds, p d = true) → ys.length = ds.length ∧ ∀ n y, ys[n]? = some y → R n y) → K ys) : lcU ρ gt ut ue ds [] K := by
  have go : ∀ (r pre ys : List D), ds = pre ++ r → (∀ y ∈ ys, ∃ n d, ds[n]? = some d ∧ p d = true ∧ R n y) → ((∀ d ∈ pre, p d = true) → ys.length = pre.length ∧ ∀ n y, ys[n]? = some y → R n y) → lcU ρ gt ut ue r ys K := by
    intro r
    induction r with
    | nil =>
      intro pre ys e h1 h2
      rw [List.append_nil] at e
      subst e
      exact hk ys h1 h2
    | cons d r ih =>
      intro pre ys e h1 h2
      have hd : ds[pre.length]? = some d := by rw [e]; simp
      obtain ⟨L, hgd, ht, he⟩ := hg _ d hd
      unfold lcU
      rw [hgd]
      refine ht _ ?_
      cases hp : p d with
      | true =>
        rw [if_pos rfl]
        refine he hp _ fun t y hy => ih (pre ++ [d]) (ys ++ [y]) (by rw [e, List.append_assoc]; rfl) (fun z hz => ?_) (fun hall => ?_)
        · rcases List.mem_append.mp hz with hz | hz
          · exact h1 z hz
          · rw [List.mem_singleton] at hz; subst hz
            exact ⟨_, d, hd, hp, hy⟩
        · obtain ⟨q1, q2⟩ := h2 fun d hd => hall d (List.mem_append_left _ hd)
          refine ⟨by simp [q1], fun n z hz => ?_⟩
          by_cases hn : n < ys.length
          · rw [List.getElem?_append_left hn] at hz
            exact q2 n z hz
          · rw [List.getElem?_append_right (by omega)] at hz
            have : n - ys.length = 0 := by
              cases hh : n - ys.length with
              | zero => rfl
              | succ m => rw [hh] at hz; simp at hz
            rw [this] at hz
            simp at hz; subst hz
            have : n = pre.length := by omega
            rw [this]; exact hy
      | false =>
        rw [if_neg (by simp)]
        exact ih (pre ++ [d]) ys (by rw [e, List.append_assoc]; rfl) h1 (fun hall => by
          have := hall d (by simp)
          rw [hp] at this; cases this)
  exact go ds [] [] rfl (fun y hy => by simp at hy) (fun _ => ⟨rfl, fun n y hy => by simp at hy⟩)
/-- a comprehension over data that is computed -/
theorem lc_fun {ρ : DEnv} {gt : UG} {ut : UT} {ue : UE} {ds : List D} {K : List D → Prop} (p : D → Bool) (f : D → D)
    (hg : ∀ d ∈ ds, ∃ L, gt d = some L ∧ (∀ Q : Bool → Prop, Q (p d) → ut (setAll ρ (dset L)) Q) ∧ (p d = true → ∀ Q : UK, (∀ t, Q t (f d)) → ue (setAll ρ (dset L)) Q))
    (hk : K ((ds.filter p).map f)) : lcU ρ gt ut ue ds [] K := by
  have go : ∀ (r ys : List D), (∀ d ∈ r, d ∈ ds) → K (ys ++ (r.filter p).map f) → lcU ρ gt ut ue r ys K := by
    intro r
    induction r with
    | nil => intro ys _ h; simpa [lcU] using h
    | cons d r ih =>
      intro ys hm h
      obtain ⟨L, hgd, ht, he⟩ := hg d (hm d (by simp))
      unfold lcU
      rw [hgd]
      refine ht _ ?_
      cases hp : p d with
      | true =>
        rw [if_pos rfl]
        refine he hp _ fun t => ih _ (fun d hd => hm d (by simp [hd])) ?_
        rw [List.filter_cons, if_pos hp, List.map_cons] at h
        simpa using h
      | false =>
        rw [if_neg (by simp)]
        refine ih _ (fun d hd => hm d (by simp [hd])) ?_
        rw [List.filter_cons, if_neg (by simp [hp])] at h
        exact h
  exact go ds [] (fun _ h => h) (by simpa using hk)
/-- a contract that nothing meets -/
theorem cal_false {S : Src} {P : Program} {w : World} {K : PySem.W.Frag} {mg : Str → Option Value} {base : Heap} {st : Stmt} {x : Str} {f : Addr} {fd : FuncData} {N ps : List Str} {k : Nat} (F : FunD K x x (defArgs st) (defBody st) (defScope st) [] [] f fd) (m : mg x = some (.ref f)) (sc : FnScope N ps (defScope st)) {C : Ctr} (hC : ∀ ds R, ¬ C ds R) : Cal P w K mg base S st x (k + 1) ps C := by
  refine ⟨f, fd, F, m, F.ok sc (fun vs H Q E h => ?_) (fun cdv A outer s H vs Q E hr h => ?_)⟩
  · obtain ⟨ds, g, R, _, l, hc, _⟩ := h
    exact (hC _ _ hc).elim
  · obtain ⟨ds, g, R, _, l, hc, _⟩ := h
    exact (hC _ _ hc).elim
end DL

/-! DLAux2: loops by what is left. -/
namespace DL
open PySem PySem.Spec PyProof.Rows L2
theorem sz : sizeLine = 16777216 := by decide
/-- THE RULE for a loop: an invariant over what is left -/
theorem loop_map {α : Type} {gt : UG} {ub : US} (f : α → D) (I : List α → DEnv → Prop) {l : List α} {E : UEnds} {ρ : DEnv} (h0 : ∃ ρ1, Le ρ1 ρ ∧ I l ρ1)
    (hs : ∀ (a : α) (r : List α) (ρ1 : DEnv), a ∈ l → I (a :: r) ρ1 → ∃ L, gt (f a) = some L ∧ ∀ K : UEnds, (∀ ρ ρ2, Le ρ2 ρ → I r ρ2 → K.nx ρ) → (∀ ρ ρ2, Le ρ2 ρ → I r ρ2 → K.ct ρ) → K.rt = E.rt → K.bk = E.nx → ub K (setAll ρ1 (dset L)))
    (h1 : ∀ ρ ρ1, Le ρ1 ρ → I [] ρ1 → E.nx ρ) : loopU gt (sBody ub) (l.map f) E ρ := by
  have go : ∀ (r : List α) (ρ : DEnv), (∀ a ∈ r, a ∈ l) → (∃ ρ1, Le ρ1 ρ ∧ I r ρ1) → loopU gt (sBody ub) (r.map f) E ρ := by
    intro r
    induction r with
    | nil => intro ρ _ ⟨ρ1, hl, hi⟩; exact h1 ρ ρ1 hl hi
    | cons a r ih =>
      intro ρ hm ⟨ρ1, hl, hi⟩
      obtain ⟨L, hg, hb⟩ := hs a r ρ1 (hm a (by simp)) hi
      rw [List.map_cons]
      unfold loopU
      rw [hg]
      have ih' : ∀ ρ ρ2, Le ρ2 ρ → I r ρ2 → loopU gt (sBody ub) (r.map f) E ρ := fun ρ ρ2 h2 i2 => ih ρ (fun a ha => hm a (by simp [ha])) ⟨ρ2, h2, i2⟩
      exact ⟨_, setAll ρ1 (dset L), loop_inv.le_setAll L hl, ULe.refl _, hb _ ih' ih' rfl rfl⟩
  exact go l ρ (fun _ h => h) h0
theorem loop_list {gt : UG} {ub : US} (I : List D → DEnv → Prop) {l : List D} {E : UEnds} {ρ : DEnv} (h0 : ∃ ρ1, Le ρ1 ρ ∧ I l ρ1)
    (hs : ∀ (a : D) (r : List D) (ρ1 : DEnv), a ∈ l → I (a :: r) ρ1 → ∃ L, gt a = some L ∧ ∀ K : UEnds, (∀ ρ ρ2, Le ρ2 ρ → I r ρ2 → K.nx ρ) → (∀ ρ ρ2, Le ρ2 ρ → I r ρ2 → K.ct ρ) → K.rt = E.rt → K.bk = E.nx → ub K (setAll ρ1 (dset L)))
    (h1 : ∀ ρ ρ1, Le ρ1 ρ → I [] ρ1 → E.nx ρ) : loopU gt (sBody ub) l E ρ := by
  have := loop_map (fun d : D => d) I h0 hs h1
  rwa [List.map_id'] at this
/-- what comes behind a loop -/
theorem sBody_of {u : US} {E : UEnds} {ρ ρ1 : DEnv} (h : Le ρ1 ρ) (hu : u E ρ1) : sBody u E ρ := ⟨E, ρ1, h, ULe.refl E, hu⟩
/-! small facts -/
mutual
theorem eqD_refl : ∀ (d : D) (n : Nat), okD n d = true → eqD d d = true
  | .non, _, _ => by simp [eqD]
  | .bl _, _, _ => by simp [eqD]
  | .int _, _, _ => by simp [eqD]
  | .str _, _, _ => by simp [eqD]
  | .tup ds, n, h => by
    cases n with
    | zero => simp [okD] at h
    | succ n => rw [okD] at h; rw [eqD]; exact eqDL_refl ds n h
  | .lst ds, n, h => by
    cases n with
    | zero => simp [okD] at h
    | succ n => rw [okD] at h; rw [eqD]; exact eqDL_refl ds n h
  | .src, n, h => by cases n <;> simp [okD] at h
  | .scr _ _ _, n, h => by cases n <;> simp [okD] at h
theorem eqDL_refl : ∀ (ds : List D) (n : Nat), okDL n ds = true → eqDL ds ds = true
  | [], _, _ => by simp [eqDL]
  | d :: ds, n, h => by
    rw [okDL, Bool.and_eq_true] at h
    rw [eqDL, eqD_refl d n h.1, eqDL_refl ds n h.2]
    rfl
end
theorem okDL_mem {n : Nat} : ∀ {ds : List D}, okDL n ds = true → ∀ d ∈ ds, okD n d = true
  | [], _, d, hd => by simp at hd
  | x :: ds, h, d, hd => by
    rw [okDL, Bool.and_eq_true] at h
    rcases List.mem_cons.mp hd with rfl | hd
    · exact h.1
    · exact okDL_mem h.2 d hd
theorem okDL_of {n : Nat} : ∀ {ds : List D}, (∀ d ∈ ds, okD n d = true) → okDL n ds = true
  | [], _ => by simp [okDL]
  | x :: ds, h => by
    rw [okDL, h x (by simp), okDL_of fun d hd => h d (by simp [hd])]
    rfl
theorem okDL_map {α : Type} {n : Nat} {f : α → D} {l : List α} (h : ∀ a ∈ l, okD n (f a) = true) : okDL n (l.map f) = true := okDL_of fun d hd => by
  obtain ⟨a, ha, rfl⟩ := List.mem_map.mp hd
  exact h a ha
@[simp] theorem rngD_len (lo : Int) (n : Nat) : (rngD lo n).length = n := by unfold rngD; simp
theorem rngD_get {lo : Int} {n k : Nat} {d : D} (h : (rngD lo n)[k]? = some d) : k < n ∧ d = .int (lo + k) := by
  have hk : k < n := by
    have := (List.getElem?_eq_some_iff.mp h).1
    simpa using this
  refine ⟨hk, ?_⟩
  unfold rngD at h
  rw [List.getElem?_map, List.getElem?_range hk] at h
  cases h; rfl
theorem rngD_mem {lo : Int} {n : Nat} {d : D} (h : d ∈ rngD lo n) : ∃ k : Nat, k < n ∧ d = .int (lo + k) := by
  obtain ⟨k, hk⟩ := List.mem_iff_getElem?.mp h
  exact ⟨k, rngD_get hk⟩
/-- a comprehension over data that is computed, by what stands behind the data -/
theorem lc_map {α : Type} {ρ : DEnv} {gt : UG} {ut : UT} {ue : UE} {l : List α} {K : List D → Prop} (g : α → D) (p : α → Bool) (f : α → D)
    (hg : ∀ a ∈ l, ∃ L, gt (g a) = some L ∧ (∀ Q : Bool → Prop, Q (p a) → ut (setAll ρ (dset L)) Q) ∧ (p a = true → ∀ Q : UK, (∀ t, Q t (f a)) → ue (setAll ρ (dset L)) Q))
    (hk : K ((l.filter p).map f)) : lcU ρ gt ut ue (l.map g) [] K := by
  have go : ∀ (r : List α) (ys : List D), (∀ d ∈ r, d ∈ l) → K (ys ++ (r.filter p).map f) → lcU ρ gt ut ue (r.map g) ys K := by
    intro r
    induction r with
    | nil => intro ys _ h; simpa [lcU] using h
    | cons d r ih =>
      intro ys hm h
      obtain ⟨L, hgd, ht, he⟩ := hg d (hm d (by simp))
      rw [List.map_cons]
      unfold lcU
      rw [hgd]
      refine ht _ ?_
      cases hp : p d with
      | true =>
        rw [if_pos rfl]
        refine he hp _ fun t => ih _ (fun d hd => hm d (by simp [hd])) ?_
        rw [List.filter_cons, if_pos hp, List.map_cons] at h
        simpa using h
      | false =>
        rw [if_neg (by simp)]
        refine ih _ (fun d hd => hm d (by simp [hd])) ?_
        rw [List.filter_cons, if_neg (by simp [hp])] at h
        exact h
  exact go l [] (fun _ h => h) (by simpa using hk)
theorem le_trans : ∀ {a b c : DEnv}, Le a b → Le b c → Le a c
  | [], [], [], _, _ => trivial
  | none :: r, none :: s, z :: t, h1, h2 => le_trans (a := r) (b := s) h1 h2
  | none :: r, some y :: s, z :: t, h1, h2 => le_trans (a := r) (b := s) h1 h2.2
  | some x :: r, none :: s, z :: t, h1, h2 => by cases h1.1
  | some x :: r, some y :: s, z :: t, h1, h2 => ⟨h2.1.trans h1.1, le_trans (a := r) (b := s) h1.2 h2.2⟩
  | [], _ :: _, _, h1, _ => h1.elim
  | none :: _, [], _, h1, _ => h1.elim
  | some _ :: _, [], _, h1, _ => h1.elim
  | _, [], _ :: _, _, h2 => h2.elim
  | _, none :: _, [], _, h2 => h2.elim
  | _, some _ :: _, [], _, h2 => h2.elim
theorem atI_last {xs : List D} {d : D} (h : xs.getLast? = some d) : atI xs (-1) = some d := by
  cases xs with
  | nil => cases h
  | cons x xs =>
    unfold atI ixN
    rw [if_neg (by decide), if_pos (by simp; omega)]
    show (x :: xs)[(-1 + ((xs.length + 1 : Nat) : Int)).toNat]? = some d
    have e : (-1 + ((xs.length + 1 : Nat) : Int)).toNat = xs.length := by omega
    rw [e, ← h, List.getLast?_eq_getElem?]
    rfl
/-- a test whose answer does not matter -/
theorem sIf_both {c : UT} {a b : US} {E : UEnds} {ρ : DEnv} (hc : ∀ Q : Bool → Prop, (∀ k, Q k) → c ρ Q) (ha : a E ρ) (hb : b E ρ) : sIf c a b E ρ := hc _ fun k => by cases k <;> simp [ha, hb]
theorem sIf_true {c : UT} {a b : US} {E : UEnds} {ρ : DEnv} (hc : ∀ Q : Bool → Prop, Q true → c ρ Q) (ha : a E ρ) : sIf c a b E ρ := hc _ (by simpa using ha)
theorem sIf_false {c : UT} {a b : US} {E : UEnds} {ρ : DEnv} (hc : ∀ Q : Bool → Prop, Q false → c ρ Q) (hb : b E ρ) : sIf c a b E ρ := hc _ (by simpa using hb)
theorem noLstL_map {α : Type} {f : α → D} (h : ∀ a, noLst (f a) = true) : ∀ l : List α, noLstL (l.map f) = true
  | [] => by simp
  | a :: l => by rw [List.map_cons, noLstL, h a, noLstL_map h l]; rfl
@[simp] theorem noLstL_int (l : List Int) : noLstL (l.map D.int) = true := noLstL_map (fun _ => rfl) l
@[simp] theorem noLstL_rng (lo : Int) (n : Nat) : noLstL (rngD lo n) = true := noLstL_map (fun _ => rfl) _
@[simp] theorem noLstL_append : ∀ a b : List D, noLstL (a ++ b) = (noLstL a && noLstL b)
  | [], b => by simp
  | x :: a, b => by simp [noLstL_append a b, Bool.and_assoc]
@[simp] theorem okDL_append (n : Nat) : ∀ a b : List D, okDL n (a ++ b) = (okDL n a && okDL n b)
  | [], b => by simp
  | x :: a, b => by simp [okDL_append n a b, Bool.and_assoc]
@[simp] theorem okDL_int (n : Nat) (l : List Int) : okDL n (l.map D.int) = true := okDL_map fun _ _ => by cases n <;> rfl
theorem cmul_01 (z : Int) (p : Prop) [Decidable p] : CMul z (if p then 1 else 0) := by
  unfold CMul; right; split <;> omega
theorem cmul_r (z j : Int) (h : 0 ≤ j) (h2 : j < 2 ^ 64) : CMul z j := .inr ⟨by omega, h2⟩
theorem atI_nat {xs : List D} {k : Nat} {d : D} (h : xs[k]? = some d) : atI xs (k : Nat) = some d := by
  have hk := (List.getElem?_eq_some_iff.mp h).1
  unfold atI ixN
  rw [if_pos (by omega), if_pos (by omega)]
  exact h
theorem atI_mem {xs : List D} {i : Int} (h0 : 0 ≤ i) (h1 : i < xs.length) : ∃ d ∈ xs, atI xs i = some d := by
  have hk : i.toNat < xs.length := by omega
  refine ⟨xs[i.toNat], List.getElem_mem hk, ?_⟩
  unfold atI ixN
  rw [if_pos h0, if_pos h1]
  exact List.getElem?_eq_getElem hk
end DL

namespace My
open PySem PySem.Spec PyProof.Rows L2 DL
def top (i : Nat) : Stmt := PySem.Challenge.pw_whoseitis_k60_stages_of_a_thing.main.body.getD i (.Pass ⟨0, 0, 0, 0⟩)
abbrev s_stages : Stmt := top 1
abbrev s_stage_on : Stmt := top 2
abbrev s_law_reel : Stmt := top 4
abbrev s_law_next : Stmt := top 5
abbrev s_law_one : Stmt := top 6
abbrev s_law_mixed : Stmt := top 7
abbrev s_law_alike : Stmt := top 8
abbrev s_law_days : Stmt := top 9
abbrev s_law_stage : Stmt := top 10
abbrev s_law_stages : Stmt := top 11
abbrev s_law_term : Stmt := top 12
abbrev s_law : Stmt := top 13
structure Bi (mg : Str → Option Value) : Prop where
  abs : mg "abs" = none
  bool : mg "bool" = none
  int : mg "int" = none
  isinstance : mg "isinstance" = none
  len : mg "len" = none
  list : mg "list" = none
  range : mg "range" = none
  str : mg "str" = none
  tuple : mg "tuple" = none
abbrev P_law_mixed : List Str := ["reel", "row"]
section
variable {P : Program} {w : World} {K : PySem.W.Frag} {mg : Str → Option Value} {base : Heap} {S : Src}
abbrev N_stages : List Str := ["term", "day", "has_finder", "keep", "finder", "sale", "found", "begin"]
abbrev P_stages : List Str := ["term", "day", "has_finder"]
theorem sc_stages : FnScope N_stages P_stages (defScope s_stages) := ⟨rfl, rfl, rfl, by decide +kernel, rfl, by decide +kernel, by decide +kernel⟩
def u_stages : US :=
    (sSeq (sAsgG (gT [(gN 3), (gN 4), (gN 5)]) (uVar 0))
    (sSeq (sAsg 6 (uLst (uCons (uTup (uCons (uVar 1) (uCons (uC (.str "loser")) uNil))) uNil)))
    (sSeq (sAsg 7 (u2 fAdd (u2 fAdd (uVar 1) (uVar 3)) (uC (.int 1))))
    (sSeq (sIf (uAnd (uTest (uVar 2)) (uTest (u2 fGt (uVar 4) (uC (.int 0))))) (sSeq (sMeth (fun j => [7].contains j) 6 mAppend (uCons (uTup (uCons (uVar 7) (uCons (uC (.str "finder")) uNil))) uNil))
    (sAugI 7 (fun i j => i + j) (uVar 4))) sNext)
    (sSeq (sIf (uTest (u2 fGt (uVar 5) (uC (.int 0)))) (sSeq (sMeth (fun j => [7].contains j) 6 mAppend (uCons (uTup (uCons (uVar 7) (uCons (uC (.str "sale")) uNil))) uNil))
    (sAugI 7 (fun i j => i + j) (uVar 5))) sNext)
    (sSeq (sMeth (fun j => [7].contains j) 6 mAppend (uCons (uTup (uCons (uVar 7) (uCons (uC (.str "house")) uNil))) uNil))
    (sRet (uF (fA1 fTuple) (uCons (uVar 6) uNil)))))))))
theorem js_stages {k : Nat} (b : Bi mg) (cdv : Value) (A : Around) (outer : List PySem.Env) (s : Shared) (H : Hp) (E : XK) (f : Addr) (hr : Room k (A.deeper (envOfC "stages" (defScope s_stages) s.heap.objs.size f cdv))) :
    JSs S (cxOf CX0 P w K mg base N_stages "stages" (defScope s_stages) f cdv A outer s H E).nox (defBody s_stages) (u_stages) := by
  have sc := sc_stages
  exact (jss_cons (js_asgG (je_var 0) (jg_tup rfl (jgs_cons (jg_name [3, 4, 5] sc.nd) (jgs_cons (jg_name [3, 4, 5] sc.nd) (jgs_cons (jg_name [3, 4, 5] sc.nd) (jgs_nil [3, 4, 5]))))))
    (jss_cons (js_asg sc.nd (je_lst (ja_cons (je_tup (ja_cons (je_var 1) (ja_cons je_str ja_nil))) ja_nil)) (i := 6))
    (jss_cons (js_asg sc.nd (je_add (je_add (je_var 1) (je_var 3)) je_int) (i := 7))
    (jss_cons (js_if (JW.jt (jw_and (jt_val (je_var 2)) (jw_and1 (jt_gt (je_var 4) je_int)))) (jss_cons (js_app (fun j => [7].contains j) (i := 6) (ja_cons (je_tup (ja_cons (je_var 7) (ja_cons je_str ja_nil))) ja_nil))
    (jss_one (js_augI (i := 7) (k := fun i j => i + j) sc.nd ip_add (je_var 4)))) jss_nil)
    (jss_cons (js_if (jt_gt (je_var 5) je_int) (jss_cons (js_app (fun j => [7].contains j) (i := 6) (ja_cons (je_tup (ja_cons (je_var 7) (ja_cons je_str ja_nil))) ja_nil))
    (jss_one (js_augI (i := 7) (k := fun i j => i + j) sc.nd ip_add (je_var 5)))) jss_nil)
    (jss_cons (js_app (fun j => [7].contains j) (i := 6) (ja_cons (je_tup (ja_cons (je_var 7) (ja_cons je_str ja_nil))) ja_nil))
    (jss_one (js_ret (je_tuple b.tuple (ja_cons (je_var 6) ja_nil))))))))))
abbrev N_stage_on : List Str := ["term", "day", "has_finder", "asked_day", "stage", "first", "name"]
abbrev P_stage_on : List Str := ["term", "day", "has_finder", "asked_day"]
theorem sc_stage_on : FnScope N_stage_on P_stage_on (defScope s_stage_on) := ⟨rfl, rfl, rfl, by decide +kernel, rfl, by decide +kernel, by decide +kernel⟩
def u_stage_on (C_stages : Ctr) : US :=
    (sSeq (sAsg 4 (uC (.str "")))
    (sSeq (sFor [0, 1, 2] (uIter (uCall C_stages (uCons (uVar 0) (uCons (uVar 1) (uCons (uVar 2) uNil))))) (gT [(gN 5), (gN 6)]) (sBody (sIf (uTest (u2 fLe (uVar 5) (uVar 3))) (sAsg 4 (uVar 6)) sNext)))
    (sBody (sRet (uVar 4)))))
theorem js_stage_on {k : Nat} (b : Bi mg) {C_stages : Ctr} (c_stages : Cal P w K mg base S s_stages "stages" k P_stages C_stages) (cdv : Value) (A : Around) (outer : List PySem.Env) (s : Shared) (H : Hp) (E : XK) (f : Addr) (hr : Room k (A.deeper (envOfC "stage_on" (defScope s_stage_on) s.heap.objs.size f cdv))) :
    JSs S (cxOf CX0 P w K mg base N_stage_on "stage_on" (defScope s_stage_on) f cdv A outer s H E).nox (defBody s_stage_on) (u_stage_on C_stages) := by
  have sc := sc_stage_on
  exact (jss_cons (js_asg sc.nd je_str (i := 4))
    (jss_cons (js_for [0, 1, 2] PassesOwn.never rfl (ji_seq (je_callC c_stages hr (fun _ _ _ _ _ _ us hl => match us, hl with | [_, _, _], _ => rfl) (ja_cons (je_var 0) (ja_cons (je_var 1) (ja_cons (je_var 2) ja_nil))) (Nat.le_refl _))) (jg_tup rfl (jgs_cons (jg_name [5, 6] sc.nd) (jgs_cons (jg_name [5, 6] sc.nd) (jgs_nil [5, 6])))) (jss_body (jss_one (js_if (jt_le (je_var 5) (je_var 3)) (jss_one (js_asg sc.nd (je_var 6) (i := 4))) jss_nil))))
    (jss_body (jss_one (js_ret (je_var 4))))))
abbrev N_law_reel : List Str := ["script", "great", "mixed", "cell"]
abbrev P_law_reel : List Str := ["script"]
theorem sc_law_reel : FnScope N_law_reel P_law_reel (defScope s_law_reel) := ⟨rfl, rfl, rfl, by decide +kernel, rfl, by decide +kernel, by decide +kernel⟩
def u_law_reel (K : PySem.W.Frag) : US :=
    (sSeq (sAsg 1 (uLst uNil))
    (sSeq (sAsg 2 (uC (.int 4711)))
    (sSeq (sFor [0] (uIterS K (uVar 0)) (gN 3) (sBody (sSeq (sAsg 2 (u2 fMod (uF (fA1 fInt) (uCons (u2 fAdd (u2 fAdd (u2 fMul (uVar 2) (uC (.int 37))) (u2 fMod (uF (fA1 fInt) (uCons (uVar 3) uNil)) (uC (.int 1000003)))) (uC (.int 5))) uNil)) (uC (.int 2147483647))))
    (sIf (uTest (u2 fGe (uF (fA1 fAbs) (uCons (uF (fA1 fInt) (uCons (uVar 3) uNil)) uNil)) (u2 fPow (uC (.int 10)) (uC (.int 18))))) (sMeth (fun j => [3].contains j) 1 mAppend (uCons (uF (fA1 fAbs) (uCons (uF (fA1 fInt) (uCons (uVar 3) uNil)) uNil)) uNil)) sNext))))
    (sBody (sRet (uLst (uCons (uVar 1) (uCons (uC (.int 0)) (uCons (uC (.int 0)) (uCons (uVar 2) uNil))))))))))
theorem js_law_reel {k : Nat} (b : Bi mg) (cdv : Value) (A : Around) (outer : List PySem.Env) (s : Shared) (H : Hp) (E : XK) (f : Addr) (hr : Room k (A.deeper (envOfC "_law_reel" (defScope s_law_reel) s.heap.objs.size f cdv))) :
    JSs S (cxOf CX0 P w K mg base N_law_reel "_law_reel" (defScope s_law_reel) f cdv A outer s H E).nox (defBody s_law_reel) (u_law_reel K) := by
  have sc := sc_law_reel
  exact (jss_cons (js_asg sc.nd (je_lst ja_nil) (i := 1))
    (jss_cons (js_asg sc.nd je_int (i := 2))
    (jss_cons (js_for [0] PassesOwn.never rfl (ji_scr (je_var 0)) (jg_name [3] sc.nd) (jss_body (jss_cons (js_asg sc.nd (je_mod (je_intC b.int (ja_cons (je_add (je_add (je_mul (je_var 2) je_int) (je_mod (je_intC b.int (ja_cons (je_var 3) ja_nil)) je_int)) je_int) ja_nil)) je_int) (i := 2))
    (jss_one (js_if (jt_ge (je_abs b.abs (ja_cons (je_intC b.int (ja_cons (je_var 3) ja_nil)) ja_nil)) (je_pow je_int je_int)) (jss_one (js_app (fun j => [3].contains j) (i := 1) (ja_cons (je_abs b.abs (ja_cons (je_intC b.int (ja_cons (je_var 3) ja_nil)) ja_nil)) ja_nil))) jss_nil)))))
    (jss_body (jss_one (js_ret (je_lst (ja_cons (je_var 1) (ja_cons je_int (ja_cons je_int (ja_cons (je_var 2) ja_nil)))))))))))
abbrev N_law_next : List Str := ["reel", "many", "got"]
abbrev P_law_next : List Str := ["reel", "many"]
theorem sc_law_next : FnScope N_law_next P_law_next (defScope s_law_next) := ⟨rfl, rfl, rfl, by decide +kernel, rfl, by decide +kernel, by decide +kernel⟩
def u_law_next : UXS :=
    (ysSeq (ysIf (xAnd (xTest (xB (fun i j => i == j) (xIx (xVar 0) (xC (.int 1))) (xC (.int 0)))) (xTest (xB (fun i j => decide (j < i)) (xLen (xIx (xVar 0) (xC (.int 0)))) (xC (.int 0))))) (ysSeq (ysPut (xVar 0) (xC (.int 1)) (xPop0 (xIx (xVar 0) (xC (.int 0)))))
    (ysPut (xVar 0) (xC (.int 2)) (xC (.int 60)))) ysNext)
    (ysSeq (ysIf (xTest (xB (fun i j => decide (j < i)) (xIx (xVar 0) (xC (.int 1))) (xC (.int 0)))) (ysSeq (ysAsg 2 (xI (fun _ j => 0 < j) (fun i j => i % j) (xInt (xIx (xVar 0) (xC (.int 1)))) (xVar 1)))
    (ysSeq (ysPut (xVar 0) (xC (.int 2)) (xI (fun _ _ => True) (fun i j => i - j) (xIx (xVar 0) (xC (.int 2))) (xC (.int 1))))
    (ysSeq (ysPut (xVar 0) (xC (.int 1)) (xI CMul (fun i j => i * j) (xI CDivW (fun i j => i / j) (xIx (xVar 0) (xC (.int 1))) (xVar 1)) (xInt (xB (fun i j => decide (j < i)) (xIx (xVar 0) (xC (.int 2))) (xC (.int 0))))))
    (ysRet (xVar 2))))) ysNext)
    (ysSeq (ysPut (xVar 0) (xC (.int 3)) (xI (fun _ j => 0 < j) (fun i j => i % j) (xInt (xI (fun _ _ => True) (fun i j => i + j) (xI CMul (fun i j => i * j) (xIx (xVar 0) (xC (.int 3))) (xC (.int 48271))) (xC (.int 12347)))) (xC (.int 2147483647))))
    (ysRet (xI (fun _ j => 0 < j) (fun i j => i % j) (xInt (xI CDivW (fun i j => i / j) (xIx (xVar 0) (xC (.int 3))) (xC (.int 32)))) (xVar 1))))))
theorem js_law_next {J : Prop} (hJ : J) {k : Nat} (b : Bi mg) (cdv : Value) (A : Around) (outer : List PySem.Env) (s : Shared) (H : Hp) (E : XK) (f : Addr) (hr : Room k (A.deeper (envOfC "_law_next" (defScope s_law_next) s.heap.objs.size f cdv))) :
    XSs J (cxOf CX0 P w K mg base N_law_next "_law_next" (defScope s_law_next) f cdv A outer s H E).nox (defBody s_law_next) (u_law_next) := by
  have sc := sc_law_next
  exact (ys_cons (ys_if (XW.xt (xw_and (xt_eq (xe_ix (xe_var 0) xe_int) xe_int) (xw_and1 (xt_gt (xe_len b.len (xe_ix (xe_var 0) xe_int)) xe_int)))) (ys_cons (ys_put (xe_pop0 hJ (xe_ix (xe_var 0) xe_int)) (xe_var 0) xe_int)
    (ys_one (ys_put xe_int (xe_var 0) xe_int))) ys_nil)
    (ys_cons (ys_if (xt_gt (xe_ix (xe_var 0) xe_int) xe_int) (ys_cons (ys_asg (i := 2) sc.nd (xe_mod (xe_intC b.int (xe_ix (xe_var 0) xe_int)) (xe_var 1)))
    (ys_cons (ys_put (xe_sub (xe_ix (xe_var 0) xe_int) xe_int) (xe_var 0) xe_int)
    (ys_cons (ys_put (xe_mul (xe_div (xe_ix (xe_var 0) xe_int) (xe_var 1)) (xe_intC b.int (xe_gt (xe_ix (xe_var 0) xe_int) xe_int))) (xe_var 0) xe_int)
    (ys_one (ys_ret (xe_var 2)))))) ys_nil)
    (ys_cons (ys_put (xe_mod (xe_intC b.int (xe_add (xe_mul (xe_ix (xe_var 0) xe_int) xe_int) xe_int)) xe_int) (xe_var 0) xe_int)
    (ys_one (ys_ret (xe_mod (xe_intC b.int (xe_div (xe_ix (xe_var 0) xe_int) xe_int)) (xe_var 1)))))))
abbrev N_law_one : List Str := ["reel", "row"]
abbrev P_law_one : List Str := ["reel", "row"]
theorem sc_law_one : FnScope N_law_one P_law_one (defScope s_law_one) := ⟨rfl, rfl, rfl, by decide +kernel, rfl, by decide +kernel, by decide +kernel⟩
def u_law_one (C_law_next : Ctr) : US :=
    (sRet (u2 fIx (uVar 1) (uCall C_law_next (uCons (uVar 0) (uCons (uF (fA1 fLen) (uCons (uVar 1) uNil)) uNil)))))
theorem js_law_one {k : Nat} (b : Bi mg) {C_law_next : Ctr} (c_law_next : Cal P w K mg base S s_law_next "_law_next" k P_law_next C_law_next) (cdv : Value) (A : Around) (outer : List PySem.Env) (s : Shared) (H : Hp) (E : XK) (f : Addr) (hr : Room k (A.deeper (envOfC "_law_one" (defScope s_law_one) s.heap.objs.size f cdv))) :
    JSs S (cxOf CX0 P w K mg base N_law_one "_law_one" (defScope s_law_one) f cdv A outer s H E).nox (defBody s_law_one) (u_law_one C_law_next) := by
  have sc := sc_law_one
  exact (jss_one (js_ret (je_at (je_var 1) (je_callC c_law_next hr (fun _ _ _ _ _ _ us hl => match us, hl with | [_, _], _ => rfl) (ja_cons (je_var 0) (ja_cons (je_len b.len (ja_cons (je_var 1) ja_nil)) ja_nil)) (Nat.le_refl _)))))
abbrev N_law_alike : List Str := ["told", "due", "k"]
abbrev P_law_alike : List Str := ["told", "due"]
theorem sc_law_alike : FnScope N_law_alike P_law_alike (defScope s_law_alike) := ⟨rfl, rfl, rfl, by decide +kernel, rfl, by decide +kernel, by decide +kernel⟩
def u_law_alike (C_law_alike : Ctr) : US :=
    (sSeq (sIf (uTest (u2 (fIsN false) (uVar 1) (uC .non))) (sRet (u2 (fIsN false) (uVar 0) (uC .non))) sNext)
    (sSeq (sIf (uTest (u1 (fIsi "tuple") (uVar 1))) (sSeq (sIf (uOr (uNot (uTest (u1 (fIsi "tuple") (uVar 0)))) (uTest (u2 fNe (uF (fA1 fLen) (uCons (uVar 0) uNil)) (uF (fA1 fLen) (uCons (uVar 1) uNil))))) (sRet (uC (.bl false))) sNext)
    (sRet (u2 fEq (uLc (uRng1 (uCons (uF (fA1 fLen) (uCons (uVar 1) uNil)) uNil)) (gN 2) (uNot (uTest (uCall C_law_alike (uCons (u2 fIx (uVar 0) (uVar 2)) (uCons (u2 fIx (uVar 1) (uVar 2)) uNil))))) (uVar 2) [2]) (uLst uNil)))) sNext)
    (sSeq (sIf (uTest (u1 (fIsi "bool") (uVar 1))) (sRet (uAndV (u1 (fIsi "bool") (uVar 0)) (u2 fEq (uVar 0) (uVar 1)))) sNext)
    (sSeq (sIf (uTest (u1 (fIsi "int") (uVar 1))) (sRet (uAndV (u1 (fIsi "int") (uVar 0)) (uAndV (uNotV (u1 (fIsi "bool") (uVar 0))) (u2 fEq (uVar 0) (uVar 1))))) sNext)
    (sRet (uAndV (u1 (fIsi "str") (uVar 0)) (u2 fEq (uVar 0) (uVar 1))))))))
theorem js_law_alike {k : Nat} (b : Bi mg) {C_law_alike : Ctr} (c_law_alike : Cal P w K mg base S s_law_alike "_law_alike" k P_law_alike C_law_alike) (cdv : Value) (A : Around) (outer : List PySem.Env) (s : Shared) (H : Hp) (E : XK) (f : Addr) (hr : Room k (A.deeper (envOfC "_law_alike" (defScope s_law_alike) s.heap.objs.size f cdv))) :
    JSs S (cxOf CX0 P w K mg base N_law_alike "_law_alike" (defScope s_law_alike) f cdv A outer s H E).nox (defBody s_law_alike) (u_law_alike C_law_alike) := by
  have sc := sc_law_alike
  exact (jss_cons (js_if (jt_isN (je_var 1) je_non) (jss_one (js_ret (je_isN (je_var 0) je_non))) jss_nil)
    (jss_cons (js_if (jt_val (je_isT b.isinstance b.tuple (je_var 1))) (jss_cons (js_if (JW.jt (jw_or (jt_not (jt_val (je_isT b.isinstance b.tuple (je_var 0)))) (jw_or1 (jt_ne hr (je_len b.len (ja_cons (je_var 0) ja_nil)) (je_len b.len (ja_cons (je_var 1) ja_nil)))))) (jss_one (js_ret je_bl)) jss_nil)
    (jss_one (js_ret (je_eq hr (je_lc (own := [("k", 2)]) rfl sc.nd (JR.ji (jr_range1 (by rfl) b.range (ja_cons (je_len b.len (ja_cons (je_var 1) ja_nil)) ja_nil))) (blkOk_by (by kernel_rfl)) (fun _ _ _ _ _ => (jg_name [2] sc.nd)) (fun _ _ _ _ _ => (jts_one (jt_not (jt_val (je_callC c_law_alike hr (fun _ _ _ _ _ _ us hl => match us, hl with | [_, _], _ => rfl) (ja_cons (je_at (je_var 0) (je_var 2)) (ja_cons (je_at (je_var 1) (je_var 2)) ja_nil)) (Nat.le_refl _)))))) (fun _ _ _ _ _ => (je_var 2))) (je_lst ja_nil))))) jss_nil)
    (jss_cons (js_if (jt_val (je_isB b.isinstance b.bool (je_var 1))) (jss_one (js_ret (je_and (je_isB b.isinstance b.bool (je_var 0)) (je_one (je_eq hr (je_var 0) (je_var 1)))))) jss_nil)
    (jss_cons (js_if (jt_val (je_isI b.isinstance b.int (je_var 1))) (jss_one (js_ret (je_and (je_isI b.isinstance b.int (je_var 0)) (je_and (je_not (je_isB b.isinstance b.bool (je_var 0))) (je_one (je_eq hr (je_var 0) (je_var 1))))))) jss_nil)
    (jss_one (js_ret (je_and (je_isS b.isinstance b.str (je_var 0)) (je_one (je_eq hr (je_var 0) (je_var 1))))))))))
abbrev N_law_days : List Str := ["term", "has_finder"]
abbrev P_law_days : List Str := ["term", "has_finder"]
theorem sc_law_days : FnScope N_law_days P_law_days (defScope s_law_days) := ⟨rfl, rfl, rfl, by decide +kernel, rfl, by decide +kernel, by decide +kernel⟩
def u_law_days : US :=
    (sRet (uLst (uCons (uTup (uCons (uC (.str "loser")) (uCons (u2 fAdd (u2 fIx (uVar 0) (uC (.int 0))) (uC (.int 1))) uNil))) (uCons (uTup (uCons (uC (.str "finder")) (uCons (uIte (uTest (uVar 1)) (u2 fIx (uVar 0) (uC (.int 1))) (uC (.int 0))) uNil))) (uCons (uTup (uCons (uC (.str "sale")) (uCons (u2 fIx (uVar 0) (uC (.int 2))) uNil))) (uCons (uTup (uCons (uC (.str "house")) (uCons (u1 fNeg (uC (.int 1))) uNil))) uNil))))))
theorem js_law_days {k : Nat} (b : Bi mg) (cdv : Value) (A : Around) (outer : List PySem.Env) (s : Shared) (H : Hp) (E : XK) (f : Addr) (hr : Room k (A.deeper (envOfC "_law_days" (defScope s_law_days) s.heap.objs.size f cdv))) :
    JSs S (cxOf CX0 P w K mg base N_law_days "_law_days" (defScope s_law_days) f cdv A outer s H E).nox (defBody s_law_days) (u_law_days) := by
  have sc := sc_law_days
  exact (jss_one (js_ret (je_lst (ja_cons (je_tup (ja_cons je_str (ja_cons (je_add (je_at (je_var 0) je_int) je_int) ja_nil))) (ja_cons (je_tup (ja_cons je_str (ja_cons (je_ifExp (jt_val (je_var 1)) (je_at (je_var 0) je_int) je_int) ja_nil))) (ja_cons (je_tup (ja_cons je_str (ja_cons (je_at (je_var 0) je_int) ja_nil))) (ja_cons (je_tup (ja_cons je_str (ja_cons (je_neg je_int) ja_nil))) ja_nil)))))))
abbrev N_law_stage : List Str := ["term", "day", "has_finder", "asked_day", "rest", "name", "many"]
abbrev P_law_stage : List Str := ["term", "day", "has_finder", "asked_day"]
theorem sc_law_stage : FnScope N_law_stage P_law_stage (defScope s_law_stage) := ⟨rfl, rfl, rfl, by decide +kernel, rfl, by decide +kernel, by decide +kernel⟩
def u_law_stage (C_law_days : Ctr) : US :=
    (sSeq (sIf (uTest (u2 fLt (uVar 3) (uVar 1))) (sRet (uC (.str ""))) sNext)
    (sSeq (sAsg 4 (u2 fSub (uVar 3) (uVar 1)))
    (sSeq (sFor [0, 2] (uIter (uCall C_law_days (uCons (uVar 0) (uCons (uVar 2) uNil)))) (gT [(gN 5), (gN 6)]) (sBody (sSeq (sIf (uOr (uTest (u2 fLt (uVar 6) (uC (.int 0)))) (uTest (u2 fLt (uVar 4) (uVar 6)))) (sRet (uVar 5)) sNext)
    (sAsg 4 (u2 fSub (uVar 4) (uVar 6))))))
    (sBody (sRet (uC (.str "")))))))
theorem js_law_stage {k : Nat} (b : Bi mg) {C_law_days : Ctr} (c_law_days : Cal P w K mg base S s_law_days "_law_days" k P_law_days C_law_days) (cdv : Value) (A : Around) (outer : List PySem.Env) (s : Shared) (H : Hp) (E : XK) (f : Addr) (hr : Room k (A.deeper (envOfC "_law_stage" (defScope s_law_stage) s.heap.objs.size f cdv))) :
    JSs S (cxOf CX0 P w K mg base N_law_stage "_law_stage" (defScope s_law_stage) f cdv A outer s H E).nox (defBody s_law_stage) (u_law_stage C_law_days) := by
  have sc := sc_law_stage
  exact (jss_cons (js_if (jt_lt (je_var 3) (je_var 1)) (jss_one (js_ret je_str)) jss_nil)
    (jss_cons (js_asg sc.nd (je_sub (je_var 3) (je_var 1)) (i := 4))
    (jss_cons (js_for [0, 2] PassesOwn.never rfl (ji_seq (je_callC c_law_days hr (fun _ _ _ _ _ _ us hl => match us, hl with | [_, _], _ => rfl) (ja_cons (je_var 0) (ja_cons (je_var 2) ja_nil)) (Nat.le_refl _))) (jg_tup rfl (jgs_cons (jg_name [5, 6] sc.nd) (jgs_cons (jg_name [5, 6] sc.nd) (jgs_nil [5, 6])))) (jss_body (jss_cons (js_if (JW.jt (jw_or (jt_lt (je_var 6) je_int) (jw_or1 (jt_lt (je_var 4) (je_var 6))))) (jss_one (js_ret (je_var 5))) jss_nil)
    (jss_one (js_asg sc.nd (je_sub (je_var 4) (je_var 6)) (i := 4))))))
    (jss_body (jss_one (js_ret je_str))))))
abbrev N_law_stages : List Str := ["term", "day", "has_finder", "found", "first", "name", "many"]
abbrev P_law_stages : List Str := ["term", "day", "has_finder"]
theorem sc_law_stages : FnScope N_law_stages P_law_stages (defScope s_law_stages) := ⟨rfl, rfl, rfl, by decide +kernel, rfl, by decide +kernel, by decide +kernel⟩
def u_law_stages (C_law_days : Ctr) : US :=
    (sSeq (sPar 3 4 (uLst uNil) (uVar 1))
    (sSeq (sFor [0, 2] (uIter (uCall C_law_days (uCons (uVar 0) (uCons (uVar 2) uNil)))) (gT [(gN 5), (gN 6)]) (sBody (sSeq (sIf (uTest (u2 fNe (uVar 6) (uC (.int 0)))) (sMeth (fun j => [4, 5].contains j) 3 mAppend (uCons (uTup (uCons (uVar 4) (uCons (uVar 5) uNil))) uNil)) sNext)
    (sAsg 4 (u2 fAdd (uVar 4) (uVar 6))))))
    (sBody (sRet (uF (fA1 fTuple) (uCons (uVar 3) uNil))))))
theorem js_law_stages {k : Nat} (b : Bi mg) {C_law_days : Ctr} (c_law_days : Cal P w K mg base S s_law_days "_law_days" k P_law_days C_law_days) (cdv : Value) (A : Around) (outer : List PySem.Env) (s : Shared) (H : Hp) (E : XK) (f : Addr) (hr : Room k (A.deeper (envOfC "_law_stages" (defScope s_law_stages) s.heap.objs.size f cdv))) :
    JSs S (cxOf CX0 P w K mg base N_law_stages "_law_stages" (defScope s_law_stages) f cdv A outer s H E).nox (defBody s_law_stages) (u_law_stages C_law_days) := by
  have sc := sc_law_stages
  exact (jss_cons (js_par (i := 3) (j := 4) rfl sc.nd (je_lst ja_nil) (je_var 1))
    (jss_cons (js_for [0, 2] PassesOwn.never rfl (ji_seq (je_callC c_law_days hr (fun _ _ _ _ _ _ us hl => match us, hl with | [_, _], _ => rfl) (ja_cons (je_var 0) (ja_cons (je_var 2) ja_nil)) (Nat.le_refl _))) (jg_tup rfl (jgs_cons (jg_name [5, 6] sc.nd) (jgs_cons (jg_name [5, 6] sc.nd) (jgs_nil [5, 6])))) (jss_body (jss_cons (js_if (jt_ne hr (je_var 6) je_int) (jss_one (js_app (fun j => [4, 5].contains j) (i := 3) (ja_cons (je_tup (ja_cons (je_var 4) (ja_cons (je_var 5) ja_nil))) ja_nil))) jss_nil)
    (jss_one (js_asg sc.nd (je_add (je_var 4) (je_var 6)) (i := 4))))))
    (jss_body (jss_one (js_ret (je_tuple b.tuple (ja_cons (je_var 3) ja_nil)))))))
abbrev N_law_term : List Str := ["reel", "k"]
abbrev P_law_term : List Str := ["reel"]
theorem sc_law_term : FnScope N_law_term P_law_term (defScope s_law_term) := ⟨rfl, rfl, rfl, by decide +kernel, rfl, by decide +kernel, by decide +kernel⟩
def u_law_term (C_law_one : Ctr) (C_law_next : Ctr) : US :=
    (sRet (uF (fA1 fTuple) (uCons (uLc (uRng1 (uCons (uC (.int 3)) uNil)) (gN 1) uYes (uCall C_law_one (uCons (uVar 0) (uCons (uLst (uCons (uC (.int 0)) (uCons (uC (.int 0)) (uCons (uC (.int 1)) (uCons (uC (.int 2)) (uCons (uC (.int 5)) (uCons (uCall C_law_next (uCons (uVar 0) (uCons (uC (.int 30)) uNil))) (uCons (uCall C_law_next (uCons (uVar 0) (uCons (uC (.int 401)) uNil))) (uCons (uC (.int 400)) uNil))))))))) uNil))) [1]) uNil)))
theorem js_law_term {k : Nat} (b : Bi mg) {C_law_one : Ctr} (c_law_one : Cal P w K mg base S s_law_one "_law_one" k P_law_one C_law_one) {C_law_next : Ctr} (c_law_next : Cal P w K mg base S s_law_next "_law_next" k P_law_next C_law_next) (cdv : Value) (A : Around) (outer : List PySem.Env) (s : Shared) (H : Hp) (E : XK) (f : Addr) (hr : Room k (A.deeper (envOfC "_law_term" (defScope s_law_term) s.heap.objs.size f cdv))) :
    JSs S (cxOf CX0 P w K mg base N_law_term "_law_term" (defScope s_law_term) f cdv A outer s H E).nox (defBody s_law_term) (u_law_term C_law_one C_law_next) := by
  have sc := sc_law_term
  exact (jss_one (js_ret (je_tuple b.tuple (ja_cons (je_lc (own := [("k", 1)]) rfl sc.nd (JR.ji (jr_range1 (by rfl) b.range (ja_cons je_int ja_nil))) (blkOk_by (by kernel_rfl)) (fun _ _ _ _ _ => (jg_name [1] sc.nd)) (fun _ _ _ _ _ => jts_nil) (fun _ _ _ _ _ => (je_callC c_law_one hr (fun _ _ _ _ _ _ us hl => match us, hl with | [_, _], _ => rfl) (ja_cons (je_var 0) (ja_cons (je_lst (ja_cons je_int (ja_cons je_int (ja_cons je_int (ja_cons je_int (ja_cons je_int (ja_cons (je_callC c_law_next hr (fun _ _ _ _ _ _ us hl => match us, hl with | [_, _], _ => rfl) (ja_cons (je_var 0) (ja_cons je_int ja_nil)) (Nat.le_refl _)) (ja_cons (je_callC c_law_next hr (fun _ _ _ _ _ _ us hl => match us, hl with | [_, _], _ => rfl) (ja_cons (je_var 0) (ja_cons je_int ja_nil)) (Nat.le_refl _)) (ja_cons je_int ja_nil))))))))) ja_nil)) (Nat.le_refl _)))) ja_nil))))
abbrev N_law : List Str := ["script", "reel", "turn", "term", "day", "has_finder", "due", "found", "some", "one", "asked_day", "name", "late", "by"]
abbrev P_law : List Str := ["script"]
theorem sc_law : FnScope N_law P_law (defScope s_law) := ⟨rfl, rfl, rfl, by decide +kernel, rfl, by decide +kernel, by decide +kernel⟩
def ue_law (C_law_reel : Ctr) (C_law_next : Ctr) (C_law_one : Ctr) (C_law_term : Ctr) (C_law_stages : Ctr) (C_stages : Ctr) (C_law_alike : Ctr) (C_law_stage : Ctr) (C_stage_on : Ctr) : UE :=
    (uCall C_law_reel (uCons (uVar 0) uNil))
def u_law (C_law_reel : Ctr) (C_law_next : Ctr) (C_law_one : Ctr) (C_law_term : Ctr) (C_law_stages : Ctr) (C_stages : Ctr) (C_law_alike : Ctr) (C_law_stage : Ctr) (C_stage_on : Ctr) : US :=
    (sSeq (sForR (uRng1 (uCons (uC (.int 4)) uNil)) (gN 2) (sBody (sSeq (sParA3 3 4 5 (uCons (uCall C_law_term (uCons (uVar 1) uNil)) (uCons (uCall C_law_one (uCons (uVar 1) (uCons (uLst (uCons (uC (.int 0)) (uCons (uC (.int 1)) (uCons (uCall C_law_next (uCons (uVar 1) (uCons (uC (.int 401)) uNil))) uNil)))) uNil))) (uCons (u2 fEq (uCall C_law_next (uCons (uVar 1) (uCons (uC (.int 2)) uNil))) (uC (.int 0))) uNil))))
    (sSeq (sAsg 6 (uCall C_law_stages (uCons (uVar 3) (uCons (uVar 4) (uCons (uVar 5) uNil)))))
    (sSeq (sAsg 7 (uIte (uTest (u2 fGt (uVar 2) (uC (.int 0)))) (uCall C_stages (uCons (uVar 3) (uCons (uVar 4) (uCons (uVar 5) uNil)))) (uCallK C_stages 0 3 [0, 1, 2] uNil (uCons (uVar 3) (uCons (uVar 4) (uCons (uVar 5) uNil))))))
    (sSeq (sIf (uNot (uTest (uCall C_law_alike (uCons (uVar 7) (uCons (uVar 6) uNil))))) (sRet (uC (.bl false))) sNext)
    (sSeq (sAsg 8 (uLst (uCons (uVar 4) (uCons (uC (.int 400)) (uCons (uCall C_law_next (uCons (uVar 1) (uCons (uC (.int 401)) uNil))) (uCons (uCall C_law_next (uCons (uVar 1) (uCons (uC (.int 401)) uNil))) uNil))))))
    (sSeq (sFor [6] (uIter (uVar 6)) (gN 9) (sBody (sAsg 8 (u2 fAdd (uVar 8) (uLc (uIter (uLst (uCons (u1 fNeg (uC (.int 1))) (uCons (uC (.int 0)) (uCons (uC (.int 1)) uNil))))) (gN 13) uYes (u2 fAdd (u2 fIx (uVar 9) (uC (.int 0))) (uVar 13)) [13])))))
    (sBody (sFor [8] (uIter (uVar 8)) (gN 10) (sBody (sIf (uOr (uTest (fCh fLe fLe (uC (.int 0)) (uVar 10) (uC (.int 400)))) (uTest (u2 (fIn false) (uVar 10) (uLc (uIter (uVar 7)) (gN 9) uYes (u2 fIx (uVar 9) (uC (.int 0))) [9])))) (sSeq (sAsg 11 (uCall C_law_stage (uCons (uVar 3) (uCons (uVar 4) (uCons (uVar 5) (uCons (uVar 10) uNil))))))
    (sSeq (sIf (uNot (uTest (uCall C_law_alike (uCons (uCall C_stage_on (uCons (uVar 3) (uCons (uVar 4) (uCons (uVar 5) (uCons (uVar 10) uNil))))) (uCons (uVar 11) uNil))))) (sRet (uC (.bl false))) sNext)
    (sSeq (sIf (uNot (uTest (uCall C_law_alike (uCons (uCallK C_stage_on 0 4 [0, 1, 2, 3] uNil (uCons (uVar 3) (uCons (uVar 4) (uCons (uVar 5) (uCons (uVar 10) uNil))))) (uCons (uVar 11) uNil))))) (sRet (uC (.bl false))) sNext)
    (sSeq (sAsg 12 (uLc (uIter (uVar 7)) (gN 9) (uTest (u2 fLe (u2 fIx (uVar 9) (uC (.int 0))) (uVar 10))) (u2 fIx (uVar 9) (uC (.int 1))) [9]))
    (sIf (uTest (u2 fNe (uVar 11) (uIte (uTest (u2 fNe (uVar 12) (uLst uNil))) (u2 fIx (uVar 12) (u1 fNeg (uC (.int 1)))) (uC (.str ""))))) (sRet (uC (.bl false))) sNext))))) sNext))))))))))))
    (sBody (sRet (uC (.bl true)))))
theorem js_law {k : Nat} (b : Bi mg) {C_law_reel : Ctr} (c_law_reel : Cal P w K mg base S s_law_reel "_law_reel" k P_law_reel C_law_reel) {C_law_next : Ctr} (c_law_next : Cal P w K mg base S s_law_next "_law_next" k P_law_next C_law_next) {C_law_one : Ctr} (c_law_one : Cal P w K mg base S s_law_one "_law_one" k P_law_one C_law_one) {C_law_term : Ctr} (c_law_term : Cal P w K mg base S s_law_term "_law_term" k P_law_term C_law_term) {C_law_stages : Ctr} (c_law_stages : Cal P w K mg base S s_law_stages "_law_stages" k P_law_stages C_law_stages) {C_stages : Ctr} (c_stages : Cal P w K mg base S s_stages "stages" k P_stages C_stages) {C_law_alike : Ctr} (c_law_alike : Cal P w K mg base S s_law_alike "_law_alike" k P_law_alike C_law_alike) {C_law_stage : Ctr} (c_law_stage : Cal P w K mg base S s_law_stage "_law_stage" k P_law_stage C_law_stage) {C_stage_on : Ctr} (c_stage_on : Cal P w K mg base S s_stage_on "stage_on" k P_stage_on C_stage_on) (cdv : Value) (A : Around) (outer : List PySem.Env) (s : Shared) (H : Hp) (E : XK) (f : Addr) (hr : Room k (A.deeper (envOfC "law" (defScope s_law) s.heap.objs.size f cdv))) :
    JE S (cxOf CX0 P w K mg base N_law "law" (defScope s_law) f cdv A outer s H E).nox (law_rhs (defBody s_law)) (ue_law C_law_reel C_law_next C_law_one C_law_term C_law_stages C_stages C_law_alike C_law_stage C_stage_on) ∧ JSs S (cxOf CX0 P w K mg base N_law "law" (defScope s_law) f cdv A outer s H E).nox (defBody s_law).tail (u_law C_law_reel C_law_next C_law_one C_law_term C_law_stages C_stages C_law_alike C_law_stage C_stage_on) := by
  have sc := sc_law
  refine ⟨?_, ?_⟩
  · exact (je_callC c_law_reel hr (fun _ _ _ _ _ _ us hl => match us, hl with | [_], _ => rfl) (ja_cons (je_var 0) ja_nil) (Nat.le_refl _))
  · exact (jss_cons (js_forR PassesOwn.never rfl (jr_range1 (by rfl) b.range (ja_cons je_int ja_nil)) (jg_name [2] sc.nd) (jss_body (jss_cons (js_parA3 (i := 3) (j := 4) (l := 5) rfl sc.nd (ja_cons (je_callC c_law_term hr (fun _ _ _ _ _ _ us hl => match us, hl with | [_], _ => rfl) (ja_cons (je_var 1) ja_nil) (Nat.le_refl _)) (ja_cons (je_callC c_law_one hr (fun _ _ _ _ _ _ us hl => match us, hl with | [_, _], _ => rfl) (ja_cons (je_var 1) (ja_cons (je_lst (ja_cons je_int (ja_cons je_int (ja_cons (je_callC c_law_next hr (fun _ _ _ _ _ _ us hl => match us, hl with | [_, _], _ => rfl) (ja_cons (je_var 1) (ja_cons je_int ja_nil)) (Nat.le_refl _)) ja_nil)))) ja_nil)) (Nat.le_refl _)) (ja_cons (je_eq hr (je_callC c_law_next hr (fun _ _ _ _ _ _ us hl => match us, hl with | [_, _], _ => rfl) (ja_cons (je_var 1) (ja_cons je_int ja_nil)) (Nat.le_refl _)) je_int) ja_nil))))
    (jss_cons (js_asg sc.nd (je_callC c_law_stages hr (fun _ _ _ _ _ _ us hl => match us, hl with | [_, _, _], _ => rfl) (ja_cons (je_var 3) (ja_cons (je_var 4) (ja_cons (je_var 5) ja_nil))) (Nat.le_refl _)) (i := 6))
    (jss_cons (js_asg sc.nd (je_ifExp (jt_gt (je_var 2) je_int) (je_callC c_stages hr (fun _ _ _ _ _ _ us hl => match us, hl with | [_, _, _], _ => rfl) (ja_cons (je_var 3) (ja_cons (je_var 4) (ja_cons (je_var 5) ja_nil))) (Nat.le_refl _)) (je_callCK0 (ks := ["term", "day", "has_finder"]) (ix := [0, 1, 2]) c_stages hr (fun _ _ _ _ _ _ us ws h1 h2 => match us, ws, h1, h2 with | [], [_, _, _], _, _ => rfl) (jk_cons (je_var 3) (jk_cons (je_var 4) (jk_cons (je_var 5) jk_nil))) (Nat.le_refl _))) (i := 7))
    (jss_cons (js_if (jt_not (jt_val (je_callC c_law_alike hr (fun _ _ _ _ _ _ us hl => match us, hl with | [_, _], _ => rfl) (ja_cons (je_var 7) (ja_cons (je_var 6) ja_nil)) (Nat.le_refl _)))) (jss_one (js_ret je_bl)) jss_nil)
    (jss_cons (js_asg sc.nd (je_lst (ja_cons (je_var 4) (ja_cons je_int (ja_cons (je_callC c_law_next hr (fun _ _ _ _ _ _ us hl => match us, hl with | [_, _], _ => rfl) (ja_cons (je_var 1) (ja_cons je_int ja_nil)) (Nat.le_refl _)) (ja_cons (je_callC c_law_next hr (fun _ _ _ _ _ _ us hl => match us, hl with | [_, _], _ => rfl) (ja_cons (je_var 1) (ja_cons je_int ja_nil)) (Nat.le_refl _)) ja_nil))))) (i := 8))
    (jss_cons (js_for [6] PassesOwn.never rfl (ji_seq (je_var 6)) (jg_name [9] sc.nd) (jss_body (jss_one (js_asg sc.nd (je_add (je_var 8) (je_lc (own := [("by", 13)]) rfl sc.nd (ji_seq (je_lst (ja_cons (je_neg je_int) (ja_cons je_int (ja_cons je_int ja_nil))))) (blkOk_by (by kernel_rfl)) (fun _ _ _ _ _ => (jg_name [13] sc.nd)) (fun _ _ _ _ _ => jts_nil) (fun _ _ _ _ _ => (je_add (je_at (je_var 9) je_int) (je_var 13))))) (i := 8)))))
    (jss_body (jss_one (js_for [8] PassesOwn.never rfl (ji_seq (je_var 8)) (jg_name [10] sc.nd) (jss_body (jss_one (js_if (JW.jt (jw_or (jt_ch op_le op_le je_int (je_var 10) je_int) (jw_or1 (jt_in hr (je_var 10) (je_lc (own := [("one", 9)]) rfl sc.nd (ji_seq (je_var 7)) (blkOk_by (by kernel_rfl)) (fun _ _ _ _ _ => (jg_name [9] sc.nd)) (fun _ _ _ _ _ => jts_nil) (fun _ _ _ _ _ => (je_at (je_var 9) je_int))))))) (jss_cons (js_asg sc.nd (je_callC c_law_stage hr (fun _ _ _ _ _ _ us hl => match us, hl with | [_, _, _, _], _ => rfl) (ja_cons (je_var 3) (ja_cons (je_var 4) (ja_cons (je_var 5) (ja_cons (je_var 10) ja_nil)))) (Nat.le_refl _)) (i := 11))
    (jss_cons (js_if (jt_not (jt_val (je_callC c_law_alike hr (fun _ _ _ _ _ _ us hl => match us, hl with | [_, _], _ => rfl) (ja_cons (je_callC c_stage_on hr (fun _ _ _ _ _ _ us hl => match us, hl with | [_, _, _, _], _ => rfl) (ja_cons (je_var 3) (ja_cons (je_var 4) (ja_cons (je_var 5) (ja_cons (je_var 10) ja_nil)))) (Nat.le_refl _)) (ja_cons (je_var 11) ja_nil)) (Nat.le_refl _)))) (jss_one (js_ret je_bl)) jss_nil)
    (jss_cons (js_if (jt_not (jt_val (je_callC c_law_alike hr (fun _ _ _ _ _ _ us hl => match us, hl with | [_, _], _ => rfl) (ja_cons (je_callCK0 (ks := ["term", "day", "has_finder", "asked_day"]) (ix := [0, 1, 2, 3]) c_stage_on hr (fun _ _ _ _ _ _ us ws h1 h2 => match us, ws, h1, h2 with | [], [_, _, _, _], _, _ => rfl) (jk_cons (je_var 3) (jk_cons (je_var 4) (jk_cons (je_var 5) (jk_cons (je_var 10) jk_nil)))) (Nat.le_refl _)) (ja_cons (je_var 11) ja_nil)) (Nat.le_refl _)))) (jss_one (js_ret je_bl)) jss_nil)
    (jss_cons (js_setLc (i := 12) (own := [("one", 9)]) rfl sc.nd rfl rfl (sw_true rfl rfl rfl rfl) (ji_seq (je_var 7)) (blkOk_by (by kernel_rfl)) (fun _ _ _ _ _ => (jg_name [9] sc.nd)) (fun _ _ _ _ _ => (jts_one (jt_le (je_at (je_var 9) je_int) (je_var 10)))) (fun _ _ _ _ _ => (je_at (je_var 9) je_int)))
    (jss_one (js_if (jt_ne hr (je_var 11) (je_ifExp (jt_ne hr (je_var 12) (je_lst ja_nil)) (je_at (je_var 12) (je_neg je_int)) je_str)) (jss_one (js_ret je_bl)) jss_nil)))))) jss_nil))))))))))))))
    (jss_body (jss_one (js_ret je_bl))))
theorem hs_law {f : Addr} (cdv : Value) (A : Around) (outer : List PySem.Env) (s : Shared) (H : Hp) (E : XK) (t : TE) (h : PE (cxOf CX0 P w K mg base N_law "law" (defScope s_law) f cdv A outer s H E).nox (law_rhs (defBody s_law)) t) : PS (cxOf CX0 P w K mg base N_law "law" (defScope s_law) f cdv A outer s H E).nox ((defBody s_law).headD (.Pass ⟨0, 0, 0, 0⟩)) (tAsg t (gName 1)) := ps_set (i := 1) sc_law.nd rfl (Or.inl rfl) h rfl (.inl rfl)
end
end My

namespace My
open PySem PySem.Spec PyProof.Rows L2 DL
def days3 (k f s : Int) (hf : Bool) : List (Str × Int) := [("loser", k + 1), ("finder", if hf then f else 0), ("sale", s), ("house", -1)]
def stagesS : Int → List (Str × Int) → List (Int × Str)
  | _, [] => []
  | t, (x, m) :: r => if m = 0 then stagesS (t + m) r else (t, x) :: stagesS (t + m) r
def stageS : Int → List (Str × Int) → Str
  | _, [] => ""
  | t, (x, m) :: r => if m < 0 ∨ t < m then x else stageS (t - m) r
def lastS (z : Str) (a : Int) : List (Int × Str) → Str
  | [] => z
  | (t, x) :: r => if t ≤ a then lastS x a r else lastS z a r
def dStage (p : Int × Str) : D := .tup [.int p.1, .str p.2]
def dDay (p : Str × Int) : D := .tup [.str p.1, .int p.2]
def stg (k f s day : Int) (hf : Bool) : List (Int × Str) := stagesS day (days3 k f s hf)
def C_stages : Ctr := fun ds R => ∃ (k f s day : Int) (hf : Bool), ds = [.tup [.int k, .int f, .int s], .int day, .bl hf] ∧ 0 ≤ k ∧ 0 ≤ f ∧ 0 ≤ s ∧ R false (.tup ((stg k f s day hf).map dStage))
theorem pure_stages (ds : List D) (R : UK) (h : C_stages ds R) : u_stages { nx := fun _ => R false .non, rt := R } (startD N_stages ds) := by
  obtain ⟨k, f, s, day, hf, rfl, hk, hf0, hs, hR⟩ := h
  simp [u_stages, sz]
  simp [stg, days3, stagesS] at hR
  have e1 : day + (k + 1) = day + k + 1 := by omega
  have e2 : k + 1 ≠ 0 := by omega
  rw [e1, if_neg e2] at hR
  cases hf with
  | true =>
    rw [if_pos rfl] at hR ⊢
    by_cases h1 : 0 < f
    · have h1' : f ≠ 0 := by omega
      by_cases h2 : 0 < s
      · have h2' : s ≠ 0 := by omega
        simpa [h1, h2, h1', h2', dStage] using hR
      · obtain rfl : s = 0 := by omega
        simpa [h1, h1', dStage] using hR
    · obtain rfl : f = 0 := by omega
      by_cases h2 : 0 < s
      · have h2' : s ≠ 0 := by omega
        simpa [h2, h2', dStage] using hR
      · obtain rfl : s = 0 := by omega
        simpa [dStage] using hR
  | false =>
    by_cases h2 : 0 < s
    · have h2' : s ≠ 0 := by omega
      simpa [h2, h2', dStage] using hR
    · obtain rfl : s = 0 := by omega
      simpa [dStage] using hR
def C_law_days : Ctr := fun ds R => ∃ (k f s : Int) (hf : Bool), ds = [.tup [.int k, .int f, .int s], .bl hf] ∧ R true (.lst ((days3 k f s hf).map dDay))
theorem pure_days (ds : List D) (R : UK) (h : C_law_days ds R) : u_law_days { nx := fun _ => R false .non, rt := R } (startD N_law_days ds) := by
  obtain ⟨k, f, s, hf, rfl, hR⟩ := h
  simp [u_law_days, sz, L2.atI, ixN]
  cases hf <;> simpa [days3, dDay] using hR
def C_law_stage : Ctr := fun ds R => ∃ (k f s day a : Int) (hf : Bool), ds = [.tup [.int k, .int f, .int s], .int day, .bl hf, .int a] ∧ R false (.str (if a < day then "" else stageS (a - day) (days3 k f s hf)))
theorem pure_stage (ds : List D) (R : UK) (h : C_law_stage ds R) : u_law_stage C_law_days { nx := fun _ => R false .non, rt := R } (startD N_law_stage ds) := by
  obtain ⟨k, f, s, day, a, hf, rfl, hR⟩ := h
  simp [u_law_stage, sz]
  by_cases h0 : a < day
  · simp only [if_pos h0] at hR ⊢; exact hR
  · simp only [if_neg h0] at hR ⊢
    refine ⟨k, f, s, hf, rfl, ?_⟩
    refine loop_map dDay (fun r ρ => ∃ t : Int, ρ = [none, none, none, none, some (false, .int t), none, none] ∧ R false (.str (stageS t r))) ⟨[none, none, none, none, some (false, .int (a - day)), none, none], by simp, _, rfl, hR⟩ ?_ ?_
    · rintro ⟨x, m⟩ r ρ1 _ ⟨t, rfl, h⟩
      refine ⟨_, rfl, fun K h1 h2 h3 h4 => ?_⟩
      simp [h3]
      rw [stageS] at h
      by_cases c1 : m < 0
      · simp [c1] at h ⊢; exact h
      · by_cases c2 : t < m
        · simp [c1, c2] at h ⊢; exact h
        · simp [c1, c2] at h ⊢
          exact h1 _ [none, none, none, none, some (false, .int (t - m)), none, none] (by simp) ⟨_, rfl, h⟩
    · rintro ρ ρ1 hl ⟨t, rfl, h⟩
      exact sBody_of hl (by simpa [stageS] using h)
def C_law_stages : Ctr := fun ds R => ∃ (k f s day : Int) (hf : Bool), ds = [.tup [.int k, .int f, .int s], .int day, .bl hf] ∧ R false (.tup ((stg k f s day hf).map dStage))
theorem pure_lstages (ds : List D) (R : UK) (h : C_law_stages ds R) : u_law_stages C_law_days { nx := fun _ => R false .non, rt := R } (startD N_law_stages ds) := by
  obtain ⟨k, f, s, day, hf, rfl, hR⟩ := h
  simp [u_law_stages, sz]
  refine ⟨k, f, s, hf, rfl, ?_⟩
  refine loop_map dDay (fun r ρ => ∃ (t : Int) (acc : List (Int × Str)), ρ = [none, none, none, some (true, .lst (acc.map dStage)), some (false, .int t), none, none] ∧ acc.length + r.length ≤ 4 ∧ R false (.tup ((acc ++ stagesS t r).map dStage))) ⟨[none, none, none, some (true, .lst []), some (false, .int day), none, none], by simp, day, [], rfl, by simp [days3], by simpa [stg] using hR⟩ ?_ ?_
  · rintro ⟨x, m⟩ r ρ1 _ ⟨t, acc, rfl, hl, h⟩
    refine ⟨_, rfl, fun K h1 h2 h3 h4 => ?_⟩
    rw [stagesS] at h
    by_cases c1 : m = 0
    · simp [c1, fNe, okD, eqD, D.py] at h ⊢
      refine h1 _ [none, none, none, some (true, .lst (acc.map dStage)), some (false, .int (t + 0)), none, none] (by simp) ⟨t + 0, acc, rfl, by simp at hl; omega, by simpa using h⟩
    · simp [c1, fNe, okD, eqD, D.py] at h ⊢
      refine ⟨by simp [sz], by simp [sz] at hl ⊢; omega, ?_⟩
      refine h1 _ [none, none, none, some (true, .lst ((acc ++ [(t, x)]).map dStage)), some (false, .int (t + m)), none, none] (by simp [dStage]) ⟨t + m, acc ++ [(t, x)], rfl, by simp at hl ⊢; omega, by simpa using h⟩
  · rintro ρ ρ1 hl ⟨t, acc, rfl, hl2, h⟩
    exact sBody_of hl (by simpa [stagesS, sz] using h)
theorem last_gen (a : Int) (h : Str) : ∀ (l : List (Str × Int)) (t : Int) (z : Str), (∀ p ∈ l, 0 ≤ p.2) → lastS z a (stagesS t (l ++ [(h, -1)])) = if a < t then z else stageS (a - t) (l ++ [(h, -1)])
  | [], t, z, _ => by
    simp only [List.nil_append, stagesS, lastS, stageS]
    by_cases c : a < t
    · have c2 : ¬ t ≤ a := by omega
      simp [c, c2, lastS]
    · have c2 : t ≤ a := by omega
      simp [c, c2, lastS]
  | (x, m) :: r, t, z, hm => by
    have ih := last_gen a h r (t + m)
    have hm0 : 0 ≤ m := hm (x, m) (by simp)
    have hr : ∀ p ∈ r, 0 ≤ p.2 := fun p hp => hm p (by simp [hp])
    rw [List.cons_append, stagesS, stageS]
    by_cases c0 : m = 0
    · subst c0
      rw [if_pos rfl, ih z hr]
      by_cases c : a < t
      · rw [if_pos c, if_pos (by omega)]
      · rw [if_neg c, if_neg (by omega), if_neg (by omega)]
        congr 1; omega
    · rw [if_neg c0, lastS]
      by_cases c : a < t
      · rw [if_pos c, if_neg (by omega), ih z hr, if_pos (by omega)]
      · rw [if_neg c, if_pos (by omega), ih x hr]
        by_cases c2 : a < t + m
        · rw [if_pos c2, if_pos (by omega)]
        · rw [if_neg c2, if_neg (by omega)]
          congr 1; omega
theorem last_stage (k f s day a : Int) (hf : Bool) (hk : 0 ≤ k) (hf0 : 0 ≤ f) (hs : 0 ≤ s) : lastS "" a (stg k f s day hf) = if a < day then ("" : Str) else stageS (a - day) (days3 k f s hf) := by
  refine last_gen a "house" [("loser", k + 1), ("finder", if hf then f else 0), ("sale", s)] day "" fun p hp => ?_
  simp at hp
  rcases hp with rfl | rfl | rfl
  · show 0 ≤ k + 1; omega
  · cases hf <;> simp <;> omega
  · exact hs
def C_stage_on : Ctr := fun ds R => ∃ (k f s day a : Int) (hf : Bool), ds = [.tup [.int k, .int f, .int s], .int day, .bl hf, .int a] ∧ 0 ≤ k ∧ 0 ≤ f ∧ 0 ≤ s ∧ R false (.str (if a < day then "" else stageS (a - day) (days3 k f s hf)))
theorem pure_stage_on (ds : List D) (R : UK) (h : C_stage_on ds R) : u_stage_on C_stages { nx := fun _ => R false .non, rt := R } (startD N_stage_on ds) := by
  obtain ⟨k, f, s, day, a, hf, rfl, hk, hf0, hs, hR⟩ := h
  simp [u_stage_on, sz]
  refine ⟨k, f, s, day, hf, rfl, hk, hf0, hs, ?_⟩
  refine loop_map dStage (fun r ρ => ∃ (z : Str), ρ = [none, none, none, some (false, .int a), some (false, .str z), none, none] ∧ R false (.str (lastS z a r))) ⟨[none, none, none, some (false, .int a), some (false, .str ""), none, none], by simp, _, rfl, ?_⟩ ?_ ?_
  · have e : lastS "" a (stg k f s day hf) = if a < day then ("" : Str) else stageS (a - day) (days3 k f s hf) := last_stage k f s day a hf hk hf0 hs
    rw [e]; exact hR
  · rintro ⟨t, x⟩ r ρ1 _ ⟨z, rfl, h⟩
    refine ⟨_, rfl, fun K h1 h2 h3 h4 => ?_⟩
    rw [lastS] at h
    by_cases c1 : t ≤ a
    · simp [c1] at h ⊢
      exact h1 _ [none, none, none, some (false, .int a), some (false, .str x), none, none] (by simp) ⟨x, rfl, h⟩
    · simp [c1] at h ⊢
      exact h1 _ [none, none, none, some (false, .int a), some (false, .str z), none, none] (by simp) ⟨z, rfl, h⟩
  · rintro ρ ρ1 hl ⟨z, rfl, h⟩
    exact sBody_of hl (by simpa [lastS] using h)
end My

namespace My
open PySem PySem.Spec PyProof.Rows L2 DL
def Inv : List SC → Prop := fun c => ∃ (gs : List Int) (a b m : Int), c = [.il gs, .int a, .int b, .int m]
theorem pure_next (c : List SC) (m : Int) (hI : Inv c) (h0 : 0 < m) (h1 : m.natAbs.log2 < 9000) : u_law_next { nx := fun _ _ => False, rt := fun x c' => Inv c' ∧ ∃ k : Int, x = .int k ∧ 0 ≤ k ∧ k < m } ([some .self, some (.int m)] ++ List.replicate (N_law_next.length - 2) none) c := by
  obtain ⟨gs, a, b, k, rfl⟩ := hI
  have w : ∀ z : Int, 0 ≤ z % m ∧ z % m < m := fun z => ⟨Int.emod_nonneg z (by omega), Int.emod_lt_of_pos z h0⟩
  have d32 : ∀ z, CDivW z 32 := fun z => ⟨by decide, by decide⟩
  have dm : ∀ z, CDivW z m := fun z => ⟨h0, h1⟩
  have cm : ∀ z, CMul z 48271 := fun z => cmul_r z _ (by decide) (by decide)
  have c1 : ∀ z, CMul z 1 := fun z => cmul_r z _ (by decide) (by decide)
  have hInv : ∀ gs a b m, Inv [.il gs, .int a, .int b, .int m] := fun gs a b m => ⟨gs, a, b, m, rfl⟩
  cases gs with
  | nil => simp [u_law_next, ixN, w, d32, dm, cm, c1, hInv, h0, cmul_01]
  | cons g gs => simp [u_law_next, ixN, w, d32, dm, cm, c1, hInv, h0, cmul_01]
def C_law_one : Ctr := fun ds R => ∃ row : List D, ds = [.src, .lst row] ∧ row ≠ [] ∧ row.length < 1000 ∧ ∀ d ∈ row, R false d
theorem draw_ok {m : Int} {R : UK} (h0 : 0 < m) (h1 : m < 2 ^ 64) (h : ∀ k : Int, 0 ≤ k → k < m → R false (.int k)) : Draw [.src, .int m] R := by
  refine ⟨m, rfl, h0, ?_, h⟩
  have : m.natAbs.log2 < 64 := (Nat.log2_lt (by omega)).mpr (by omega)
  omega
theorem pure_one (ds : List D) (R : UK) (h : C_law_one ds R) : u_law_one Draw { nx := fun _ => R false .non, rt := R } (startD N_law_one ds) := by
  obtain ⟨row, rfl, h1, h2, hR⟩ := h
  have : 0 < row.length := List.length_pos_iff.mpr h1
  simp [u_law_one]
  refine draw_ok (by omega) (by omega) fun k hk hk2 => ?_
  obtain ⟨d, hd, e⟩ := atI_mem hk hk2
  exact ⟨d, e, hR d hd⟩
def C_law_reel (K : PySem.W.Frag) : Ctr := fun ds R => ∃ (a : Addr) (ns : List Int), ds = [.scr K a ns] ∧ ns.length ≤ 63 ∧ ∀ (gs : List Int) (m : Int), R true (.lst [.lst (gs.map .int), .int 0, .int 0, .int m])
theorem pure_reel {K : PySem.W.Frag} (ds : List D) (R : UK) (h : C_law_reel K ds R) : u_law_reel K { nx := fun _ => R false .non, rt := R } (startD N_law_reel ds) := by
  obtain ⟨a, ns, rfl, hn, hR⟩ := h
  have cm : ∀ z, CMul z 37 := fun z => cmul_r z _ (by decide) (by decide)
  have cp : CPow 10 18 := ⟨by decide, by decide, by decide⟩
  simp [u_law_reel]
  refine loop_map D.int (fun r ρ => ∃ (gs : List Int) (m : Int), ρ = [none, some (true, .lst (gs.map .int)), some (false, .int m), none] ∧ gs.length + r.length ≤ 63) ⟨[none, some (true, .lst []), some (false, .int 4711), none], by simp, [], 4711, rfl, by simpa using hn⟩ ?_ ?_
  · rintro x r ρ1 _ ⟨gs, m, rfl, hl⟩
    refine ⟨_, rfl, fun K h1 h2 h3 h4 => ?_⟩
    simp at hl
    simp [cm, cp]
    have A : ∀ y : Int, y = x ∨ y = -x → K.nx [none, some (true, .lst (gs.map D.int ++ [D.int y])), some (false, .int ((m * 37 + x % 1000003 + 5) % 2147483647)), some (false, .int x)] := fun y _ =>
      h1 _ [none, some (true, .lst ((gs ++ [y]).map .int)), some (false, .int ((m * 37 + x % 1000003 + 5) % 2147483647)), none] (by simp) ⟨_, _, rfl, by simp; omega⟩
    have B : K.nx [none, some (true, .lst (gs.map D.int)), some (false, .int ((m * 37 + x % 1000003 + 5) % 2147483647)), some (false, .int x)] :=
      h1 _ [none, some (true, .lst (gs.map .int)), some (false, .int ((m * 37 + x % 1000003 + 5) % 2147483647)), none] (by simp) ⟨_, _, rfl, by omega⟩
    have C : gs.length < sizeLine := by rw [sz]; omega
    (repeat' split) <;> first | exact B | exact ⟨C, A _ (.inl rfl)⟩ | exact ⟨C, A _ (.inr rfl)⟩
  · rintro ρ ρ1 hl ⟨gs, m, rfl, hl2⟩
    refine sBody_of hl ?_
    simpa [sz] using hR gs m
def C_law_term : Ctr := fun ds R => ds = [.src] ∧ ∀ k f s : Int, 0 ≤ k → 0 ≤ f → 0 ≤ s → R false (.tup [.int k, .int f, .int s])
theorem pure_term (ds : List D) (R : UK) (h : C_law_term ds R) : u_law_term C_law_one Draw { nx := fun _ => R false .non, rt := R } (startD N_law_term ds) := by
  obtain ⟨rfl, hR⟩ := h
  simp [u_law_term, sz]
  refine lc_rel (fun _ => true) (fun n y => ∃ k : Int, 0 ≤ k ∧ y = .int k) (fun n d hd => ⟨_, rfl, fun Q h => by simpa using h, fun _ Q hQ => ?_⟩) (fun ys _ h2 => ?_)
  · simp [sz]
    refine hold (draw_ok (by decide) (by decide) fun i hi _ => ?_)
    simp
    refine hold (draw_ok (by decide) (by decide) fun j hj _ => ?_)
    simp [sz]
    refine hold ⟨_, rfl, by simp, by simp, fun d hd => ?_⟩
    simp at hd
    rcases hd with rfl | rfl | rfl | rfl | rfl | rfl | rfl <;> exact hQ _ _ ⟨_, by omega, rfl⟩
  · obtain ⟨e, h2⟩ := h2 fun _ _ => rfl
    match ys, e with
    | [a, b, c], _ =>
      obtain ⟨i, hi, rfl⟩ := h2 0 a rfl
      obtain ⟨j, hj, rfl⟩ := h2 1 b rfl
      obtain ⟨k, hk, rfl⟩ := h2 2 c rfl
      exact hR i j k hi hj hk
/-- data that the law's own comparison goes through: no list, not too deep -/
def alk : Nat → D → Bool
  | _, .non => true
  | _, .bl _ => true
  | _, .int _ => true
  | _, .str x => PyData.strOk x
  | n + 1, .tup ds => decide (ds.length ≤ 10000) && ds.all (alk n)
  | _, _ => false
def C_alike (n : Nat) : Ctr := fun ds R => ∃ x : D, ds = [x, x] ∧ alk n x = true ∧ R false (.bl true)
theorem pure_alike (n : Nat) (ds : List D) (R : UK) (h : C_alike (n + 1) ds R) : u_law_alike (C_alike n) { nx := fun _ => R false .non, rt := R } (startD N_law_alike ds) := by
  obtain ⟨x, rfl, hx, hR⟩ := h
  cases x <;> simp [u_law_alike, alk] at hx ⊢
  · exact hR
  · exact hR
  · exact hR
  · exact ⟨hx, hR⟩
  · rename_i xs
    obtain ⟨hl, ha⟩ := hx
    refine ⟨by omega, by simp [sz]; omega, ?_⟩
    refine lc_fun (fun _ => false) id (fun d hd => ?_) (by simpa [List.filter_eq_nil_iff.mpr] using hR)
    obtain ⟨k, hk, rfl⟩ := rngD_mem hd
    refine ⟨_, rfl, fun Q h => ?_, fun h => by cases h⟩
    have e : xs[k]? = some xs[k] := List.getElem?_eq_getElem hk
    have ea := DL.atI_nat e
    simp at ea ⊢
    exact ⟨_, ea, _, ea, _, rfl, ha _ (List.getElem_mem hk), h⟩
end My

namespace My
open PySem PySem.Spec PyProof.Rows L2 DL
abbrev srcEnv : DEnv := (List.replicate N_law.length none).set 1 (some (false, .src))
@[simp] theorem nl_stage (l : List (Int × Str)) : noLstL (l.map dStage) = true := noLstL_map (fun _ => rfl) l
theorem ok1 : PyData.strOk "loser" = true := by decide +kernel
theorem ok2 : PyData.strOk "finder" = true := by decide +kernel
theorem ok3 : PyData.strOk "sale" = true := by decide +kernel
theorem ok4 : PyData.strOk "house" = true := by decide +kernel
theorem ok5 : PyData.strOk "" = true := by decide +kernel
theorem alk_stg (n : Nat) (k f s day : Int) (hf : Bool) : alk (n + 2) (.tup ((stg k f s day hf).map dStage)) = true := by
  have h : ∀ (l : List (Str × Int)) (t : Int), (∀ p ∈ l, PyData.strOk p.1 = true) → (stagesS t l).length ≤ l.length ∧ ∀ p ∈ stagesS t l, PyData.strOk p.2 = true := by
    intro l
    induction l with
    | nil => intro t _; simp [stagesS]
    | cons p l ih =>
      intro t hp
      obtain ⟨x, m⟩ := p
      obtain ⟨i1, i2⟩ := ih (t + m) fun p h => hp p (by simp [h])
      rw [stagesS]
      split
      · exact ⟨by simp; omega, i2⟩
      · refine ⟨by simp; omega, fun q hq => ?_⟩
        rcases List.mem_cons.mp hq with rfl | hq
        · exact hp (x, m) (by simp)
        · exact i2 q hq
  obtain ⟨h1, h2⟩ := h (days3 k f s hf) day (by
    intro p hp
    simp [days3] at hp
    rcases hp with rfl | rfl | rfl | rfl
    · exact ok1
    · exact ok2
    · exact ok3
    · exact ok4)
  rw [alk]
  simp only [List.length_map, List.all_map, Bool.and_eq_true, decide_eq_true_eq, List.all_eq_true]
  refine ⟨?_, fun p hp => ?_⟩
  · have : (days3 k f s hf).length = 4 := rfl
    unfold stg; omega
  · simp [dStage, alk, h2 p hp]
theorem stg_len (k f s day : Int) (hf : Bool) : (stg k f s day hf).length ≤ 4 := by
  unfold stg days3 stagesS stagesS stagesS stagesS stagesS
  repeat' split
  all_goals simp
theorem stg_ok (k f s day : Int) (hf : Bool) : ∀ p ∈ stg k f s day hf, PyData.strOk p.2 = true := by
  have h : ∀ (l : List (Str × Int)) (t : Int), (∀ p ∈ l, PyData.strOk p.1 = true) → ∀ p ∈ stagesS t l, PyData.strOk p.2 = true := by
    intro l
    induction l with
    | nil => intro t _; simp [stagesS]
    | cons p l ih =>
      intro t hp
      obtain ⟨x, m⟩ := p
      have i2 := ih (t + m) fun p h => hp p (by simp [h])
      rw [stagesS]
      split
      · exact i2
      · intro q hq
        rcases List.mem_cons.mp hq with rfl | hq
        · exact hp (x, m) (by simp)
        · exact i2 q hq
  exact h (days3 k f s hf) day (by
    intro p hp
    simp [days3] at hp
    rcases hp with rfl | rfl | rfl | rfl
    · exact ok1
    · exact ok2
    · exact ok3
    · exact ok4)
theorem lastS_ok (a : Int) : ∀ {l : List (Int × Str)}, (∀ p ∈ l, PyData.strOk p.2 = true) → ∀ z, PyData.strOk z = true → PyData.strOk (lastS z a l) = true
  | [], _, z, h => h
  | (t, x) :: r, hl, z, h => by
    rw [lastS]
    split
    · exact lastS_ok a (fun p hp => hl p (by simp [hp])) x (hl (t, x) (by simp))
    · exact lastS_ok a (fun p hp => hl p (by simp [hp])) z h
theorem last_map (a : Int) : ∀ (l : List (Int × Str)) (z : Str), lastS z a l = ((l.filter fun p => decide (p.1 ≤ a)).map fun p => p.2).getLastD z
  | [], z => rfl
  | (t, x) :: r, z => by
    rw [lastS, last_map a r x, last_map a r z]
    by_cases c : t ≤ a
    · rw [if_pos c, List.filter_cons, if_pos (by simpa using c), List.map_cons, List.getLastD_cons]
    · rw [if_neg c, List.filter_cons, if_neg (by simpa using c)]
@[simp] def envL (turn term day hf due found some one : Option (Bool × D)) : DEnv := [none, Option.some (false, .src), turn, term, day, hf, due, found, some, one, none, none, none, none]
theorem pure_law (E : UEnds) (h : E.rt false (.bl true)) (K : PySem.W.Frag) : u_law (C_law_reel K) Draw C_law_one C_law_term C_law_stages C_stages (C_alike 3) C_law_stage C_stage_on E srcEnv := by
  unfold u_law
  simp
  refine holdL ?_
  refine loop_inv (fun _ ρ => ρ = envL none none none none none none none none) ⟨envL none none none none none none none none, ⟨rfl, trivial⟩, rfl⟩ ?_ ?_
  · rintro n d ρ1 hd rfl
    obtain ⟨hn, rfl⟩ := rngD_get hd
    clear hd
    refine ⟨_, rfl, fun X h1 h2 h3 h4 => ?_⟩
    clear h2 h3 h4
    simp -dsimp [envL]
    refine hold ⟨rfl, fun k f s hk hf hs => ?_⟩
    simp -dsimp
    refine hold (draw_ok (by decide) (by decide) fun x1 hx1 _ => ?_)
    simp -dsimp [sz]
    refine hold ⟨_, rfl, by simp, by simp, fun day hday => ?_⟩
    obtain ⟨day, rfl⟩ : ∃ i : Int, day = .int i := by
      simp at hday
      rcases hday with rfl | rfl | rfl <;> exact ⟨_, rfl⟩
    clear hday hx1
    simp -dsimp
    refine hold (draw_ok (by decide) (by decide) fun x2 _ _ => ?_)
    simp -dsimp

    refine hold ⟨k, f, s, day, _, rfl, ?_⟩
    simp -dsimp
    refine hold ⟨k, f, s, day, _, rfl, hk, hf, hs, ?_⟩
    simp -dsimp
    refine hold ⟨_, rfl, alk_stg _ _ _ _ _ _, ?_⟩
    simp -dsimp
    refine hold (draw_ok (by decide) (by decide) fun x3 _ _ => ?_)
    simp -dsimp
    refine hold (draw_ok (by decide) (by decide) fun x4 _ _ => ?_)
    simp -dsimp [sz]
    generalize (x2 == 0) = hv
    refine holdL ?_
    let dT : Option (Bool × D) := some (false, D.tup [.int k, .int f, .int s])
    let dF : Option (Bool × D) := some (false, D.tup ((stg k f s day hv).map dStage))
    refine loop_map dStage (fun r ρ => ∃ xs : List Int, ρ = envL none dT (some (false, .int day)) (some (false, .bl hv)) none dF (some (true, .lst (xs.map .int))) none ∧ xs.length + 3 * r.length ≤ 100) ?_ ?_ ?_
    · refine ⟨_, ?_, [day, 400, x3, x4], rfl, ?_⟩
      · simp [dT, dF]
      · have := stg_len k f s day hv
        simp; omega
    · rintro ⟨t, x⟩ r ρ1 _ ⟨xs, rfl, hl⟩
      refine ⟨_, rfl, fun K h1 h2 h3 h4 => ?_⟩
      simp -dsimp [dT, dF, sz]
      refine holdC ?_
      simp [lcU, L2.atI, ixN, sz, dStage, dT, dF]
      refine ⟨by simp at hl; omega, h1 _ (envL none dT (some (false, .int day)) (some (false, .bl hv)) none dF (some (true, .lst ((xs ++ [t + -1, t, t + 1]).map .int))) none) (by simp [dT, dF]) ⟨_, rfl, by simp at hl ⊢; omega⟩⟩
    · rintro ρ ρ1 hl ⟨xs, rfl, hl2⟩
      refine sBody_of hl ?_
      simp -dsimp [dT, dF]
      refine holdL ?_
      refine loop_map D.int (fun r ρ => ρ = envL none dT (some (false, .int day)) (some (false, .bl hv)) none dF none none) ⟨_, by simp [dT, dF], rfl⟩ ?_ ?_
      · rintro a r ρ1 _ rfl
        refine ⟨_, rfl, fun K h1 h2 h3 h4 => ?_⟩
        have F1 : K.nx (envL none dT (some (false, .int day)) (some (false, .bl hv)) none dF none none) := h1 _ _ (Le.refl _) rfl
        have e := last_stage k f s day a hv hk hf hs
        have hZ : PyData.strOk (lastS "" a (stg k f s day hv)) = true := lastS_ok a (fun p hp => stg_ok k f s day hv p hp) "" ok5
        refine sIf_both (fun Q hQ => ?_) ?_ ?_
        · simp -dsimp [dT, dF]
          have B : (stg k f s day hv).length ≤ sizeLine := by have := stg_len k f s day hv; rw [sz]; omega
          have hk2 : okDL 63 (((stg k f s day hv).filter fun _ => true).map fun p => D.int p.1) = true := okDL_map fun _ _ => rfl
          by_cases c1 : 0 ≤ a <;> by_cases c2 : a ≤ 400 <;> simp -dsimp [c1, c2, hQ]
          all_goals
            refine ⟨B, holdC ?_⟩
            refine lc_map dStage (fun _ => true) (fun p => .int p.1) (fun p _ => ⟨_, rfl, fun Q h => by simpa using h, fun _ Q h => ?_⟩) ?_
            · simp [dStage, L2.atI, ixN]
              exact h _
            · simp at hk2 ⊢
              exact ⟨hk2, hQ _⟩
        · simp -dsimp [dT, dF]
          refine hold ⟨k, f, s, day, a, hv, rfl, ?_⟩
          rw [← e]
          simp -dsimp
          refine hold ⟨k, f, s, day, a, hv, rfl, hk, hf, hs, ?_⟩
          rw [← e]
          simp -dsimp
          refine hold ⟨_, rfl, by simpa [alk] using hZ, ?_⟩
          simp -dsimp
          refine hold ⟨k, f, s, day, a, hv, rfl, hk, hf, hs, ?_⟩
          rw [← e]
          simp -dsimp
          refine hold ⟨_, rfl, by simpa [alk] using hZ, ?_⟩
          simp -dsimp [dF]
          refine ⟨by have := stg_len k f s day hv; rw [sz]; omega, holdC ?_⟩
          refine lc_map dStage (fun p => decide (p.1 ≤ a)) (fun p => .str p.2) (fun p _ => ⟨_, rfl, fun Q h => ?_, fun _ Q h => ?_⟩) ?_
          · simp [dStage, L2.atI, ixN]
            by_cases c : p.1 ≤ a <;> simpa [c] using h
          · simp [dStage, L2.atI, ixN]
            exact h _
          · have h5 := last_map a (stg k f s day hv) ""
            rw [h5]
            rw [h5] at hZ
            have ok : ∀ p ∈ (stg k f s day hv).filter (fun p => decide (p.1 ≤ a)), PyData.strOk p.2 = true := fun p hp => stg_ok k f s day hv p (List.mem_filter.mp hp).1
            generalize (stg k f s day hv).filter (fun p => decide (p.1 ≤ a)) = L at hZ ok ⊢
            have okL : okDL 63 (L.map fun p => D.str p.2) = true := okDL_map fun p hp => by simpa using ok p hp
            have nlL : noLstL (L.map fun p => D.str p.2) = true := noLstL_map (fun _ => rfl) L
            cases L with
            | nil =>
              simp [dT, dF]
              exact ⟨ok5, h1 _ (envL none dT (some (false, .int day)) (some (false, .bl hv)) none dF none none) (by simp [dT, dF]) rfl⟩
            | cons p L =>
              obtain ⟨q, hq1, hq2⟩ : ∃ q : Str, atI ((p :: L).map fun p => D.str p.2) (-1) = some (.str q) ∧ ((p :: L).map fun p => p.2).getLastD ("" : Str) = q := by
                refine ⟨((p :: L).getLast (by simp)).2, atI_last ?_, ?_⟩
                · rw [List.getLast?_map, List.getLast?_eq_some_getLast (by simp)]; rfl
                · rw [List.getLastD_eq_getLast?, List.getLast?_map, List.getLast?_eq_some_getLast (by simp)]; rfl
              rw [hq2] at hZ ⊢
              simp only [List.map_cons] at hq1 okL nlL ⊢
              simp [nlL, okL, hZ, hq1, dT, dF]
              simp at okL
              exact ⟨okL, h1 _ (envL none dT (some (false, .int day)) (some (false, .bl hv)) none dF none none) (by simp [dT, dF]) rfl⟩
        · exact h1 _ (envL none dT (some (false, .int day)) (some (false, .bl hv)) none dF none none) (by simp [dT, dF]) rfl
      · rintro ρ ρ1 hl rfl
        exact h1 _ (envL none none none none none none none none) (le_trans (by simp [dT, dF]) hl) rfl
  · rintro ρ ρ1 hl rfl
    exact sBody_of hl (by simpa using h)
end My

namespace My
open PySem PySem.Spec PyProof.Rows L2 DL
theorem pure_alike0 (ds : List D) (R : UK) (h : C_alike 0 ds R) : u_law_alike (fun _ _ => False) { nx := fun _ => R false .non, rt := R } (startD N_law_alike ds) := by
  obtain ⟨x, rfl, hx, hR⟩ := h
  cases x <;> simp [u_law_alike, alk] at hx ⊢
  · exact hR
  · exact hR
  · exact hR
  · exact ⟨hx, hR⟩
theorem facts_core {P : Program} {w : World} {K : PySem.W.Frag} {mg : Str → Option Value} {base : Heap} (b : Bi mg)
    {f_stages f_stage_on f_law_reel f_law_next f_law_one f_law_alike f_law_days f_law_stage f_law_stages f_law_term f_law : Addr} {fd_stages fd_stage_on fd_law_reel fd_law_next fd_law_one fd_law_alike fd_law_days fd_law_stage fd_law_stages fd_law_term fd_law : FuncData}
    (F_stages : FunD K "stages" "stages" (defArgs s_stages) (defBody s_stages) (defScope s_stages) [] [] f_stages fd_stages) (m_stages : mg "stages" = some (.ref f_stages))
    (F_stage_on : FunD K "stage_on" "stage_on" (defArgs s_stage_on) (defBody s_stage_on) (defScope s_stage_on) [] [] f_stage_on fd_stage_on) (m_stage_on : mg "stage_on" = some (.ref f_stage_on))
    (F_law_reel : FunD K "_law_reel" "_law_reel" (defArgs s_law_reel) (defBody s_law_reel) (defScope s_law_reel) [] [] f_law_reel fd_law_reel) (m_law_reel : mg "_law_reel" = some (.ref f_law_reel))
    (F_law_next : FunD K "_law_next" "_law_next" (defArgs s_law_next) (defBody s_law_next) (defScope s_law_next) [] [] f_law_next fd_law_next) (m_law_next : mg "_law_next" = some (.ref f_law_next))
    (F_law_one : FunD K "_law_one" "_law_one" (defArgs s_law_one) (defBody s_law_one) (defScope s_law_one) [] [] f_law_one fd_law_one) (m_law_one : mg "_law_one" = some (.ref f_law_one))
    (F_law_alike : FunD K "_law_alike" "_law_alike" (defArgs s_law_alike) (defBody s_law_alike) (defScope s_law_alike) [] [] f_law_alike fd_law_alike) (m_law_alike : mg "_law_alike" = some (.ref f_law_alike))
    (F_law_days : FunD K "_law_days" "_law_days" (defArgs s_law_days) (defBody s_law_days) (defScope s_law_days) [] [] f_law_days fd_law_days) (m_law_days : mg "_law_days" = some (.ref f_law_days))
    (F_law_stage : FunD K "_law_stage" "_law_stage" (defArgs s_law_stage) (defBody s_law_stage) (defScope s_law_stage) [] [] f_law_stage fd_law_stage) (m_law_stage : mg "_law_stage" = some (.ref f_law_stage))
    (F_law_stages : FunD K "_law_stages" "_law_stages" (defArgs s_law_stages) (defBody s_law_stages) (defScope s_law_stages) [] [] f_law_stages fd_law_stages) (m_law_stages : mg "_law_stages" = some (.ref f_law_stages))
    (F_law_term : FunD K "_law_term" "_law_term" (defArgs s_law_term) (defBody s_law_term) (defScope s_law_term) [] [] f_law_term fd_law_term) (m_law_term : mg "_law_term" = some (.ref f_law_term))
    (F_law : FunD K "law" "law" (defArgs s_law) (defBody s_law) (defScope s_law) [] [] f_law fd_law) :
    FnOk P w K mg base CX0 6 f_law fd_law ["script"] (LawSp 63 K) := by
  have c_stages : Cal P w K mg base (srcOf True Inv) s_stages "stages" 1 P_stages C_stages := cal_of F_stages m_stages sc_stages (js_stages b · · · · · · _ ·) (fun ds R ⟨_, _, _, _, _, h, _⟩ => by subst h; rfl) pure_stages
  have c_stage_on : Cal P w K mg base (srcOf True Inv) s_stage_on "stage_on" 2 P_stage_on C_stage_on := cal_of F_stage_on m_stage_on sc_stage_on (js_stage_on b c_stages · · · · · · _ ·) (fun ds R ⟨_, _, _, _, _, _, h, _⟩ => by subst h; rfl) pure_stage_on
  have c_law_days : Cal P w K mg base (srcOf True Inv) s_law_days "_law_days" 1 P_law_days C_law_days := cal_of F_law_days m_law_days sc_law_days (js_law_days b · · · · · · _ ·) (fun ds R ⟨_, _, _, _, h, _⟩ => by subst h; rfl) pure_days
  have c_law_stage : Cal P w K mg base (srcOf True Inv) s_law_stage "_law_stage" 2 P_law_stage C_law_stage := cal_of F_law_stage m_law_stage sc_law_stage (js_law_stage b c_law_days · · · · · · _ ·) (fun ds R ⟨_, _, _, _, _, _, h, _⟩ => by subst h; rfl) pure_stage
  have c_law_stages : Cal P w K mg base (srcOf True Inv) s_law_stages "_law_stages" 2 P_law_stages C_law_stages := cal_of F_law_stages m_law_stages sc_law_stages (js_law_stages b c_law_days · · · · · · _ ·) (fun ds R ⟨_, _, _, _, _, h, _⟩ => by subst h; rfl) pure_lstages
  have c_law_next : Cal P w K mg base (srcOf True Inv) s_law_next "_law_next" 1 P_law_next Draw := draw_of F_law_next m_law_next sc_law_next rfl (js_law_next trivial b · · · · · · _ ·) pure_next
  have c_law_one : Cal P w K mg base (srcOf True Inv) s_law_one "_law_one" 2 P_law_one C_law_one := cal_of F_law_one m_law_one sc_law_one (js_law_one b c_law_next · · · · · · _ ·) (fun ds R ⟨_, h, _⟩ => by subst h; rfl) pure_one
  have c_law_term : Cal P w K mg base (srcOf True Inv) s_law_term "_law_term" 3 P_law_term C_law_term := cal_of F_law_term m_law_term sc_law_term (js_law_term b c_law_one (c_law_next.mono (by decide)) · · · · · · _ ·) (fun ds R ⟨h, _⟩ => by subst h; rfl) pure_term
  have c_law_reel : Cal P w K mg base (srcOf True Inv) s_law_reel "_law_reel" 1 P_law_reel (C_law_reel K) := cal_of F_law_reel m_law_reel sc_law_reel (js_law_reel b · · · · · · _ ·) (fun ds R ⟨_, _, h, _⟩ => by subst h; rfl) pure_reel
  have c_a : Cal P w K mg base (srcOf True Inv) s_law_alike "_law_alike" 1 P_law_alike (fun _ _ => False) := cal_false F_law_alike m_law_alike sc_law_alike fun _ _ h => h
  have len : ∀ n ds R, C_alike n ds R → ds.length = P_law_alike.length := fun n ds R ⟨_, h, _⟩ => by subst h; rfl
  have c_a0 : Cal P w K mg base (srcOf True Inv) s_law_alike "_law_alike" 2 P_law_alike (C_alike 0) := cal_of F_law_alike m_law_alike sc_law_alike (js_law_alike b c_a · · · · · · _ ·) (len 0) pure_alike0
  have c_a1 : Cal P w K mg base (srcOf True Inv) s_law_alike "_law_alike" 3 P_law_alike (C_alike 1) := cal_of F_law_alike m_law_alike sc_law_alike (js_law_alike b c_a0 · · · · · · _ ·) (len 1) (pure_alike 0)
  have c_a2 : Cal P w K mg base (srcOf True Inv) s_law_alike "_law_alike" 4 P_law_alike (C_alike 2) := cal_of F_law_alike m_law_alike sc_law_alike (js_law_alike b c_a1 · · · · · · _ ·) (len 2) (pure_alike 1)
  have c_law_alike : Cal P w K mg base (srcOf True Inv) s_law_alike "_law_alike" 5 P_law_alike (C_alike 3) := cal_of F_law_alike m_law_alike sc_law_alike (js_law_alike b c_a2 · · · · · · _ ·) (len 3) (pure_alike 2)
  refine law_ok (J := True) (Inv := Inv) (n := 63) F_law sc_law rfl hs_law (js_law b (c_law_reel.mono (by decide)) (c_law_next.mono (by decide)) (c_law_one.mono (by decide)) (c_law_term.mono (by decide)) (c_law_stages.mono (by decide)) (c_stages.mono (by decide)) c_law_alike (c_law_stage.mono (by decide)) (c_stage_on.mono (by decide)) · · · · · · _ ·) (fun a ns hn => ?_) (by decide)
  simp -dsimp [ue_law]
  refine hold ⟨a, ns, rfl, hn, fun gs m => ⟨rfl, [.il gs, .int 0, .int 0, .int m], rfl, ⟨gs, 0, 0, m, rfl⟩, fun _ i j l h1 h2 => ?_, pure_law _ (by exact ⟨rfl, rfl⟩) K⟩⟩
  have e : ∀ i l, ([.il gs, .int 0, .int 0, .int m] : List SC)[i]? = some (SC.il l) → i = 0 := fun i l h => by
    match i, h with
    | 0, _ => rfl
    | 1, h => cases h
    | 2, h => cases h
    | 3, h => cases h
    | i + 4, h => cases h
  rw [e i l h1, e j l h2]
end My

namespace My
open PySem PySem.Spec PyProof.Rows L2 DL
def d_stages : He.DefD := ⟨("stages", none), "stages", "stages", defArgs s_stages, defBody s_stages, defScope s_stages, [], []⟩
def d_stage_on : He.DefD := ⟨("stage_on", none), "stage_on", "stage_on", defArgs s_stage_on, defBody s_stage_on, defScope s_stage_on, [], []⟩
def d_law_reel : He.DefD := ⟨("_law_reel", none), "_law_reel", "_law_reel", defArgs s_law_reel, defBody s_law_reel, defScope s_law_reel, [], []⟩
def d_law_next : He.DefD := ⟨("_law_next", none), "_law_next", "_law_next", defArgs s_law_next, defBody s_law_next, defScope s_law_next, [], []⟩
def d_law_one : He.DefD := ⟨("_law_one", none), "_law_one", "_law_one", defArgs s_law_one, defBody s_law_one, defScope s_law_one, [], []⟩
def d_law_mixed : He.DefD := ⟨("_law_mixed", none), "_law_mixed", "_law_mixed", defArgs s_law_mixed, defBody s_law_mixed, defScope s_law_mixed, [], []⟩
def d_law_alike : He.DefD := ⟨("_law_alike", none), "_law_alike", "_law_alike", defArgs s_law_alike, defBody s_law_alike, defScope s_law_alike, [], []⟩
def d_law_days : He.DefD := ⟨("_law_days", none), "_law_days", "_law_days", defArgs s_law_days, defBody s_law_days, defScope s_law_days, [], []⟩
def d_law_stage : He.DefD := ⟨("_law_stage", none), "_law_stage", "_law_stage", defArgs s_law_stage, defBody s_law_stage, defScope s_law_stage, [], []⟩
def d_law_stages : He.DefD := ⟨("_law_stages", none), "_law_stages", "_law_stages", defArgs s_law_stages, defBody s_law_stages, defScope s_law_stages, [], []⟩
def d_law_term : He.DefD := ⟨("_law_term", none), "_law_term", "_law_term", defArgs s_law_term, defBody s_law_term, defScope s_law_term, [], []⟩
def d_law : He.DefD := ⟨("law", none), "law", "law", defArgs s_law, defBody s_law, defScope s_law, [], []⟩
def fn : List He.DefD := [d_stages, d_stage_on, d_law_reel, d_law_next, d_law_one, d_law_mixed, d_law_alike, d_law_days, d_law_stage, d_law_stages, d_law_term, d_law]
def fa : List He.Fa := [.glo "stages", .glo "stage_on", .glo "_law_reel", .glo "_law_next", .glo "_law_one", .glo "_law_mixed", .glo "_law_alike", .glo "_law_days", .glo "_law_stage", .glo "_law_stages", .glo "_law_term", .glo "law", .free "abs", .free "bool", .free "int", .free "isinstance", .free "len", .free "list", .free "range", .free "str", .free "tuple"]
abbrev R0 : PySem.W.OpenRow := PySem.W.OpenLaw.row PySem.Challenge.rw_whoseitis_k60_stages_of_a_thing
abbrev hk : PySem.W.Hook := He.hookD 4 fa fn
def ob (s : PySem.W.SharedT) : He.AlD := He.obsDG 4 fa fn (HandSHeadRun.getT s)
theorem ob_eq (s : PySem.W.SharedT) : ob s = hk.obs s.abs := He.obsDG_eq (HandSHeadRun.getT_eq s)
def loose : List Str := ["stages", "stage_on", "_law_reel", "_law_next", "_law_one", "_law_mixed", "_law_alike", "_law_days", "_law_stage", "_law_stages", "_law_term"]
theorem run (w : World) : HandSHeadRun.RunEq R0 (PySem.W.view R0.prog [13]) hk ob 2000 loose w := by
  intro os
  kernel_rfl
theorem facts {P : Program} {w : World} {K : PySem.W.Frag} {h : Heap} {mg : Str → Option Value} {f : Addr} (X : K.In h) (G : h.Ns mainGlobals mg) (hfa : mg ("law" : Str) = some (.ref f)) (c : He.SaysD fa fn K) :
    ∃ fd : FuncData, (∀ (s : Shared) (v : Value), BindsTo s fd ⟨[v], []⟩ [("script", v)]) ∧ ∀ base : Heap, K.In base → base.Ns mainGlobals mg → FnOk P w K mg base CX0 6 f fd ["script"] (LawSp 63 K) := by
  have b : Bi mg := ⟨He.free_ok X G (c.fact 12 (f := .free "abs") rfl), He.free_ok X G (c.fact 13 (f := .free "bool") rfl), He.free_ok X G (c.fact 14 (f := .free "int") rfl), He.free_ok X G (c.fact 15 (f := .free "isinstance") rfl), He.free_ok X G (c.fact 16 (f := .free "len") rfl), He.free_ok X G (c.fact 17 (f := .free "list") rfl), He.free_ok X G (c.fact 18 (f := .free "range") rfl), He.free_ok X G (c.fact 19 (f := .free "str") rfl), He.free_ok X G (c.fact 20 (f := .free "tuple") rfl)⟩
  obtain ⟨fd_stages, F_stages⟩ := c.def_ 0 (d := d_stages) rfl
  obtain ⟨fd_stage_on, F_stage_on⟩ := c.def_ 1 (d := d_stage_on) rfl
  obtain ⟨fd_law_reel, F_law_reel⟩ := c.def_ 2 (d := d_law_reel) rfl
  obtain ⟨fd_law_next, F_law_next⟩ := c.def_ 3 (d := d_law_next) rfl
  obtain ⟨fd_law_one, F_law_one⟩ := c.def_ 4 (d := d_law_one) rfl
  obtain ⟨fd_law_alike, F_law_alike⟩ := c.def_ 6 (d := d_law_alike) rfl
  obtain ⟨fd_law_days, F_law_days⟩ := c.def_ 7 (d := d_law_days) rfl
  obtain ⟨fd_law_stage, F_law_stage⟩ := c.def_ 8 (d := d_law_stage) rfl
  obtain ⟨fd_law_stages, F_law_stages⟩ := c.def_ 9 (d := d_law_stages) rfl
  obtain ⟨fd_law_term, F_law_term⟩ := c.def_ 10 (d := d_law_term) rfl
  obtain ⟨fd_law, F_law⟩ := c.def_ 11 (d := d_law) rfl
  have e := hfa.symm.trans (He.glo_ok X G (c.fact 11 (f := .glo "law") rfl))
  cases e
  have bb := FunD.bindsA (ps := ["script"]) F_law fun _ _ _ _ _ _ us hl => match us, hl with | [_], _ => rfl
  exact ⟨fd_law, fun s v => bb s [v] rfl, fun base _ _ => facts_core b F_stages (He.glo_ok X G (c.fact 0 (f := .glo "stages") rfl)) F_stage_on (He.glo_ok X G (c.fact 1 (f := .glo "stage_on") rfl)) F_law_reel (He.glo_ok X G (c.fact 2 (f := .glo "_law_reel") rfl)) F_law_next (He.glo_ok X G (c.fact 3 (f := .glo "_law_next") rfl)) F_law_one (He.glo_ok X G (c.fact 4 (f := .glo "_law_one") rfl)) F_law_alike (He.glo_ok X G (c.fact 6 (f := .glo "_law_alike") rfl)) F_law_days (He.glo_ok X G (c.fact 7 (f := .glo "_law_days") rfl)) F_law_stage (He.glo_ok X G (c.fact 8 (f := .glo "_law_stage") rfl)) F_law_stages (He.glo_ok X G (c.fact 9 (f := .glo "_law_stages") rfl)) F_law_term (He.glo_ok X G (c.fact 10 (f := .glo "_law_term") rfl)) F_law⟩
end My
open PySem PySem.W PySem.Calls PyProof.Rows
theorem PySem.Challenge.cw_whoseitis_k60_stages_of_a_thing_holds : PySem.Challenge.rw_whoseitis_k60_stages_of_a_thing.Holds := by
  w_on; o_law
  refine HandSHeadRun.head_any (r := OpenLaw.row PySem.Challenge.rw_whoseitis_k60_stages_of_a_thing) (q := view (OpenLaw.row PySem.Challenge.rw_whoseitis_k60_stages_of_a_thing).prog [13]) (H := My.hk) (ob := My.ob) (M := 2000) (loose := My.loose) (d := HandSHeadRun.topDef (OpenLaw.row PySem.Challenge.rw_whoseitis_k60_stages_of_a_thing).prog 13) (kwd := []) My.ob_eq
    (by kernel_rfl) (fun s => by kernel_rfl) My.run (by kernel_rfl) (by kernel_rfl) (by kernel_rfl) (by rfl) (by first | assumption | decide +kernel) (by decide +kernel) ⟨rfl, rfl, rfl, rfl, rfl, by decide +kernel⟩ ?hw ?hc
  case hw => w_witness2
  case hc =>
    refine L2.walk_ofE (l := PySem.Challenge.rw_whoseitis_k60_stages_of_a_thing) (n := 63) (k := 6) (x := "script") (CX := L2.CX0) rfl (by decide) (by kernel_rfl) ⟨rfl, by decide, by decide⟩ ?F (fun _ _ _ _ z => z)
    intro w mg fa h Y G hmg0
    obtain ⟨K, KX, c⟩ := Y
    have hmg : mg ("law" : PySem.Str) = some (.ref fa) := by
      have e : (HandSHeadRun.topDef (OpenLaw.row PySem.Challenge.rw_whoseitis_k60_stages_of_a_thing).prog 13).name = ("law" : PySem.Str) := by kernel_rfl
      rw [← e]
      exact hmg0
    obtain ⟨fd, hb, hF⟩ := My.facts (P := (PySem.Challenge.rw_whoseitis_k60_stages_of_a_thing).prog) (w := w) KX G hmg c
    exact ⟨K, fd, DL.LawSp 63 K, KX, hb, fun H a ns hl _ hS => ⟨a, ns, rfl, hl, hS, fun _ => rfl⟩, hF⟩
