import PyProof.Rows.All
import HandS.GenOver
import HandS.AnyAll
import HandS.Comp
import PyProof.GenQ
import PyProof.TupleOfGen
import PyProof.CollectWalk
import HandS.Keys
import PyProof.SumAny
import Wide.All
import OpenK.AllK
import Wide.FinOn
import KE.KStateDown
import Lean
import HandS.Base
import HandS.Call
import HandS.List
import HandS.Ends
import HandS.Dict
import HandS.Iter
import HandS.Text
import HandS.More
import HandS.Words
import HandS.WordsList
import HandS.WordsExc
import HandS.Defaults
import HandS.Wide
import HandS.Deep
import HandS.TupAny
import HandS.TupMul
import HandS.Zip
import HandS.SortOrd
import HandS.Head0
import HandS.Head1
import HandS.Head2
import HandS.HeadEnd
import HandS.HeadHook1
import HandS.HeadHook2
import HandS.IsInst
import HandS.SortInts
import HandS.Flow
import HandS.Rev
import HandS.Style
import HandS.SortRule
import KE.GoesEnum
import HandS.HeadHook3
import HandS.HeadHook4
import HandS.HeadWalk
import HandS.Conv
import PySem.Challenge.RW_whoseitis_k74_made_tables_and_words
set_option Elab.async false
set_option linter.all false
set_option maxRecDepth 100000
set_option maxHeartbeats 0
/-! GXRun: generator expressions, one wake at a time. -/
namespace GX
open PySem PySem.Spec PyProof.Rows L2 GenW

/-! ### a generator's code, to its end or to its next item -/
def Run1 (M : Model) (A : Around) (Φ : End → Shared → Prop) (c : Code) (t : Sem PySem.Fin) (fs : List Frame) (s : Shared) : Prop :=
  ∀ Γ p, Γ.code = c → Γ.Woken A → ∃ e s', Runs M Γ p t fs s e s' ∧ Φ e s'
section
variable {M : Model} {A : Around} {Φ : End → Shared → Prop} {c : Code} {fs : List Frame} {s : Shared}
theorem r1_wrap {α : Type} {m : Sem α} {K : α → Sem PySem.Fin} {H : Value → Sem PySem.Fin} {gd lv}
    (h : wpAny M (A.over c fs) m (fun a s' => Run1 M A Φ c (K a) fs s') (fun x s' => Run1 M A Φ c (H x) fs s') s) : Run1 M A Φ c (m.wrap K H gd lv) fs s := by
  rintro Γ p rfl hΓ
  exact runs_wrap_of_wp K H gd lv m (h (Γ.over fs) p (hΓ.over fs)) (fun a p' s' h' => h' Γ p' rfl hΓ) (fun x p' s' h' => h' Γ p' rfl hΓ)
theorem r1_bw {α β : Type} {m : Sem α} {K : α → Sem β} {K' : β → Sem PySem.Fin} {H' : Value → Sem PySem.Fin} {gd lv}
    (h : wpAny M (A.over c fs) m (fun a s' => Run1 M A Φ c ((K a).wrap K' H' gd lv) fs s') (fun x s' => Run1 M A Φ c (H' x) fs s') s) : Run1 M A Φ c ((m >>= K).wrap K' H' gd lv) fs s := by
  rw [Sem.bind_eq_wrap', Sem.wrap_wrap]; exact r1_wrap h
theorem r1_at {p' : Pos} {k : Unit → Sem PySem.Fin} (h : Run1 M A Φ c (k ()) fs s) : Run1 M A Φ c (.at p' k) fs s :=
  r1_wrap (m := standAt p') (K := k) (H := .raise) (gd := id) (lv := id) (wpAny_standAt h)
theorem r1_again {c' : Code} (hq : c'.quiet = true) (hc : Run1 M A Φ c' (M.den c') fs s) : Run1 M A Φ c (.pure (.again c')) fs s := by
  rintro Γ p rfl hΓ
  obtain ⟨e, s', hr, he⟩ := hc (Γ.goto c') p rfl (hΓ.goto c')
  exact ⟨e, s', Runs.head (c₁ := c') (fun _ _ x => .again hq x) hr, he⟩
theorem r1_end (r : Result) (h : Φ (.ret r) s) : Run1 M A Φ c (leafOf r) [] s := by
  rintro Γ p rfl _
  exact ⟨.ret r, s, Runs.leaf r, h⟩
theorem r1_yield {v g l} {k : Resume → Sem PySem.Fin} (hfs : splitAtGen fs = none) (h : ∀ p, Φ (.susp v g l k c p fs) s) : Run1 M A Φ c (.yield v g l k) fs s := by
  rintro Γ p rfl _
  exact ⟨_, s, Runs.yield' fs hfs, h p⟩
end
def Goes1 (M : Model) (A : Around) (Φ : End → Shared → Prop) (gs : GenState) (r : Resume) (s : Shared) : Prop :=
  match gs with
  | .fresh c => r = .send .none ∧ Run1 M A Φ c (M.den c) [] s
  | .suspended k _ c _ fs _ => Run1 M A Φ c (k r) fs s
  | _ => False
section
variable {M : Model}
theorem wpAny_resume1 {A : Around} {Φ : End → Shared → Prop} {E : Value → Shared → Prop} {s : Shared} {g : Nat} {gs : GenState}
    {r : Resume} {l : List Value} {α : Type} {k : GenResult → Sem α} {Q : α → Shared → Prop} (hg : s.gens[g]? = some gs)
    (hgo : Goes1 M A Φ gs r (s.setGen g .running))
    (hq : ∀ e s₁, Φ e s₁ → e.quiet = true ∧ wpAny M A (k e.result) Q E (s₁.setGen g e.genState)) :
    wpAny M A (.resume g r l k) Q E s := by
  intro Γ p hΓ
  rw [Sem.wp_resume]
  have hB : ∀ c, (Γ.wake c p).Woken A := fun c => hΓ.wake c p
  cases gs with
  | fresh c =>
    obtain ⟨rfl, hs⟩ := hgo
    obtain ⟨e₁, s₁, hr, he⟩ := hs (Γ.wake c p) p rfl (hB c)
    obtain ⟨h1, h2⟩ := hq e₁ s₁ he
    exact ⟨_, _, by unfold Wakes; rw [hg]; exact ⟨e₁, s₁, hr, h1, rfl, rfl⟩, h2 Γ p hΓ⟩
  | suspended k₀ l₀ c₀ p₀ fs₀ cl =>
    obtain ⟨e₁, s₁, hr, he⟩ := hgo (Γ.wake c₀ p) p₀ rfl (hB c₀)
    obtain ⟨h1, h2⟩ := hq e₁ s₁ he
    exact ⟨_, _, by unfold Wakes; rw [hg]; exact ⟨e₁, s₁, hr, h1, rfl, rfl⟩, h2 Γ p hΓ⟩
  | running => exact hgo.elim
  | finished => exact hgo.elim
end
section
variable {prog : Program} {w : World} {A : Around} {E : Value → Shared → Prop} {s : Shared}
theorem next_gen1 {a : Addr} {g : Nat} {gs : GenState} {Φ : End → Shared → Prop} {Q : Option Value → Shared → Prop} (hh : A.handled = none)
    (hl : s.heap.NoLimit) (hroom : A.depth < recursionLimit) (hg : s.heap.IsGen a g) (hgs : s.gens[g]? = some gs)
    (hgo : Goes1 (model prog w) A.in1 Φ gs (.send .none) (s.setGen g .running))
    (hΦ : ∀ e s₁, Φ e s₁ → match e with
      | .ret r => r = .ok .next ∧ ∀ h', (∀ b o, s₁.heap.get? b = some o → h'.get? b = some o) → Q none { s₁.setGen g .finished with heap := h' }
      | .susp v gd l k c p fs => (End.susp v gd l k c p fs).quiet = true ∧ Q (some v) (s₁.setGen g (End.susp v gd l k c p fs).genState)) :
    wpAny (model prog w) A (pyNext (.ref a)) Q E s := by
  unfold pyNext
  refine wpAny_bind (wpAny_attempt (wpAny_callSpecial?_slot (name := Str.ofString "__next__") hg.typeIs slot_gen_next
    (wpAny_call_entry slot_gen_next hg.typeIs entry_gen_next ?_ (args_gen_next _))))
  show wpAny _ A.in1 (Builtin.Generator.genWake (.ref a) (.send .none)) _ _ s
  unfold Builtin.Generator.genWake
  refine wpAny_bind (wpAny_holding (wpAny_genNumber hg (wpAny_bind (wpAny_genState hgs ?_))))
  cases gs with
  | running => exact hgo.elim
  | finished => exact hgo.elim
  | _ =>
    refine wpAny_bind (wpAny_roomToWake hl hroom ?_)
    show wpAny _ A.in1 (.resume g (.send .none) [] _) _ _ s
    refine wpAny_resume1 hgs hgo fun e s₁ he => ?_
    have he := hΦ e s₁ he
    cases e with
    | ret r =>
      obtain ⟨rfl, hp⟩ := he
      refine ⟨rfl, ?_⟩
      show wpAny _ A.in1 (newExc (.type "StopIteration") [] >>= _) _ _ _
      refine wpAny_bind ?_
      simp only [newExc, newTuple]
      refine wpAny_bind (wpAny_newObj_type ?_ (by size_fits))
      refine wpAny_bind (m := firstArgMember _ _) (wpAny_of_eq (a := Value.none) (by first | rfl | (simp only [firstArgMember]; rfl)) ?_)
      refine wpAny_newObj_type ?_ (by size_fits)
      simp only [raiseNew]
      refine wpAny_bind (wpAny_bind (wpAny_handled ?_))
      first | rw [show A.in1.handled = none from hh] | rw [hh]
      refine wpAny_throw ?_
      refine wpAny_bind (wpAny_isInstance (T := "StopIteration") (b := true) ⟨_, Heap.get?_push_size _ rfl, rfl⟩ isSubtype_stop ?_)
      exact wpAny_pure (hp _ fun b o hb => Heap.get?_push_of_some _ (Heap.get?_push_of_some _ hb))
    | susp v gd l k c p fs =>
      exact ⟨he.1, wpAny_pure ⟨v, rfl, wpAny_pure he.2⟩⟩
end

/-! ### the context of the expression's own frame -/
abbrev gcx (X : Cx) (A : Around) (s : Shared) (H : Hp) (env : Env) (fp : List Addr) : Cx :=
  { X with A := A, s_0 := s, H_0 := H, env := env, outer := X.stack, stack := env :: X.stack, ex := fp, fn := fun _ => false, pn := [], xe := fun _ _ => False }
/-- the names of a generator expression: its own (with their places in N), captured ones -/
structure GenOk (N : List Str) (sc scope : Scope) (own : List (Str × Nat)) : Prop extends BlkOk N sc scope own where
  co : scope.isCoroutine = false
  nocell : ∀ y ∈ scope.names, y.2 ≠ .cell
  dot : scope.names.lookup (".0" : Str) = some NameKind.local
  nodot : (".0" : Str) ∉ N
section
variable {X : Cx} {pins : List (Addr × Obj)} {σ : L2.St} {H : Hp} {s : Shared}
theorem inv_gens {G : Array GenState} (I : Inv X pins σ H s) (h : AllBare G) : Inv X pins σ H { s with gens := G } :=
  ⟨I.ok, I.os, h, I.base, I.loc, I.cell, I.free, I.freeC, I.pin, I.hok, I.len⟩
/-- the frame that is laid: its map; what the heap keeps -/
theorem gen_start {scope : Scope} {own : List (Str × Nat)} {fp : List Addr} {code : Value} {A : Around} {s' : Shared} {itv : Value} (I : Inv X pins σ H s) (ok : GenOk X.N X.env.scope scope own) (hN : X.N.Nodup) (hh : A.handled = none)
    (hfr : A.frames = some (genEnv scope (cloFrom X.env.cells scope.names []) s.heap.objs.size code builtinsNs X.env :: X.stack)) (hfp : ∀ b ∈ fp, FpOk X pins H b ∧ b < s.heap.objs.size)
    (hos : s'.os = s.os) (hb : AllBare s'.gens) (kp : ∀ b o, s.heap.get? b = some o → s'.heap.get? b = some o) (hns : s'.heap.Ns s.heap.objs.size (fun y => if y = ".0" then some itv else none)) :
    Inv (gcx X A s H (genEnv scope (cloFrom X.env.cells scope.names []) s.heap.objs.size code builtinsNs X.env) fp) [] (wipe σ (own.map (·.2))) H s' := by
  have hfree : ∀ y ∈ scope.names, y.2 = .free → ∃ c, X.env.cells.lookup y.1 = some c := fun y hy e => by
    rcases ok.free y hy e with k | k
    · exact I.ok.has _ (.inl k)
    · exact I.ok.has _ (.inr k)
  generalize hcenv : genEnv scope (cloFrom X.env.cells scope.names []) s.heap.objs.size code builtinsNs X.env = cenv at hfr ⊢
  have hL : cenv.locals = s.heap.objs.size := by rw [← hcenv]; rfl
  have hcl : cenv.cells = cloFrom X.env.cells scope.names [] := by rw [← hcenv]; rfl
  have hsc : cenv.scope = scope := by rw [← hcenv]; rfl
  have hfrm : cenv.frame = some cenv.locals := by rw [← hcenv]; rfl
  have cm : ∀ {y c}, (y, c) ∈ cloFrom X.env.cells scope.names [] → X.env.cells.lookup y = some c ∧ c < s.heap.objs.size := fun {y c} hm => by
    rcases cloFrom_mem hm with hm | ⟨h1, rfl⟩
    · cases hm
    · obtain ⟨c, hc⟩ := hfree _ h1 rfl
      rw [hc]
      obtain ⟨w, z⟩ := I.cell _ _ hc
      exact ⟨rfl, z.lt⟩
  have mem : ∀ {y c}, cenv.cells.lookup y = some c → X.env.cells.lookup y = some c ∧ c < s.heap.objs.size := fun {y c} e => by
    rw [hcl] at e
    exact cm (PySem.mem_of_lookup e)
  have look : ∀ {y}, scope.names.lookup y = some .free → ∃ c, cenv.cells.lookup y = some c ∧ X.env.cells.lookup y = some c := fun {y} hl => by
    have hy : (y, NameKind.free) ∈ scope.names := PySem.mem_of_lookup hl
    obtain ⟨c', e'⟩ := mem_lookup (cloFrom_has (cells := X.env.cells) (acc := []) hy)
    rw [← hcl] at e'
    exact ⟨c', e', (mem e').1⟩
  have hcell : ∀ {y}, scope.names.lookup y ≠ some .cell := fun {y} e => ok.nocell _ (PySem.mem_of_lookup e) rfl
  have okB : (gcx X A s H cenv fp).Ok := by
    refine ⟨I.ok.mod, by show cenv.scope.kind = _; rw [hsc]; exact ok.kind, by show cenv.globals = _; rw [← hcenv]; exact I.ok.glob, by show cenv.builtins = _; rw [← hcenv]; rfl, by show s.heap.objs.size ≤ cenv.locals; rw [hL]; exact Nat.le_refl _,
      fun y z c e1 e2 => I.ok.inj y z c (mem e1).1 (mem e2).1, fun y hy => ?_, fun y c z e => (by cases z), fun _ => hh, hfr, .inr ⟨rfl, hfrm⟩, fun b hb => ⟨?_, fun y c e z => ?_⟩, I.bs, Nat.le_trans I.ok.bsz I.sz, fun b o e hb => ?_, fun b hb z => ?_, I.stack, I.stkFree⟩
    · show ∃ c, cenv.cells.lookup y = some c
      have key : ∀ k, cenv.kindOf y = some k → (k = .cell ∨ k = .free) → ∃ c, cenv.cells.lookup y = some c := fun k hk hk' => by
        unfold Env.kindOf at hk
        rw [hsc] at hk
        rcases hk' with rfl | rfl
        · exact absurd hk hcell
        · obtain ⟨c, h1, _⟩ := look hk
          exact ⟨c, h1⟩
      rcases hy with hy | hy
      · exact key _ hy (.inl rfl)
      · exact key _ hy (.inr rfl)
    · show b ≠ cenv.locals
      rw [hL]; exact Nat.ne_of_lt (hfp b hb).2
    · exact (hfp b hb).1.2.2.2.2.1 y c (mem e).1 z
    · rcases (hfp b hb).1.2.2.2.1 with z | z
      · exact I.ok.noex b o e z
      · exact absurd (Nat.lt_of_lt_of_le (Heap.lt_size e) (Nat.le_trans I.ok.bsz z)) (Nat.lt_irrefl _)
    · rcases List.mem_cons.mp (I.stkSub b z) with z | z
      · exact (hfp b hb).1.2.1 z
      · exact (hfp b hb).1.2.2.1 z
  refine ⟨okB, hos, hb, Un.kept kp, ⟨_, by show Heap.Ns _ cenv.locals _; rw [hL]; exact hns, fun i y av e1 e2 e3 => ?_⟩, fun y c e => ?_, ?_, fun y c e => I.freeC y c (mem e).1, fun p hp => ?_, I.hok.kept kp, by rw [wipe_length]; exact I.len⟩
  · obtain ⟨e2, hne⟩ := wipe_some e2
    have hfr : scope.names.lookup y = some .free ∧ (cenv.kindOf y = some .cell ∨ cenv.kindOf y = some .free) := by
      have no : ∀ k', scope.names.lookup y = some k' → ¬ (k' = .local ∨ k' = .cell) := fun k' e hh => by
        rcases ok.own _ (PySem.mem_of_lookup e) hh with e' | e'
        · obtain ⟨p, hp, hpy⟩ := List.mem_map.mp e'
          have e3 := ok.ix p hp
          have : p.1 = y := hpy
          rw [this] at e3
          exact hne (List.mem_map.mpr ⟨p, hp, nodup_ix hN e3 e1⟩)
        · exact e' (List.mem_of_getElem? e1)
      have e3 : Vis cenv.scope y := e3
      unfold Vis at e3
      rw [hsc] at e3
      rcases e3 with e3 | e3 | e3
      · exact absurd (.inl rfl) (no _ e3)
      · exact absurd (.inr rfl) (no _ e3)
      · exact ⟨e3, .inr (by unfold Env.kindOf; rw [hsc]; exact e3)⟩
    obtain ⟨m, hn, hl⟩ := I.loc
    have hvis : Vis X.env.scope y := (ok.free _ (PySem.mem_of_lookup hfr.1) rfl).elim (fun k => .inr (.inl k)) (fun k => .inr (.inr k))
    obtain ⟨w, r, q⟩ := hl i y av e1 e2 hvis
    refine ⟨w, r, .inr ⟨hfr.2, ?_⟩⟩
    obtain ⟨c, h1, h2⟩ := look hfr.1
    rcases q with ⟨k, _⟩ | ⟨_, c', e', z⟩
    · have k : X.env.scope.names.lookup y = some .local := k
      rcases ok.free _ (PySem.mem_of_lookup hfr.1) rfl with k' | k' <;> rw [show X.env.scope.names.lookup y = _ from k'] at k <;> cases k
    · rw [h2] at e'; cases e'
      exact ⟨c, h1, z.keeps kp⟩
  · obtain ⟨w, z⟩ := I.cell y c (mem e).1
    exact ⟨w, z.keeps kp⟩
  · show H cenv.locals = none
    rw [hL]; exact I.hok.fresh (Nat.le_refl _)
  · exact absurd (show p ∈ ([] : List (Addr × Obj)) ++ [] from hp) (by simp)
/-- the same state under another around -/
theorem inv_at {A B : Around} {s0 : Shared} {H0 : Hp} {env : Env} {fp : List Addr} (I : Inv (gcx X A s0 H0 env fp) pins σ H s) (hh : B.handled = none) (hf : B.frames = A.frames) : Inv (gcx X B s0 H0 env fp) pins σ H s :=
  ⟨⟨I.ok.mod, I.ok.kind, I.ok.glob, I.ok.blt, I.ok.above, I.ok.inj, I.ok.has, I.ok.cab, fun _ => hh, hf.trans I.ok.frames, I.ok.stk, I.ok.exf, I.ok.bs, I.ok.bsz, I.ok.noex, I.ok.exfs, I.ok.funs, I.ok.frf⟩, I.os, I.bare, I.base, I.loc, I.cell, I.free, I.freeC, I.pin, I.hok, I.len⟩
end
end GX

namespace GX
open PySem PySem.Spec PyProof.Rows L2 GenW

/-- the turns of a generator expression: i the turn, W what holds ahead of it (m a measure), Dn, Yd what is wanted at its end, at an item -/
abbrev Turns (J : It) (g : TG) (tt : TT) (te : TE) (σ : L2.St) (vs : List Nat) (W : Nat → Nat → Hp → Prop) (Dn : Hp → Prop) (Yd : V → Nat → Hp → Prop) : Prop :=
  ∀ i m H, W i m H → (J.stop i H ∧ Dn H) ∨ (J.go i H ∧ ∃ Nx : Hp → Prop, (∀ H', Nx H' → ∃ m', m' < m ∧ W (i + 1) m' H') ∧
    ∀ x H', J.yld i H x H' → g x (wipe σ vs) H' fun σ2 H2 => wipe σ2 vs = wipe σ vs ∧ tt σ2 H2 fun b H3 => if b = true then te σ2 H3 fun y H4 => Yd y (i + 1) H4 else Nx H3)
abbrev cLoop (elt tg iter : Expr) (ifs : List Expr) (scope : Scope) (pos : Pos) (it : Addr) (env : Env) : Code := .compLoop (.GeneratorExp elt [⟨tg, iter, ifs, 0⟩] scope pos) 0 (.ref it) .none env
abbrev cStart (elt tg iter : Expr) (ifs : List Expr) (scope : Scope) (pos : Pos) (it : Addr) (env : Env) : Code := .compStart (.GeneratorExp elt [⟨tg, iter, ifs, 0⟩] scope pos) 0 (.ref it) .none env
/-- a state in which it sleeps ahead of the turn i -/
def Ready (M : Model) (c : Code) (tn : Heap → Prop) (gs : GenState) : Prop :=
  ∀ (A : Around) (Φ : End → Shared → Prop) (s : Shared), A.handled = none → tn s.heap → Run1 M A Φ c (M.den c) [] s → Goes1 M A Φ gs (.send .none) s
/-- it has come to an end, or to an item -/
def Came (X : Cx) (A : Around) (s0 : Shared) (H0 : Hp) (c : Code) (env : Env) (fp : List Addr) (pins : List (Addr × Obj)) (σw : L2.St) (tn : Nat → Heap → Prop) (Dn : Hp → Prop) (Yd : V → Nat → Hp → Prop) : End → Shared → Prop
  | .ret r, s => r = .ok .next ∧ ∃ H', Inv (gcx X A s0 H0 env fp) pins σw H' s ∧ (∀ b ∈ fp, H' b = none) ∧ Dn H'
  | .susp u gd l k c' p fs, s => gd = false ∧ fs = [] ∧ c' = c ∧ ∃ y i H', RelV y u ∧ Inv (gcx X A s0 H0 env fp) pins σw H' s ∧ tn i s.heap ∧ (∀ b ∈ fp, H' b = none) ∧ Yd y i H' ∧
      ∀ cl, Ready (model X.prog X.w) c (tn i) (.suspended k l c p [] cl)
section
variable {X : Cx} {A : Around} {s0 : Shared} {H0 : Hp} {env : Env} {fp : List Addr} {pins : List (Addr × Obj)} {σ : L2.St} {vs : List Nat} {it : Addr} {tn : Nat → Heap → Prop} {J : It} {elt tg iter : Expr} {ifs : List Expr} {scope : Scope} {pos : Pos}
  {g : TG} {tt : TT} {te : TE} {W : Nat → Nat → Hp → Prop} {Dn : Hp → Prop} {Yd : V → Nat → Hp → Prop}
theorem gen_loop (hc : X.calm = true) (hh : A.handled = none) (hco : env.scope.isCoroutine = false) (hpi : ∀ p ∈ pins, p.1 ∉ fp) (T : Turn X.prog X.w X.K tg J fp it tn)
    (pg : PG (gcx X (A.over (cLoop elt tg iter ifs scope pos it env) []) s0 H0 env fp) tg g) (pt : PTs (gcx X (A.over (cLoop elt tg iter ifs scope pos it env) []) s0 H0 env fp) ifs tt) (pe : PE (gcx X (A.over (cLoop elt tg iter ifs scope pos it env) []) s0 H0 env fp) elt te)
    (turn : Turns J g tt te σ vs W Dn Yd) : ∀ (m i : Nat) (s : Shared) (H : Hp), W i m H → Inv (gcx X (A.over (cLoop elt tg iter ifs scope pos it env) []) s0 H0 env fp) pins (wipe σ vs) H s → tn i s.heap → (∀ b ∈ fp, H b = none) →
      Run1 (model X.prog X.w) A (Came X (A.over (cLoop elt tg iter ifs scope pos it env) []) s0 H0 (cLoop elt tg iter ifs scope pos it env) env fp pins (wipe σ vs) tn Dn Yd) (cLoop elt tg iter ifs scope pos it env) ((model X.prog X.w).den (cLoop elt tg iter ifs scope pos it env)) [] s := by
  generalize hC : cLoop elt tg iter ifs scope pos it env = C at *
  generalize hA : A.over C [] = A' at *
  have stat : ∀ {σ' : L2.St} {H' : Hp} {s' : Shared}, Inv (gcx X A' s0 H0 env fp) pins σ' H' s' → (∀ b ∈ fp, H' b = none) → ∀ b ∈ fp, FpOk (gcx X A' s0 H0 env fp) pins H' b := fun {σ' H' s'} I' hn b hb =>
    ⟨hn b hb, (I'.ok.exf b hb).1, I'.ok.exfs b hb, .inl hb, fun x c e => (I'.ok.exf b hb).2 x c e, fun p hp z => by
      have hp : p ∈ pins := hp
      exact hpi p hp (by rw [z]; exact hb)⟩
  intro m
  induction m using Nat.strongRecOn with
  | ind m ih =>
    intro i s H w I st hn
    have hden : (model X.prog X.w).den C = (compTurn (.GeneratorExp elt [⟨tg, iter, ifs, 0⟩] scope pos) 0 (.ref it) .none env).onRaise (leaving env) := by rw [← hC]; rfl
    rw [hden, compTurn_gen, Sem.onRaise_eq_wrap]
    refine r1_bw (wpAny_standAt ?_)
    rcases turn i m H w with ⟨stop, qq⟩ | ⟨go, Nx, hNx, step⟩
    · have td := T.done (gcx X A' s0 H0 env fp) rfl rfl rfl hc i pins s _ H (fun _ _ => False) I (stat I hn) st stop
      refine r1_bw ?_
      rw [hA]
      refine thnF td fun r s1 ⟨hr, I1⟩ => ?_
      subst hr
      exact r1_end (.ok .next) ⟨rfl, H, I1, hn, qq⟩
    · have ti := T.item (gcx X A' s0 H0 env fp) rfl rfl rfl hc i pins s _ H (fun _ _ => False) I (stat I hn) st go
      refine r1_bw ?_
      rw [hA]
      refine thnF ti fun r s1 ⟨u, hr, h6⟩ => ?_
      subst hr
      refine r1_bw ?_
      rw [hA]
      refine thnF h6 fun _ s7 ⟨x, H7, I7, r7, y7, st7, n7⟩ => ?_
      have I7' := I7.pinned (stat I7 n7) (T.obj _ _ st7)
      refine r1_bw ?_
      rw [hA]
      refine thnF (pg.run _ s7 _ H7 x u _ I7' r7 (step x H7 y7)) fun _ s8 ⟨σ8, H8, I8, hw8, q8⟩ => ?_
      refine r1_bw ?_
      rw [hA]
      refine thnF (pt.run _ s8 σ8 H8 _ I8 q8) fun b s9 ⟨H9, I9, q9⟩ => ?_
      have fin : ∀ {s' : Shared} {H' : Hp}, Inv (gcx X A' s0 H0 env fp) (pins ++ pinsAt fp s7.heap) σ8 H' s' → Inv (gcx X A' s0 H0 env fp) pins (wipe σ vs) H' s' ∧ tn (i + 1) s'.heap ∧ ∀ b ∈ fp, H' b = none := fun {s' H'} I' => by
        have pin' : ∀ b ∈ fp, ∀ o, s7.heap.get? b = some o → s'.heap.get? b = some o ∧ H' b = none := fun b hb o e =>
          let z := I'.pin (b, o) (List.mem_append_right _ (List.mem_append_right _ (mem_pinsAt hb e)))
          ⟨z.1, z.2.1⟩
        have hl : (wipe σ vs).length = σ8.length := by rw [← hw8, wipe_length]
        refine ⟨(I'.unpinned (pins := pins)).weak hl (fun j v e => ?_), T.keep _ _ _ st7 fun b hb o e => (pin' b hb o e).1, fun b hb => ?_⟩
        · rw [← hw8] at e
          exact (wipe_some e).1
        · obtain ⟨o, e, _⟩ := T.obj _ _ st7 b hb
          exact (pin' b hb o e).2
      cases b with
      | false =>
        simp only [Bool.false_eq_true, if_false] at q9 ⊢
        obtain ⟨m', hm, w'⟩ := hNx _ q9
        obtain ⟨f1, f2, f3⟩ := fin I9
        rw [show (Code.compLoop (.GeneratorExp elt [⟨tg, iter, ifs, 0⟩] scope pos) 0 (.ref it) .none env) = C from hC]
        exact r1_again (by rw [← hC]; rfl) (ih m' hm (i + 1) s9 H9 w' f1 f2 f3)
      | true =>
        simp only [if_true] at q9 ⊢
        have hy : ∀ v, yieldOut env v = yieldValue v := fun v => by simp only [yieldOut, hco, Bool.false_eq_true, if_false]
        simp only [hy]
        rw [Sem.bind_eq_wrap', Sem.bind_eq_wrap', Sem.wrap_wrap, Sem.wrap_wrap]
        refine r1_wrap ?_
        rw [hA]
        refine thnF (pe.run _ s9 σ8 H9 _ I9 q9) fun z s10 ⟨yv, H10, I10, r10, q10⟩ => ?_
        obtain ⟨f1, f2, f3⟩ := fin I10
        refine r1_at (r1_yield rfl fun p => ⟨rfl, rfl, rfl, yv, i + 1, H10, r10, f1, f2, f3, q10, fun cl A2 Φ2 s2 h2 t2 hgo => ?_⟩)
        rw [show (Code.compLoop (.GeneratorExp elt [⟨tg, iter, ifs, 0⟩] scope pos) 0 (.ref it) .none env) = C from hC]
        exact r1_again (by rw [← hC]; rfl) hgo
/-- it has not begun: the iterator is asked for itself once more -/
theorem ready_fresh {K : PySem.W.Frag} {tn : Nat → Heap → Prop} {fp : List Addr} {prog : Program} {w : World} (T : Turn prog w K tg J fp it tn) : Ready (model prog w) (cLoop elt tg iter ifs scope pos it env) (tn 0) (.fresh (cStart elt tg iter ifs scope pos it env)) := by
  intro A Φ s hh ht h
  refine ⟨rfl, ?_⟩
  show Run1 _ A Φ _ ((compStart (.GeneratorExp elt [⟨tg, iter, ifs, 0⟩] scope pos) 0 (.ref it) .none env).onRaise (leaving env)) [] s
  unfold compStart
  rw [Sem.onRaise_eq_wrap]
  show Run1 _ A Φ _ ((ask >>= _).wrap _ _ _ _) [] s
  refine r1_bw (wpAny_askSetting ?_)
  split
  · exact r1_again rfl h
  · first
      | exact r1_bw (wpAny_rule (r1_bw (wpAny_standAt (r1_bw (T.self _ 0 s _ _ ht (r1_again rfl h))))))
      | (refine r1_bw (wpAny_rule ?_); show Run1 _ A Φ _ ((standAt iter.pos >>= _).wrap _ _ _ _) [] s; exact r1_bw (wpAny_standAt (r1_bw (T.self _ 0 s _ _ ht (r1_again rfl h)))))
end

/-! ### asleep, and the next item -/
/-- at the generator's place stands its object go; it sleeps ahead of the turn i; H is held -/
structure Asleep (X : Cx) (s0 : Shared) (H0 : Hp) (c : Code) (env : Env) (fp : List Addr) (a : Addr) (g : Nat) (go : Obj) (pins : List (Addr × Obj)) (σw : L2.St) (tn : Nat → Heap → Prop) (i : Nat) (H : Hp) (s : Shared) : Prop where
  inv : Inv (gcx X ⟨none, 0, some (env :: X.stack), none, 1⟩ s0 H0 env fp) ((a, go) :: pins) σw H s
  turn : tn i s.heap
  fp : ∀ b ∈ fp, H b = none
  gen : ∃ gs, s.gens[g]? = some gs ∧ Ready (model X.prog X.w) c (tn i) gs
def GoOk (go : Obj) (g : Nat) : Prop := ∃ nm qn, go.cls = .type "generator" ∧ go.data = .fields #[.int g 0, nm, qn] ∧ go.slots = #[]
theorem allBare_setGen {s : Shared} {g : Nat} {x : GenState} (h : AllBare s.gens) (hx : x.bare = true) : AllBare (s.setGen g x).gens := fun y hy => by
  obtain ⟨i, hi, e⟩ := Array.mem_iff_getElem.mp hy
  have hi' : i < s.gens.size := by
    have q : (s.setGen g x).gens.size = s.gens.size := setGen_size s g x
    rw [q] at hi; exact hi
  by_cases z : i = g
  · subst z
    have q : (s.setGen i x).gens[i]? = some x := by
      show (s.gens.setIfInBounds i x)[i]? = some x
      simp [hi']
    have q2 : (s.setGen i x).gens[i]? = some y := by rw [Array.getElem?_eq_getElem hi, e]
    rw [q] at q2; cases q2; exact hx
  · have q : (s.setGen g x).gens[i]? = s.gens[i]? := by
      show (s.gens.setIfInBounds g x)[i]? = _
      rw [Array.getElem?_setIfInBounds_ne (Ne.symm z)]
    have q2 : s.gens[i]? = some y := by rw [← q, Array.getElem?_eq_getElem hi, e]
    exact h y (Array.mem_of_getElem? q2)
theorem setGen_at {s : Shared} {g : Nat} {x : GenState} (h : g < s.gens.size) : (s.setGen g x).gens[g]? = some x := by
  show (s.gens.setIfInBounds g x)[g]? = some x
  simp [h]
section
variable {X : Cx} {A : Around} {s s0 : Shared} {H H0 : Hp} {env : Env} {fp : List Addr} {pins : List (Addr × Obj)} {σ : L2.St} {vs : List Nat} {it a : Addr} {gn : Nat} {go : Obj} {tn : Nat → Heap → Prop} {J : It} {elt tg iter : Expr} {ifs : List Expr} {scope : Scope} {pos : Pos}
  {g : TG} {tt : TT} {te : TE} {W : Nat → Nat → Hp → Prop} {Dn : Hp → Prop} {Yd : V → Nat → Hp → Prop} {i m : Nat} {Q : Option Value → Shared → Prop} {E : Value → Shared → Prop}
/-- the around of the expression's code under a call of next -/
abbrev aWake (A : Around) (c : Code) : Around := A.in1.over c []
theorem gen_next (hc : X.calm = true) (hh : A.handled = none) (hfr : A.frames = some X.stack) (hroom : A.depth < recursionLimit) (hco : env.scope.isCoroutine = false) (hgo : GoOk go gn) (hpi : ∀ p ∈ pins, p.1 ∉ fp) (haf : a ∉ fp) (T : Turn X.prog X.w X.K tg J fp it tn)
    (pg : PG (gcx X (aWake A (cLoop elt tg iter ifs scope pos it env)) s0 H0 env fp) tg g) (pt : PTs (gcx X (aWake A (cLoop elt tg iter ifs scope pos it env)) s0 H0 env fp) ifs tt) (pe : PE (gcx X (aWake A (cLoop elt tg iter ifs scope pos it env)) s0 H0 env fp) elt te)
    (turn : Turns J g tt te σ vs W Dn Yd) (hW : W i m H) (S : Asleep X s0 H0 (cLoop elt tg iter ifs scope pos it env) env fp a gn go pins (wipe σ vs) tn i H s)
    (hd : ∀ s' H', Inv (gcx X ⟨none, 0, some (env :: X.stack), none, 1⟩ s0 H0 env fp) ((a, go) :: pins) (wipe σ vs) H' s' → (∀ b ∈ fp, H' b = none) → Dn H' → Q none s')
    (hy : ∀ s' u y i' H', RelV y u → Yd y i' H' → Asleep X s0 H0 (cLoop elt tg iter ifs scope pos it env) env fp a gn go pins (wipe σ vs) tn i' H' s' → Q (some u) s') :
    wpAny (model X.prog X.w) A (pyNext (.ref a)) Q E s := by
  obtain ⟨I, st, hn, gs, hgs, hr⟩ := S
  obtain ⟨nm, qn, g1, g2, g3⟩ := id hgo
  have hgen : ∀ {σ' H' s'}, Inv (gcx X ⟨none, 0, some (env :: X.stack), none, 1⟩ s0 H0 env fp) ((a, go) :: pins) σ' H' s' → s'.heap.IsGen a gn := fun {σ' H' s'} I' =>
    ⟨go, nm, qn, (I'.pin (a, go) (List.mem_append_right _ (List.mem_cons_self ..))).1, g1, g2, g3⟩
  have hgl : gn < s.gens.size := (Array.getElem?_eq_some_iff.mp hgs).1
  have hfr' : (aWake A (cLoop elt tg iter ifs scope pos it env)).frames = some (env :: X.stack) := by
    show pushEnvs [env] (pushEnvs [] A.frames) = _
    rw [hfr]; rfl
  have up : ∀ {σ' H' s'}, Inv (gcx X ⟨none, 0, some (env :: X.stack), none, 1⟩ s0 H0 env fp) ((a, go) :: pins) σ' H' s' → Inv (gcx X (aWake A (cLoop elt tg iter ifs scope pos it env)) s0 H0 env fp) ((a, go) :: pins) σ' H' s' := fun I' => inv_at I' hh hfr'
  have down : ∀ {σ' H' s'}, Inv (gcx X (aWake A (cLoop elt tg iter ifs scope pos it env)) s0 H0 env fp) ((a, go) :: pins) σ' H' s' → Inv (gcx X ⟨none, 0, some (env :: X.stack), none, 1⟩ s0 H0 env fp) ((a, go) :: pins) σ' H' s' := fun I' => inv_at I' rfl hfr'.symm
  have run := gen_loop (A := A.in1) hc hh hco (pins := (a, go) :: pins) (fun p hp => by
    rcases List.mem_cons.mp hp with rfl | hp
    · exact haf
    · exact hpi p hp) T pg pt pe turn m i (s.setGen gn .running) H hW (inv_gens (up I) (allBare_setGen I.bare rfl)) st hn
  refine wpAny_gsz (n := gn + 1) hgl (next_gen1 hh I.nolimit hroom (hgen I) hgs (hr A.in1 _ (s.setGen gn .running) hh st run) fun e s₁ he => ?_)
  cases e with
  | ret r =>
    obtain ⟨hr, H', I', n', d'⟩ := he
    refine ⟨hr, fun h' hk hsz => ?_⟩
    have I2 := inv_gens (down I') (allBare_setGen (s := s₁) (g := gn) (x := .finished) I'.bare rfl)
    exact hd _ H' (I2.kept (t' := s₁.toks) hk) n' d'
  | susp u gd l k c' p fs =>
    obtain ⟨rfl, rfl, rfl, y, i', H', ry, I', st', n', q', rd⟩ := he
    refine ⟨rfl, fun hsz => ?_⟩
    have hsz1 : gn < s₁.gens.size := by
      have q : (s₁.setGen gn (End.susp u false l k (cLoop elt tg iter ifs scope pos it env) p []).genState).gens.size = s₁.gens.size := setGen_size _ _ _
      have hsz' : gn + 1 ≤ (s₁.setGen gn (End.susp u false l k (cLoop elt tg iter ifs scope pos it env) p []).genState).gens.size := hsz
      omega
    exact hy _ u y i' H' ry q' ⟨inv_gens (down I') (allBare_setGen I'.bare rfl), st', n', _, setGen_at hsz1, rd _⟩
end
end GX

namespace GX
open PySem PySem.Spec PyProof.Rows L2 GenW

/-! ### code objects and their tables -/
/-- a code object whose table stands at P -/
def CodeT (o : Obj) (c P : Addr) : HO := .frz o (.ext fun h => PySem.W.CodeHd h c P)
theorem CodeT.ok {prog : Program} {w : World} {H : Hp} {h : Heap} {c P : Addr} {o : Obj} (e : h.get? c = some o) (x : PySem.W.CodeHd h c P) : ObjOk prog w H h c (CodeT o c P) :=
  ⟨e, x, ⟨o, e⟩, fun _ _ ⟨o, vs, file, tf, flags, tg, inF, text, tt, e, r⟩ k => ⟨o, vs, file, tf, flags, tg, inF, text, tt, k _ e, r⟩⟩
theorem CodeT.hd {prog : Program} {w : World} {H : Hp} {h : Heap} {c P : Addr} {o : Obj} (hok : HOk prog w H h) (e : H c = some (CodeT o c P)) : PySem.W.CodeHd h c P := (hok c _ e).2.1
theorem CodeHd.uniq {h : Heap} {c P P' : Addr} (a : PySem.W.CodeHd h c P) (b : PySem.W.CodeHd h c P') : P = P' := by
  obtain ⟨o, vs, _, _, _, _, _, _, _, e1, _, e3, e4, _⟩ := a
  obtain ⟨o', vs', _, _, _, _, _, _, _, f1, _, f3, f4, _⟩ := b
  rw [e1] at f1; cases f1
  rw [e3] at f3; cases f3
  rw [e4] at f4; cases f4
  rfl
/-- a table and the tables of the code objects in it -/
inductive Tab (H : Hp) : Addr → Prop
  | mk (P : Addr) (ps : Array Value) (f : Pos → Addr × Addr) (hP : H P = some (.tbl ps)) (ht : TriplesOk ps.toList)
      (h1 : ∀ pos v, codeAmong pos ps.toList = some v → v = .ref (f pos).1 ∧ ∃ o, H (f pos).1 = some (CodeT o (f pos).1 (f pos).2)) (h2 : ∀ pos, (codeAmong pos ps.toList).isSome = true → Tab H (f pos).2) : Tab H P
/-- what a table leans on -/
def Tabby : HO → Prop
  | .tbl _ => True
  | .frz _ (.ext _) => True
  | _ => False
theorem Tab.keep {H H' : Hp} {P : Addr} (t : Tab H P) (k : ∀ a o, H a = some o → Tabby o → H' a = some o) : Tab H' P := by
  induction t with
  | mk P ps f hP ht h1 h2 ih => exact .mk P ps f (k _ _ hP trivial) ht (fun pos v e => let ⟨z1, o, z2⟩ := h1 pos v e; ⟨z1, o, k _ _ z2 trivial⟩) ih
theorem Tab.upd {H : Hp} {P p : Addr} {o : HO} (t : Tab H P) (h : ∀ u, H p = some u → ¬ Tabby u) : Tab (upd H p o) P :=
  t.keep fun a u e z => by
    rw [upd_ne (fun q => by rw [q] at e; exact h u e z)]
    exact e
theorem Tab.at {H : Hp} {P : Addr} (t : Tab H P) : ∃ ps, H P = some (.tbl ps) ∧ TriplesOk ps.toList := by
  cases t with
  | mk _ ps f hP ht h1 h2 => exact ⟨ps, hP, ht⟩
theorem codeAmong_app {pos pos0 : Pos} {c : Value} (l : List Value) (h : TriplesOk l) :
    codeAmong pos (l ++ [rawInt pos0.line, rawInt pos0.col, c]) = match codeAmong pos l with
      | some v => some v
      | none => codeAmong pos [rawInt pos0.line, rawInt pos0.col, c] := by
  fun_induction TriplesOk l with
  | case1 => rfl
  | case2 a t b u x rest ih =>
    simp only [List.cons_append, codeAmong]
    split
    · rfl
    · exact ih h
  | case3 l h1 h2 => exact h.elim
theorem codeAmong_more {pos : Pos} {v : Value} (l r : List Value) (h : codeAmong pos l = some v) : codeAmong pos (l ++ r) = some v := by
  fun_induction codeAmong pos l with
  | case1 line t1 col t2 c rest hc => simp only [List.cons_append, codeAmong, hc, if_true]; exact h
  | case2 line t1 col t2 c rest hc ih =>
    simp only [List.cons_append, codeAmong]
    rw [if_neg hc]
    exact ih h
  | case3 => cases h
theorem Tab.add {H H' : Hp} {P0 c1 P1 : Addr} {ps0 : Array Value} {pos0 : Pos} (hP : H P0 = some (.tbl ps0)) (ht : TriplesOk ps0.toList) (hn : codeAmong pos0 ps0.toList = none)
    (h1 : H' P0 = some (.tbl (ps0 ++ #[rawInt pos0.line, rawInt pos0.col, .ref c1]))) {o1 : Obj} (h2 : H' c1 = some (CodeT o1 c1 P1)) (h3 : H' P1 = some (.tbl #[])) (k : ∀ a o, a ≠ P0 → H a = some o → H' a = some o) {P : Addr} (t : Tab H P) : Tab H' P := by
  have t1 : Tab H' P1 := .mk P1 #[] (fun _ => (0, 0)) h3 (by simp [TriplesOk]) (fun pos v e => by simp [codeAmong] at e) fun pos e => by simp [codeAmong] at e
  induction t with
  | mk P ps f hQ hq g1 g2 ih =>
    by_cases hp : P = P0
    · subst hp
      rw [hP] at hQ
      cases hQ
      refine .mk P _ (fun pos => if (codeAmong pos ps0.toList).isSome = true then f pos else (c1, P1)) h1 (by simpa using TriplesOk_snoc _ _ _ _ ht) (fun pos v e => ?_) (fun pos e => ?_)
      · have e' : codeAmong pos (ps0.toList ++ [rawInt pos0.line, rawInt pos0.col, .ref c1]) = some v := by simpa using e
        rw [codeAmong_app _ ht] at e'
        cases q : codeAmong pos ps0.toList with
        | none =>
          rw [q] at e'
          simp only [Option.isSome_none, Bool.false_eq_true, if_false]
          have e2 : codeAmong pos [rawInt pos0.line, rawInt pos0.col, .ref c1] = some v := e'
          simp only [codeAmong, rawInt] at e2
          split at e2
          · cases e2; exact ⟨rfl, o1, h2⟩
          · cases e2
        | some v' =>
          rw [q] at e'
          cases e'
          simp only [Option.isSome_some, if_true]
          obtain ⟨z1, o, z2⟩ := g1 pos _ q
          refine ⟨z1, o, k _ _ (fun z => ?_) z2⟩
          rw [z, hP] at z2
          cases z2
      · show Tab H' (if (codeAmong pos ps0.toList).isSome = true then f pos else (c1, P1)).2
        by_cases q : (codeAmong pos ps0.toList).isSome = true
        · rw [if_pos q]; exact ih pos q
        · rw [if_neg q]; exact t1
    · refine .mk P ps f (k _ _ hp hQ) hq (fun pos v e => ?_) ih
      obtain ⟨z1, o, z2⟩ := g1 pos v e
      refine ⟨z1, o, k _ _ (fun z => ?_) z2⟩
      rw [z, hP] at z2
      cases z2
/-- the running code's object and its table, wherever it runs -/
def CodeUse (T : Addr → Prop) (X : Cx) : Prop := ∃ c P, X.env.code = .ref c ∧ P ≠ mainGlobals ∧ X.base.BuiltinsAt X.mg P ∧
  ∀ pins σ H s, Inv X pins σ H s → (∀ P, T P → Tab H P) → PySem.W.CodeHd s.heap c P ∧ Tab H P
theorem codeUse_base {T : Addr → Prop} {X : Cx} {c P : Addr} (TB : GxR.TabB X.base X.mg c P) (hc : X.env.code = .ref c) (hT : T P) : CodeUse T X :=
  ⟨c, P, hc, TB.gP.symm, TB.bm, fun pins σ H s I hh => ⟨TB.code.keeps fun b u e => I.bk b u e, hh P hT⟩⟩
/-- P of every context of the expression's own frame -/
abbrev InGen (X : Cx) (T : Addr → Prop) (scope : Scope) (k : Nat) (P : Cx → Prop) : Prop :=
  ∀ (A : Around) (s : Shared) (H : Hp) (cl : List (Str × Addr)) (C : Addr) (code : Value) (bi : Addr) (fp : List Addr), Room k A → CodeUse T (gcx X A s H (genEnv scope cl C code bi X.env) fp) → P (gcx X A s H (genEnv scope cl C code bi X.env) fp)
section
variable {X : Cx} {pins : List (Addr × Obj)} {σ : L2.St} {H : Hp} {s : Shared} {T : Addr → Prop}
theorem inv_tab' {P : Addr} {ps more : Array Value} {h' : Heap} {t' : Nat} (I : Inv X pins σ H s) (hP : H P = some (.tbl ps)) (k : Heap.ExtBut P s.heap h')
    (hm : h'.get? P = some { cls := .none, data := .fields (ps ++ more) }) : Inv X pins σ (upd H P (.tbl (ps ++ more))) { s with heap := h', toks := t' } :=
  GxR.inv_tab (g' := s.gens) (d' := s.drawn) I hP k hm I.bare
theorem fpOk_upd {b p : Addr} {o : HO} (h : b ≠ p) (f : FpOk X pins H b) : FpOk X pins (upd H p o) b := ⟨by rw [upd_ne h]; exact f.1, f.2⟩
/-- what comes behind the making -/
structure Made (X : Cx) (pins : List (Addr × Obj)) (σ : L2.St) (T : Addr → Prop) (H1 : Hp) (elt tg iter : Expr) (ifs : List Expr) (scope : Scope) (pos : Pos) (vs : List Nat) (J : It) (a : Addr) (s' : Shared) (H2 : Hp) (s0 : Shared) (env : Env) (fp : List Addr) (g : Nat) (go : Obj) (tn : Nat → Heap → Prop) (it : Addr) : Prop where
  turn : Turn X.prog X.w X.K tg J fp it tn
  goOk : GoOk go g
  inv : Inv X pins σ H2 s0
  fpOk : ∀ b ∈ fp, FpOk X pins H2 b ∧ b < s0.heap.objs.size
  afp : a ∉ fp
  a0 : s0.heap.objs.size ≤ a
  a1 : a < s'.heap.objs.size
  asleep : Asleep X s0 H2 (cLoop elt tg iter ifs scope pos it env) env fp a g go [] (wipe σ vs) tn 0 H2 s'
  env_eq : ∃ cl C code bi, env = genEnv scope cl C code bi X.env
  locals : s0.heap.objs.size = env.locals
  kp : ∀ b o, H1 b = some o → (∀ ps, o ≠ .tbl ps) → H2 b = some o
  tbl : ∀ b ps, H1 b = some (.tbl ps) → ∃ more, H2 b = some (.tbl (ps ++ more))
  tab : ∀ P, T P → Tab H2 P
  use : ∀ A, CodeUse T (gcx X A s0 H2 env fp)
theorem gen_make {elt tg iter : Expr} {ifs : List Expr} {scope : Scope} {own : List (Str × Nat)} {pos : Pos} {wi : TI} {R : It → Hp → Prop} {Q : Value → Shared → Prop}
    (hroom : X.A.depth < recursionLimit) (hc : X.calm = true) (hN : X.N.Nodup) (cu : CodeUse T X) (ok : GenOk X.N X.env.scope scope own) (hi : PI X tg iter wi)
    (hs : ∀ v, genFold iter X.env v = pure v) (I : Inv X pins σ H s) (h : wi σ H fun J H1 => (∀ P, T P → Tab H1 P) ∧ R J H1)
    (hQ : ∀ J H1 a s' H2 s0 env fp g go tn it, R J H1 → Made X pins σ T H1 elt tg iter ifs scope pos (own.map (·.2)) J a s' H2 s0 env fp g go tn it → Q (.ref a) s') :
    wpAny (model X.prog X.w) X.A (eval (.GeneratorExp elt [⟨tg, iter, ifs, 0⟩] scope pos) X.env) Q X.xe s := by
  have hfree : ∀ y ∈ scope.names, y.2 = .free → ∃ c, X.env.cells.lookup y.1 = some c := fun y hy e => by
    rcases ok.free y hy e with k | k
    · exact I.ok.has _ (.inl k)
    · exact I.ok.has _ (.inr k)
  refine wpAny_GeneratorExp_make ok.co (closure_ok hfree) ok.nocell ok.dot ok.kind hroom ?_ hs
  refine thn (hi.run pins s σ H _ I h) fun xv s1 h1 => thn h1 fun itv s2 h2 => ?_
  obtain ⟨it, fp, tn, J, H2, rfl, I2, T2, st2, f2, htab, q⟩ := h2
  obtain ⟨c, P, hcode, hPg, bm, cuse⟩ := id cu
  obtain ⟨cd, tP⟩ := cuse pins σ H2 s2 I2 htab
  obtain ⟨ps, hP, ht⟩ := tP.at
  have hPs : s2.heap.get? P = some { cls := .none, data := .fields ps } := I2.hok P _ hP
  refine ⟨I2.nolimit, ?_⟩
  -- behind the code object
  have cont : ∀ (c' P' : Addr) (h3 : Heap) (tk : Nat) (H3 : Hp), Inv X pins σ H3 { s2 with heap := h3, toks := tk } → Heap.ExtBut P s2.heap h3 → (∀ b o, H2 b = some o → (∀ ps, o ≠ .tbl ps) → H3 b = some o) → (∀ b ps, H2 b = some (.tbl ps) → ∃ more, H3 b = some (.tbl (ps ++ more))) →
      (∀ b ∈ fp, H3 b = none) → (∀ Q, T Q → Tab H3 Q) → (∀ ps', H3 P = some (.tbl ps') → codeAmong pos ps'.toList = some (.ref c')) → (∃ o, H3 c' = some (CodeT o c' P')) → P' ≠ mainGlobals ∧ X.base.BuiltinsAt X.mg P' → s2.heap.objs.size ≤ h3.objs.size →
      wpAny (model X.prog X.w) X.A (builtinsFor X.env.globals X.env.builtins) (fun bi s₄ =>
        ∀ h', h'.Ns s₄.heap.objs.size (fun y => if y = ".0" then some (Value.ref it) else none) → Heap.SameBut s₄.heap.objs.size (s₄.heap.push { cls := .type "frame", data := .dict #[] }) h' →
          Q (.ref h'.objs.size) { s₄ with
            gens := s₄.gens.push (.fresh (.compStart (.GeneratorExp elt [⟨tg, iter, ifs, 0⟩] scope pos) 0 (.ref it) .none (genEnv scope (cloFrom X.env.cells scope.names []) s₄.heap.objs.size (.ref c') bi X.env))),
            toks := s₄.toks + 1 + 1 + 1,
            heap := h'.push { cls := .type "generator", data := .fields #[.int s₄.gens.size 0, .str "<genexpr>" (s₄.toks + 1), .str (X.env.qual ++ "<genexpr>") (s₄.toks + 1 + 1)] } }) X.xe { s2 with heap := h3, toks := tk } := by
    intro c' P' h3 tk H3 I3 hx kp3 tb3 fn3 tab3 hcin hc' hP' hsz
    obtain ⟨bm', ob, e1, e2, e3, e4, e5, e6, e7, e8⟩ := id bm
    refine wpAny_builtinsFor (m := X.mg) (by rw [I2.ok.glob]; exact (I2.mod.glob.keeps I2.bk).extBut hx hPg.symm) e1 e2 (hx _ _ e4 (I2.bk _ _ e5)) e6 e7 e8 ?_
    intro h' hn' hs'
    generalize hs3 : ({ s2 with heap := h3, toks := tk } : Shared) = s3 at I3 hn' hs' ⊢
    have hh3 : s3.heap = h3 := by rw [← hs3]
    have hsz' : h'.objs.size = s3.heap.objs.size + 1 := by rw [hs'.1, Heap.size_push]
    have keep' : ∀ b o, s3.heap.get? b = some o → h'.get? b = some o := fun b o e => hs'.extBut b o (Nat.ne_of_lt (Heap.lt_size e)) (Heap.get?_push_of_some _ e)
    have fplt : ∀ b ∈ fp, b < s3.heap.objs.size := fun b hb => by
      obtain ⟨o, e, _⟩ := T2.obj _ _ st2 b hb
      rw [hh3]
      exact Nat.lt_of_lt_of_le (Heap.lt_size e) hsz
    have st3 : tn 0 s3.heap := T2.keep _ _ _ st2 fun b hb o e => by
      rw [hh3]
      refine hx b o (fun z => ?_) e
      have := (f2 b hb).1
      rw [z, hP] at this
      cases this
    have f3 : ∀ b ∈ fp, FpOk X pins H3 b ∧ b < s3.heap.objs.size := fun b hb => ⟨⟨fn3 b hb, (f2 b hb).2⟩, fplt b hb⟩
    let go : Obj := { cls := .type "generator", data := .fields #[.int s3.gens.size 0, .str "<genexpr>" (s3.toks + 1), .str (X.env.qual ++ "<genexpr>") (s3.toks + 1 + 1)] }
    let env := genEnv scope (cloFrom X.env.cells scope.names []) s3.heap.objs.size (.ref c') builtinsNs X.env
    have kp5 : ∀ b o, s3.heap.get? b = some o → (h'.push go).get? b = some o := fun b o e => Heap.get?_push_of_some _ (keep' b o e)
    have I5 := gen_start (A := ⟨none, 0, some (env :: X.stack), none, 1⟩) (code := .ref c') (itv := .ref it) I3 ok hN rfl rfl f3
      (s' := { s3 with gens := s3.gens.push (.fresh (.compStart (.GeneratorExp elt [⟨tg, iter, ifs, 0⟩] scope pos) 0 (.ref it) .none env)), toks := s3.toks + 1 + 1 + 1, heap := h'.push go }) rfl (AllBare.push I3.bare rfl) kp5 (hn'.push _)
    have hane : ∀ b, b < s3.heap.objs.size → b ≠ h'.objs.size := fun b hb => by omega
    have hnew : ∀ b, s3.heap.objs.size ≤ b → H3 b = none := fun b hb => I3.hok.fresh hb
    refine hQ J H2 _ _ H3 s3 env fp s3.gens.size go tn it q ⟨T2, ⟨_, _, rfl, rfl, rfl⟩, I3, f3, fun hb => hane _ (fplt _ hb) rfl, by rw [hsz']; exact Nat.le_succ _, by show h'.objs.size < (h'.push go).objs.size; rw [Heap.size_push]; exact Nat.lt_succ_self _,
      ⟨I5.pins_of fun p hp => ?_, T2.keep _ _ _ st3 fun b _ o e => kp5 b o e, fn3, ⟨_, Array.getElem?_push_size .., ready_fresh T2⟩⟩, ⟨_, _, _, _, rfl⟩, rfl, kp3, tb3, tab3, fun A => ?_⟩
    · rw [List.mem_singleton.mp hp]
      refine ⟨Heap.get?_push_size _ rfl, hnew _ (by rw [hsz']; exact Nat.le_succ _), ?_, ?_, fun v e => (by cases e)⟩
      · show h'.objs.size ≠ s3.heap.objs.size
        omega
      · intro hb
        rcases List.mem_cons.mp (I3.stkSub _ hb) with z | z
        · have := I3.lt
          have z : h'.objs.size = X.env.locals := z
          rw [← z] at this
          exact absurd (Nat.lt_of_lt_of_le this (by rw [hsz']; exact Nat.le_succ _)) (Nat.lt_irrefl _)
        · exact I3.nofs (a := h'.objs.size) (by rw [hsz']; exact Nat.le_succ _) z
    · refine ⟨c', P', rfl, hP'.1, hP'.2, fun pins' σ' H' s' I' hT' => ?_⟩
      have IX : Inv X pins σ H' s' := I3.call' (ch := fp) I'.os I'.base I'.hok I'.bare fun b hb => ⟨(f3 b hb).1.2.2.2.1, (f3 b hb).1.2.1, (f3 b hb).1.2.2.2.2.1, (f3 b hb).1.2.2.2.2.2⟩
      obtain ⟨_, tP'⟩ := cuse pins σ H' s' IX hT'
      obtain ⟨oc, hc'⟩ := hc'
      have hcH : H' c' = some (CodeT oc c' P') := I'.base.frzs c' _ _ hc'
      have hd' := CodeT.hd I'.hok hcH
      refine ⟨hd', ?_⟩
      obtain ⟨more, hp'⟩ := tb3 P ps hP
      have hin := hcin _ hp'
      obtain ⟨more2, hp2⟩ := I'.base.tbls P _ hp'
      cases tP' with
      | mk _ ps2 f g0 g1 g2 g3 =>
        rw [hp2] at g0
        cases g0
        have hin2 : codeAmong pos ((ps ++ more) ++ more2).toList = some (.ref c') := by
          have := codeAmong_more _ more2.toList hin
          simpa using this
        obtain ⟨z1, o2, z2⟩ := g2 pos _ hin2
        have z3 := g3 pos (by rw [hin2]; rfl)
        injection z1 with z1
        rw [← z1] at z2
        have hd2 := CodeT.hd I'.hok z2
        rw [CodeHd.uniq hd' hd2]
        exact z3
  have hbase : ∀ b o, X.base.get? b = some o → H2 b = none := fun b o e => (I2.bs b o e).2
  have mgo : ∃ o, X.base.get? mainGlobals = some o := let ⟨o, _, _, e, _⟩ := I2.mod.glob; ⟨o, e⟩
  have bmP : ∀ P', (∀ b o, X.base.get? b = some o → b ≠ P') → P' ≠ mainGlobals ∧ X.base.BuiltinsAt X.mg P' := fun P' hb => by
    obtain ⟨o, e⟩ := mgo
    obtain ⟨bm', ob, e1, e2, e3, e4, e5, e6, e7, e8⟩ := bm
    exact ⟨(hb _ o e).symm, bm', ob, e1, e2, e3, hb _ _ e5, e5, e6, e7, e8⟩
  cases hf : codeAmong pos ps.toList with
  | some cv =>
    refine wpAny_genexprCode_hit hcode (cd.code hPs ht) hf ?_
    cases tP with
    | mk _ ps2 f g0 g1 g2 g3 =>
      rw [hP] at g0
      cases g0
      obtain ⟨rfl, o2, z2⟩ := g2 pos _ hf
      have t3 := g3 pos (by rw [hf]; rfl)
      obtain ⟨psn, hpn, _⟩ := t3.at
      exact cont (f pos).1 (f pos).2 s2.heap s2.toks H2 I2 (Heap.ExtBut.refl _ _) (fun _ _ e _ => e) (fun b ps e => ⟨#[], by rw [e]; simp⟩) (fun b hb => (f2 b hb).1) htab (fun ps' e => by rw [hP] at e; cases e; exact hf) ⟨o2, z2⟩
        (bmP _ fun b o e z => by rw [← z, hbase b o e] at hpn; cases hpn) (Nat.le_refl _)
  | none =>
    refine wpAny_genexprCodeX hcode (cd.code hPs ht) (cd.tab hPs) hf fun c' h' tk hx hge hlt hco' _ htab' hnew => ?_
    obtain ⟨P', hP'ge, hcP', htP'⟩ := hnew
    obtain ⟨o1, vs, f1, tf, fl, tg', inF, tx, tt', op, _, _, _, _, _, _, _, _, _, htr, _⟩ := hco'
    have hPlt : P < s2.heap.objs.size := Heap.lt_size hPs
    have hcd' := PySem.W.CodeHd.of hcP' htP'
    obtain ⟨⟨oc, vc, hoc, hcc, hdc, h11c⟩, htPo⟩ := id htP'
    have hcP : c' ≠ P := Nat.ne_of_gt (Nat.lt_of_lt_of_le hPlt hge)
    have hP'P : P' ≠ P := Nat.ne_of_gt (Nat.lt_of_lt_of_le hPlt hP'ge)
    have hc'P' : c' ≠ P' := fun z => by rw [z, htPo] at hoc; cases hoc; cases hcc
    have J1 := inv_tab' (t' := tk) I2 hP hx htab'.2
    have J2 : Inv X pins σ (upd (upd H2 P (.tbl (ps ++ #[rawInt pos.line, rawInt pos.col, .ref c']))) c' (CodeT oc c' P')) { s2 with heap := h', toks := tk } :=
      Inv.take (s := { s2 with heap := h', toks := tk }) (h' := h') (t' := tk) J1 (fun b o _ e => e) (fpOk_upd hcP (I2.fpOk hge (I2.hok.fresh hge))) (CodeT.ok hoc hcd')
    have J3 : Inv X pins σ (upd (upd (upd H2 P (.tbl (ps ++ #[rawInt pos.line, rawInt pos.col, .ref c']))) c' (CodeT oc c' P')) P' (.tbl #[])) { s2 with heap := h', toks := tk } :=
      Inv.take (s := { s2 with heap := h', toks := tk }) (h' := h') (t' := tk) J2 (fun b o _ e => e) (fpOk_upd hc'P'.symm (fpOk_upd hP'P (I2.fpOk hP'ge (I2.hok.fresh hP'ge)))) htPo
    have hn1 : H2 c' = none := I2.hok.fresh hge
    have hn2 : H2 P' = none := I2.hok.fresh hP'ge
    have oth : ∀ b o, b ≠ P → H2 b = some o → upd (upd (upd H2 P (.tbl (ps ++ #[rawInt pos.line, rawInt pos.col, .ref c']))) c' (CodeT oc c' P')) P' (.tbl #[]) b = some o := fun b o hb e => by
      rw [upd_ne (ne_of_none e hn2), upd_ne (ne_of_none e hn1), upd_ne hb]
      exact e
    have eP : upd (upd (upd H2 P (.tbl (ps ++ #[rawInt pos.line, rawInt pos.col, .ref c']))) c' (CodeT oc c' P')) P' (.tbl #[]) P = some (.tbl (ps ++ #[rawInt pos.line, rawInt pos.col, .ref c'])) := by
      rw [upd_ne hP'P.symm, upd_ne hcP.symm, upd_same]
    have ec : upd (upd (upd H2 P (.tbl (ps ++ #[rawInt pos.line, rawInt pos.col, .ref c']))) c' (CodeT oc c' P')) P' (.tbl #[]) c' = some (CodeT oc c' P') := by
      rw [upd_ne hc'P', upd_same]
    refine cont c' P' h' tk _ J3 hx (fun b o e n => oth b o (fun z => by rw [z, hP] at e; cases e; exact n _ rfl) e) (fun b ps2 e => ?_) (fun b hb => ?_) (fun Q hQ => Tab.add hP ht hf eP ec upd_same oth (htab Q hQ))
      (fun ps' e => by rw [eP] at e; cases e; rw [show (ps ++ #[rawInt pos.line, rawInt pos.col, Value.ref c']).toList = ps.toList ++ [rawInt pos.line, rawInt pos.col, .ref c'] from by simp]; exact codeAmong_snoc _ ht hf) ⟨oc, ec⟩
      (bmP _ fun b o e z => absurd (Nat.lt_of_lt_of_le (Heap.lt_size e) (Nat.le_trans I2.ok.bsz (Nat.le_trans I2.sz hP'ge))) (by rw [z]; exact Nat.lt_irrefl _)) (Nat.le_trans hge (Nat.le_of_lt hlt))
    · by_cases hb : b = P
      · subst hb
        rw [hP] at e
        cases e
        exact ⟨_, eP⟩
      · exact ⟨#[], by rw [oth b _ hb e]; simp⟩
    · obtain ⟨o, eo, _⟩ := T2.obj _ _ st2 b hb
      have hlt2 := Heap.lt_size eo
      rw [upd_ne (Nat.ne_of_lt (Nat.lt_of_lt_of_le hlt2 hP'ge)), upd_ne (Nat.ne_of_lt (Nat.lt_of_lt_of_le hlt2 hge)), upd_ne (fun z => by
        have := (f2 b hb).1
        rw [z, hP] at this
        cases this)]
      exact (f2 b hb).1
end
end GX

namespace GX
open PySem PySem.Spec PyProof.Rows L2 GenW

/-! ### the loops of what uses a generator up -/
section
variable {prog : Program} {w : World} {A : Around} {R : Result → Shared → Prop} {a : Addr}
theorem all_loop (Sl : Nat → Shared → Prop) (turn : ∀ m s, Sl m s → wpAny (model prog w) A.in1 (pyNext (.ref a)) (fun o s' => match o with
      | none => R (.ok (.ret (.bool true))) s'
      | some v => ∃ b, v = .bool b ∧ if b = true then ∃ m', m' < m ∧ Sl m' s' else R (.ok (.ret (.bool false))) s') (fun e s' => R (.error e) s') s) :
    ∀ m s, Sl m s → codeAny (model prog w) A (.builtin "all.loop" ⟨[.ref a], []⟩) R s := by
  intro m
  induction m using Nat.strongRecOn with
  | ind m ih =>
    intro s hs
    refine codeAny_builtin F.entry_all_loop ?_
    rw [Around.under_plainId F.plain_all_loop _]
    show wpAny _ A.in1 (pyNext (.ref a) >>= _) _ _ s
    refine wpAny_bind (wpAny_mono (turn m s hs) (fun o s' h => ?_) fun _ _ e => e)
    cases o with
    | none => exact wpAny_bind (wpAny_rule (wpAny_pure h))
    | some v =>
      obtain ⟨b, rfl, h⟩ := h
      refine wpAny_bind (wpAny_holding (wpAny_truthy_bool ?_))
      refine wpAny_bind (wpAny_letGo ?_)
      cases b with
      | true =>
        simp only [if_true] at h ⊢
        obtain ⟨m', hm, q⟩ := h
        exact wpAny_pure ⟨plainId_quiet F.plain_all_loop _, ih m' hm s' q⟩
      | false =>
        simp only [Bool.false_eq_true, if_false] at h ⊢
        exact wpAny_bind (wpAny_rule (wpAny_pure h))
theorem any_loop (Sl : Nat → Shared → Prop) (turn : ∀ m s, Sl m s → wpAny (model prog w) A.in1 (pyNext (.ref a)) (fun o s' => match o with
      | none => R (.ok (.ret (.bool false))) s'
      | some v => ∃ b, v = .bool b ∧ if b = true then R (.ok (.ret (.bool true))) s' else ∃ m', m' < m ∧ Sl m' s') (fun e s' => R (.error e) s') s) :
    ∀ m s, Sl m s → codeAny (model prog w) A (.builtin "any.loop" ⟨[.ref a], []⟩) R s := by
  intro m
  induction m using Nat.strongRecOn with
  | ind m ih =>
    intro s hs
    refine codeAny_builtin F.entry_any_loop ?_
    rw [Around.under_plainId F.plain_any_loop _]
    show wpAny _ A.in1 (pyNext (.ref a) >>= _) _ _ s
    refine wpAny_bind (wpAny_mono (turn m s hs) (fun o s' h => ?_) fun _ _ e => e)
    cases o with
    | none => exact wpAny_bind (wpAny_rule (wpAny_pure h))
    | some v =>
      obtain ⟨b, rfl, h⟩ := h
      refine wpAny_bind (wpAny_holding (wpAny_truthy_bool ?_))
      refine wpAny_bind (wpAny_letGo ?_)
      cases b with
      | false =>
        simp only [Bool.false_eq_true, if_false] at h ⊢
        obtain ⟨m', hm, q⟩ := h
        exact wpAny_pure ⟨plainId_quiet F.plain_any_loop _, ih m' hm s' q⟩
      | true =>
        simp only [if_true] at h ⊢
        exact wpAny_bind (wpAny_rule (wpAny_pure h))
/-- the list that a consumer fills -/
abbrev lstO (acc : Array Value) (c : Nat) : Obj := { cls := .type "list", dict := none, data := .seq acc c, slots := #[] }
/-- the consumer has put its own object at S anew; all else is kept -/
structure Anew (S : Addr) (o : Obj) (s s' : Shared) : Prop where
  os : s'.os = s.os
  gens : s'.gens = s.gens
  keep : ∀ b u, b ≠ S → s.heap.get? b = some u → s'.heap.get? b = some u
  own : s'.heap.get? S = some o
theorem extend_loop {S : Addr} {res : Value} (Sl : Nat → Array Value → Nat → Shared → Prop)
    (turn : ∀ m acc c s, Sl m acc c s → wpAny (model prog w) A.in1 (pyNext (.ref a)) (fun o s' => match o with
      | none => R (.ok (.ret res)) s'
      | some v => s'.heap.get? S = some (lstO acc c) ∧ acc.size < sizeLine ∧ ∀ s'' c', Anew S (lstO (acc.push v) c') s' s'' → ∃ m', m' < m ∧ Sl m' (acc.push v) c' s'') (fun e s' => R (.error e) s') s) :
    ∀ m acc c s, Sl m acc c s → codeAny (model prog w) A (.builtin "list.extend.loop" ⟨[.ref S, .ref a, res], []⟩) R s := by
  intro m
  induction m using Nat.strongRecOn with
  | ind m ih =>
    intro acc c s hs
    refine codeAny_builtin F.entry_extend_loop ?_
    rw [Around.under_plainId F.plain_extend_loop _]
    show wpAny _ A.in1 (pyNext (.ref a) >>= _) _ _ s
    refine wpAny_bind (wpAny_mono (turn m acc c s hs) (fun o s' h => ?_) fun _ _ e => e)
    cases o with
    | none => exact wpAny_pure h
    | some v =>
      obtain ⟨h1, hz, h2⟩ := h
      show wpAny _ A.in1 (updateSeq S (·.push v) >>= _) _ _ _
      refine wpAny_bind ?_
      have hS' := Heap.get?_update_self (Obj.mapSeq (·.push v)) h1 rfl
      refine wpAny_updateSeq h1 rfl (wpAny_pure ⟨plainId_quiet F.plain_extend_loop _, ?_⟩) (Nat.le_of_lt hz) (by show (acc.push v).size ≤ sizeLine + 1; rw [Array.size_push]; omega)
      obtain ⟨m', hm, q⟩ := h2 { s' with heap := s'.heap.update S (Obj.mapSeq (·.push v)) } _ ⟨rfl, rfl, fun b u hb e => (Heap.get?_update_other _ _ (Ne.symm hb)).trans e, hS'⟩
      exact ih m' hm _ _ _ q
end
section
variable {prog : Program} {w : World} {A : Around} {E : Value → Shared → Prop} {s : Shared} {a : Addr} {g : Nat} {Q : Value → Shared → Prop}
theorem call_all1 (hg : s.heap.IsGen a g) (Sl : Nat → Shared → Prop) (turn : ∀ m s, Sl m s → wpAny (model prog w) A.in1 (pyNext (.ref a)) (fun o s' => match o with
      | none => Q (.bool true) s'
      | some v => ∃ b, v = .bool b ∧ if b = true then ∃ m', m' < m ∧ Sl m' s' else Q (.bool false) s') E s) (m : Nat) (hs : Sl m s) :
    wpAny (model prog w) A (call (.builtin "all") [.ref a]) Q E s := by
  refine call_function_tree F.kind_all F.plain_all F.entry_all (F.args_all1 _) ?_
  unfold Builtin.«all»
  refine wpAny_bind (m := oneArg "all" _) (wpAny_pure ?_)
  refine wpAny_bind (wpAny_pyIter_gen hg ?_)
  exact wpAny_pure ⟨plainId_quiet F.plain_all_loop _, all_loop Sl turn m s hs⟩
theorem call_any1 (hg : s.heap.IsGen a g) (Sl : Nat → Shared → Prop) (turn : ∀ m s, Sl m s → wpAny (model prog w) A.in1 (pyNext (.ref a)) (fun o s' => match o with
      | none => Q (.bool false) s'
      | some v => ∃ b, v = .bool b ∧ if b = true then Q (.bool true) s' else ∃ m', m' < m ∧ Sl m' s') E s) (m : Nat) (hs : Sl m s) :
    wpAny (model prog w) A (call (.builtin "any") [.ref a]) Q E s := by
  refine call_function_tree F.kind_any F.plain_any F.entry_any (F.args_any1 _) ?_
  unfold Builtin.«any»
  refine wpAny_bind (m := oneArg "any" _) (wpAny_pure ?_)
  refine wpAny_bind (wpAny_pyIter_gen hg ?_)
  exact wpAny_pure ⟨plainId_quiet F.plain_any_loop _, any_loop Sl turn m s hs⟩
theorem collect_gen1 {Q : List Value → Shared → Prop} (hg : s.heap.IsGen a g) (Sl : Nat → Array Value → Nat → Shared → Prop)
    (start : ∀ s' c, Anew s.heap.objs.size (lstO #[] c) s s' → ∃ m, Sl m #[] c s')
    (turn : ∀ m acc c s1, Sl m acc c s1 → wpAny (model prog w) A.in1 (pyNext (.ref a)) (fun o s' => match o with
      | none => s'.heap.get? s.heap.objs.size = some (lstO acc c) ∧ Q acc.toList s'
      | some v => s'.heap.get? s.heap.objs.size = some (lstO acc c) ∧ acc.size < sizeLine ∧ ∀ s'' c', Anew s.heap.objs.size (lstO (acc.push v) c') s' s'' → ∃ m', m' < m ∧ Sl m' (acc.push v) c' s'') E s1) :
    wpAny (model prog w) A (collect (.ref a)) Q E s := by
  have hlt : a < s.heap.objs.size := let ⟨o, _, _, e, _⟩ := hg; Heap.lt_size e
  have hSI : s.heap.objs.size ≠ a := Nat.ne_of_gt hlt
  unfold collect
  refine wpAny_bind (wpAny_runValue (codeAny_builtin F.entry_proto_collect ?_))
  rw [Around.under_plainId F.plain_proto_collect _]
  show wpAny _ A.in1 (newList [] >>= fun l => again (.builtin "list.__iadd__" ⟨[l, .ref a], []⟩)) _ _ s
  refine wpAny_bind (wpAny_newObj_type ?_)
  refine wpAny_pure ⟨plainId_quiet F.plain_list_iadd _, codeAny_builtin F.entry_list_iadd ?_⟩
  rw [Around.under_plainId F.plain_list_iadd _]
  have hg1 : (s.heap.push { cls := .type "list", data := .seq ([] : List Value).toArray }).IsGen a g := hg.push _
  show wpAny _ A.in1 (Builtin.List.listExtendWith (.ref s.heap.objs.size) (.ref a) (.ref s.heap.objs.size)) _ _ _
  unfold Builtin.List.listExtendWith
  refine wpAny_bind (wpAny_typeOf (Heap.IsGen.typeIs (s := { s with heap := _ }) hg1) ?_)
  have h1 : Builtin.List.listSameRef (.ref s.heap.objs.size) (.ref a) = false := by simp [Builtin.List.listSameRef, hSI]
  have h2 : (Value.type "generator" == Value.type "list") = false := by decide
  have h3 : (Value.type "generator" == Value.type "tuple") = false := by decide
  simp only [h1, h2, h3, Bool.or_false, Bool.false_eq_true, if_false]
  refine wpAny_bind (wpAny_pyIter_gen (s := { s with heap := _ }) hg1 ?_)
  refine wpAny_bind (wpAny_holding ?_)
  unfold Builtin.List.listLengthHint
  refine wpAny_bind (wpAny_specialOf (Heap.IsGen.typeIs (s := { s with heap := _ }) hg1) F.gen_no_len ?_)
  show wpAny _ A.in1 (specialOf (Value.ref a) (Str.ofString "__length_hint__") >>= _) _ _ _
  refine wpAny_bind (wpAny_specialOf (Heap.IsGen.typeIs (s := { s with heap := _ }) hg1) F.gen_no_hint ?_)
  refine wpAny_pure ?_
  show wpAny _ A.in1 (rule "list.extend.makes-room" >>= fun _ => Builtin.List.listTouch (.ref s.heap.objs.size) >>= fun _ =>
    again (.builtin "list.extend.loop" ⟨[.ref s.heap.objs.size, .ref a, .ref s.heap.objs.size], []⟩)) _ _ _
  refine wpAny_bind (wpAny_rule ?_)
  have hS₁ : (s.heap.push { cls := .type "list", data := .seq ([] : List Value).toArray }).get? s.heap.objs.size = some { cls := .type "list", data := .seq ([] : List Value).toArray } := Heap.get?_push_size _ rfl
  refine wpAny_bind ?_
  show wpAny _ A.in1 (updateSeq s.heap.objs.size (·.push .none) >>= fun _ => updateSeq s.heap.objs.size (·.pop)) _ _ _
  refine wpAny_bind (wpAny_updateSeq hS₁ rfl ?_)
  have hS₂ := Heap.get?_update_self (Obj.mapSeq (·.push Value.none)) hS₁ rfl
  refine wpAny_updateSeq hS₂ rfl ?_
  have hS₃ := Heap.get?_update_self (Obj.mapSeq (·.pop)) hS₂ rfl
  have oth : ∀ b o, b ≠ s.heap.objs.size → s.heap.get? b = some o →
      (((s.heap.push { cls := .type "list", data := .seq ([] : List Value).toArray }).update s.heap.objs.size (Obj.mapSeq (·.push Value.none))).update s.heap.objs.size (Obj.mapSeq (·.pop))).get? b = some o :=
    fun b o hb e => (Heap.get?_update_other _ _ (Ne.symm hb)).trans ((Heap.get?_update_other _ _ (Ne.symm hb)).trans (Heap.get?_push_of_some _ e))
  obtain ⟨m, hs⟩ := start { s with heap := ((s.heap.push { cls := .type "list", data := .seq ([] : List Value).toArray }).update s.heap.objs.size (Obj.mapSeq (·.push Value.none))).update s.heap.objs.size (Obj.mapSeq (·.pop)) } _ ⟨rfl, rfl, oth, hS₃⟩
  refine wpAny_pure ⟨plainId_quiet F.plain_extend_loop _, extend_loop Sl (fun m acc c s1 q => wpAny_mono (turn m acc c s1 q) (fun o s' h => ?_) fun _ _ e => e) m #[] _ _ hs⟩
  cases o with
  | none =>
    obtain ⟨q1, q2⟩ := h
    show wpAny _ A (load s.heap.objs.size >>= _) _ _ s'
    exact wpAny_bind (wpAny_load q1 (wpAny_pure q2))
  | some v => exact h
theorem collect_gen2 {Q : List Value → Shared → Prop} {Dn : Array Value → Shared → Prop} (hg : s.heap.IsGen a g) (Sl : Nat → Array Value → Nat → Shared → Prop)
    (start : ∀ s' c, Anew s.heap.objs.size (lstO #[] c) s s' → ∃ m, Sl m #[] c s')
    (turn : ∀ m acc c s1, Sl m acc c s1 → wpAny (model prog w) A.in1 (pyNext (.ref a)) (fun o s' => match o with
      | none => s'.heap.get? s.heap.objs.size = some (lstO acc c) ∧ acc.size ≤ sizeLine ∧ Dn acc s'
      | some v => s'.heap.get? s.heap.objs.size = some (lstO acc c) ∧ acc.size < sizeLine ∧ ∀ s'' c', Anew s.heap.objs.size (lstO (acc.push v) c') s' s'' → ∃ m', m' < m ∧ Sl m' (acc.push v) c' s'') (fun _ _ => False) s1)
    (hQ : ∀ acc s', acc.size ≤ sizeLine → Dn acc s' → Q acc.toList s') : wpAny (model prog w) A (collect (.ref a)) Q E s := by
  refine collect_gen1 hg Sl start fun m acc c s1 h1 => wpAny_mono (turn m acc c s1 h1) (fun o s' h => ?_) fun _ _ e => e.elim
  cases o with
  | none => exact ⟨h.1, hQ _ _ h.2.1 h.2.2⟩
  | some v => exact h
theorem call_tuple1 {Dn : Array Value → Shared → Prop} (hg : s.heap.IsGen a g) (Sl : Nat → Array Value → Nat → Shared → Prop)
    (start : ∀ s' c, Anew s.heap.objs.size (lstO #[] c) s s' → ∃ m, Sl m #[] c s')
    (turn : ∀ m acc c s1, Sl m acc c s1 → wpAny (model prog w) A.in1.in1.in1 (pyNext (.ref a)) (fun o s' => match o with
      | none => s'.heap.get? s.heap.objs.size = some (lstO acc c) ∧ acc.size ≤ sizeLine ∧ Dn acc s'
      | some v => s'.heap.get? s.heap.objs.size = some (lstO acc c) ∧ acc.size < sizeLine ∧ ∀ s'' c', Anew s.heap.objs.size (lstO (acc.push v) c') s' s'' → ∃ m', m' < m ∧ Sl m' (acc.push v) c' s'') (fun _ _ => False) s1)
    (hQ : ∀ acc s', acc.size ≤ sizeLine → Dn acc s' → Q (.ref s'.heap.objs.size) { s' with heap := s'.heap.push { cls := .type "tuple", data := .seq acc } }) :
    wpAny (model prog w) A (call (.type "tuple") [.ref a]) Q E s := by
  refine callType_codes (Q₁ := fun obj s₁ => s₁.TypeIs obj "tuple" ∧ Q obj s₁) F.called_tuple (F.typeCall_tuple_1 _) F.entry_object_init ?_ fun obj s₁ h₁ => ?_
  · refine codeAny_of_tree ?_
    show wpAny _ A.in1.in1 (do checkBuiltinCall "tuple.__new__" ⟨[.type "tuple", .ref a], []⟩; again (.builtin "tuple.__new__" ⟨[.type "tuple", .ref a], []⟩)) _ _ s
    refine wpAny_bind (wpAny_of_eq (F.newCall_tuple_1 _) (wpAny_pure ⟨plainId_quiet F.plain_tuple_new _, codeAny_builtin F.entry_tuple_new ?_⟩))
    rw [Around.under_plainId F.plain_tuple_new _]
    have hsub := sub_tuple_self
    have hinit := init_tuple_lookup
    have hmh := madeHere_tuple
    have hTI : s.TypeIs (.ref a) "generator" := hg.typeIs
    wp_walk using wpAny_typeOf hTI, collect_gen2 hg Sl start turn
    intro acc s' hz hd
    show wpAny _ _ (Builtin.Tuple.tupleExact acc.toList.toArray >>= fun v => ret v) _ _ _
    unfold Builtin.Tuple.tupleExact
    refine wpAny_bind (wpAny_newObj_type ?_ (by show acc.toList.toArray.size ≤ sizeLine; simp only [Array.toArray_toList]; exact hz))
    refine wpAny_pure ?_
    have e : acc.toList.toArray = acc := by simp
    rw [e]
    exact ⟨⟨_, Heap.get?_push_size _ rfl, rfl⟩, hQ acc s' hz hd⟩
  · exact ⟨h₁.1, F.args_object_init_2 obj _, object_init_meets F.called_tuple.init.lookup F.called_tuple.made (by decide) prog w A.in1 _ s₁ ⟨h₁.1, rfl, h₁.2⟩⟩
theorem sum_loop {R : Result → Shared → Prop} {S : Addr} (Sl : Nat → Int → Tok → Nat → Shared → Prop) (hS : ∀ m tot t c s, Sl m tot t c s → s.heap.get? S = some (lstO #[.int tot t] c))
    (turn : ∀ m tot t c s, Sl m tot t c s → wpAny (model prog w) A.in1 (pyNext (.ref a)) (fun o s' => match o with
      | none => R (.ok (.ret (.int tot t))) s'
      | some v => ∃ i ti, v = .int i ti ∧ s'.heap.get? S = some (lstO #[.int tot t] c) ∧ ∀ s'' t' c', Anew S (lstO #[.int (tot + i) t'] c') s' s'' → ∃ m', m' < m ∧ Sl m' (tot + i) t' c' s'') (fun _ _ => False) s) :
    ∀ m tot t c s st, (st = 0 ∨ st = 2) → Sl m tot t c s → codeAny (model prog w) A (.builtin "sum.loop" ⟨[.ref a, .ref S, rawInt st, rawInt 0], []⟩) R s := by
  intro m
  induction m using Nat.strongRecOn with
  | ind m ih =>
    intro tot t c s st hst hs
    refine codeAny_builtin F.entry_sum_loop ?_
    rw [Around.under_plainId F.plain_sum_loop _]
    show wpAny _ A.in1 (seqItems? (.ref S) >>= _) _ _ s
    refine wpAny_bind (wpAny_seqItems (hS _ _ _ _ _ hs) rfl ?_)
    show wpAny _ A.in1 (tryCatch (pyNext (.ref a)) _ >>= _) _ _ s
    refine wpAny_bind (wpAny_tryCatch (wpAny_mono (turn m tot t c s hs) (fun o s' h => ?_) fun _ _ e => e.elim))
    cases o with
    | none => exact wpAny_pure h
    | some v =>
      obtain ⟨i, ti, rfl, hS', h2⟩ := h
      rcases hst with rfl | rfl
      · show wpAny _ A.in1 (if (_ : Bool) = true then (mkInt (tot + i) >>= _) else _) _ _ _
        split
        · refine wpAny_bind (wpAny_mkInt ?_)
          show wpAny _ A.in1 (updateSeq S (fun _ => #[.int (tot + i) s'.toks]) >>= _) _ _ _
          refine wpAny_bind ?_
          have hS₂ := Heap.get?_update_self (Obj.mapSeq fun _ => #[Value.int (tot + i) s'.toks]) hS' rfl
          obtain ⟨m', hm, q⟩ := h2 { s' with heap := s'.heap.update S (Obj.mapSeq fun _ => #[Value.int (tot + i) s'.toks]), toks := s'.toks + 1 } _ _ ⟨rfl, rfl, fun b u hb e => (Heap.get?_update_other _ _ (Ne.symm hb)).trans e, hS₂⟩
          exact wpAny_updateSeq hS' rfl (wpAny_pure ⟨plainId_quiet F.plain_sum_loop _, ih m' hm _ _ _ _ 0 (.inl rfl) q⟩)
        · refine wpAny_bind (wpAny_rule ?_)
          refine wpAny_bind (wpAny_attempt (wpAny_holding (wpAny_add_int ?_)))
          show wpAny _ A.in1 (updateSeq S (fun _ => #[.int (tot + i) s'.toks]) >>= _) _ _ _
          refine wpAny_bind (wpAny_updateSeq hS' rfl ?_)
          have hS₂ := Heap.get?_update_self (Obj.mapSeq fun _ => #[Value.int (tot + i) s'.toks]) hS' rfl
          refine wpAny_bind (wpAny_letGo ?_)
          have hS₃ := Heap.get?_update_self (Obj.mapSeq fun _ => #[Value.int (tot + i) s'.toks]) hS₂ rfl
          obtain ⟨m', hm, q⟩ := h2 { s' with heap := (s'.heap.update S (Obj.mapSeq fun _ => #[Value.int (tot + i) s'.toks])).update S (Obj.mapSeq fun _ => #[Value.int (tot + i) s'.toks]), toks := s'.toks + 1 } _ _ ⟨rfl, rfl, fun b u hb e => (Heap.get?_update_other _ _ (Ne.symm hb)).trans ((Heap.get?_update_other _ _ (Ne.symm hb)).trans e), hS₃⟩
          exact wpAny_bind (wpAny_updateSeq hS₂ rfl (wpAny_pure ⟨plainId_quiet F.plain_sum_loop _, ih m' hm _ _ _ _ 2 (.inr rfl) q⟩))
      · show wpAny _ A.in1 ((holding [Value.int i ti] (binaryOp .Add (.int tot t) (.int i ti))).attempt >>= _) _ _ _
        refine wpAny_bind (wpAny_attempt (wpAny_holding (wpAny_add_int ?_)))
        show wpAny _ A.in1 (updateSeq S (fun _ => #[.int (tot + i) s'.toks]) >>= _) _ _ _
        refine wpAny_bind (wpAny_updateSeq hS' rfl ?_)
        have hS₂ := Heap.get?_update_self (Obj.mapSeq fun _ => #[Value.int (tot + i) s'.toks]) hS' rfl
        refine wpAny_bind (wpAny_letGo ?_)
        have hS₃ := Heap.get?_update_self (Obj.mapSeq fun _ => #[Value.int (tot + i) s'.toks]) hS₂ rfl
        obtain ⟨m', hm, q⟩ := h2 { s' with heap := (s'.heap.update S (Obj.mapSeq fun _ => #[Value.int (tot + i) s'.toks])).update S (Obj.mapSeq fun _ => #[Value.int (tot + i) s'.toks]), toks := s'.toks + 1 } _ _ ⟨rfl, rfl, fun b u hb e => (Heap.get?_update_other _ _ (Ne.symm hb)).trans ((Heap.get?_update_other _ _ (Ne.symm hb)).trans e), hS₃⟩
        exact wpAny_bind (wpAny_updateSeq hS₂ rfl (wpAny_pure ⟨plainId_quiet F.plain_sum_loop _, ih m' hm _ _ _ _ 2 (.inr rfl) q⟩))
theorem call_sum1 {Q : Value → Shared → Prop} (hg : s.heap.IsGen a g) (Sl : Nat → Int → Tok → Nat → Shared → Prop) (hS : ∀ m tot t c s1, Sl m tot t c s1 → s1.heap.get? s.heap.objs.size = some (lstO #[.int tot t] c))
    (start : ∀ s' t c, Anew s.heap.objs.size (lstO #[.int 0 t] c) s s' → ∃ m, Sl m 0 t c s')
    (turn : ∀ m tot t c s1, Sl m tot t c s1 → wpAny (model prog w) A.in1 (pyNext (.ref a)) (fun o s' => match o with
      | none => Q (.int tot t) s'
      | some v => ∃ i ti, v = .int i ti ∧ s'.heap.get? s.heap.objs.size = some (lstO #[.int tot t] c) ∧ ∀ s'' t' c', Anew s.heap.objs.size (lstO #[.int (tot + i) t'] c') s' s'' → ∃ m', m' < m ∧ Sl m' (tot + i) t' c' s'') (fun _ _ => False) s1) :
    wpAny (model prog w) A (call (.builtin "sum") [.ref a]) Q E s := by
  refine call_function_tree F.kind_sum F.plain_sum F.entry_sum (F.args_sum1 _) ?_
  unfold Builtin.«sum»
  simp only [List.length_cons, List.length_nil]
  rw [if_neg (by decide)]
  refine wpAny_bind (wpAny_of_eq (show Builtin.Builtins.bindParams "sum" ["start"] 0 { } = pure [none] from rfl) ?_)
  refine wpAny_bind (wpAny_pyIter_gen hg ?_)
  refine wpAny_bind (wpAny_mkInt ?_)
  refine wpAny_bind (wpAny_pure ?_)
  simp only [List.forIn_cons, List.forIn_nil]
  refine wpAny_bind (wpAny_bind (wpAny_bind (wpAny_isInstance (T := "int") (b := false) (typeIs_int _ _ _) PySem.sub_int_str ?_)))
  simp only [Bool.false_eq_true, if_false]
  refine wpAny_pure (wpAny_bind (wpAny_bind (wpAny_isInstance (T := "int") (b := false) (typeIs_int _ _ _) sub_int_bytes ?_)))
  simp only [Bool.false_eq_true, if_false]
  refine wpAny_pure (wpAny_bind (wpAny_bind (wpAny_isInstance (T := "int") (b := false) (typeIs_int _ _ _) sub_int_bytearray ?_)))
  simp only [Bool.false_eq_true, if_false]
  refine wpAny_pure (wpAny_pure ?_)
  refine wpAny_bind (wpAny_newObj_type ?_)
  obtain ⟨m, hs⟩ := start { s with heap := s.heap.push { cls := .type "list", data := .seq ([Value.int 0 s.toks] : List Value).toArray }, toks := s.toks + 1 } s.toks 0 ⟨rfl, rfl, fun b u hb e => Heap.get?_push_of_some _ e, Heap.get?_push_size _ rfl⟩
  exact wpAny_pure ⟨plainId_quiet F.plain_sum_loop _, sum_loop Sl hS turn m 0 _ _ _ 0 (.inl rfl) hs⟩
end
end GX

namespace GX
open PySem PySem.Spec PyProof.Rows L2 GenW

section
variable {elt tg iter : Expr} {ifs : List Expr} {scope : Scope} {pos : Pos} {it : Addr} {env : Env} {A : Around} {k : Nat}
theorem room_wake (r : Room (k + 1) A) : Room k (aWake A (cLoop elt tg iter ifs scope pos it env)) := by
  have e1 : (aWake A (cLoop elt tg iter ifs scope pos it env)).depth = A.depth + 0 + 1 := rfl
  have e2 : (aWake A (cLoop elt tg iter ifs scope pos it env)).units = A.units + 1 + 0 + 3 := rfl
  exact ⟨r.hd, by rw [e1]; have := r.dp; omega, by rw [e2]; have := r.un; omega⟩
end
/-- a consumer's own object: younger than the generator's frame, none of its parts -/
structure OwnS (X : Cx) (s0 : Shared) (env : Env) (fp : List Addr) (a S : Addr) : Prop where
  young : s0.heap.objs.size ≤ S
  loc : S ≠ env.locals
  fr : S ∉ frs X.stack
  cell : ∀ x c, env.cells.lookup x = some c → c ≠ S
  ne : S ≠ a
  fp : S ∉ fp
section
variable {X : Cx} {pins : List (Addr × Obj)} {σ : L2.St} {T : Addr → Prop} {H1 H2 H : Hp} {elt tg iter : Expr} {ifs : List Expr} {scope : Scope} {pos : Pos} {vs : List Nat} {J : It} {a : Addr} {s s' s0 s1 : Shared} {env : Env} {fp : List Addr} {gn : Nat} {go : Obj} {tn : Nat → Heap → Prop} {it : Addr}
  {g : TG} {tt : TT} {te : TE} {W : Nat → Nat → Hp → Prop} {Dn : Hp → Prop} {Yd : V → Nat → Hp → Prop} {i m k : Nat} {A : Around} {Q : Option Value → Shared → Prop} {E : Value → Shared → Prop} {pinsS : List (Addr × Obj)} {σw : L2.St} {c : Code} {S : Addr} {o o' : Obj}
theorem Asleep.isGen (hgo : GoOk go gn) (Sl : Asleep X s0 H2 c env fp a gn go pinsS σw tn i H s) : s.heap.IsGen a gn := by
  obtain ⟨nm, qn, g1, g2, g3⟩ := hgo
  exact ⟨go, nm, qn, (Sl.inv.pin (a, go) (List.mem_append_right _ (List.mem_cons_self ..))).1, g1, g2, g3⟩
theorem Made.out {H' : Hp} {σ' : L2.St} {pl : List (Addr × Obj)} {B : Around} (Md : Made X pins σ T H1 elt tg iter ifs scope pos vs J a s1 H2 s0 env fp gn go tn it) (I : Inv (gcx X B s0 H2 env fp) pl σ' H' s') : Inv X pins σ H' s' :=
  Md.inv.call' (ch := fp) I.os I.base I.hok I.bare fun b hb => ⟨(Md.fpOk b hb).1.2.2.2.1, (Md.fpOk b hb).1.2.1, (Md.fpOk b hb).1.2.2.2.2.1, (Md.fpOk b hb).1.2.2.2.2.2⟩
theorem Made.next (Md : Made X pins σ T H1 elt tg iter ifs scope pos vs J a s1 H2 s0 env fp gn go tn it) (hc : X.calm = true) (hco : scope.isCoroutine = false) (hr : Room (k + 1) A) (hfr : A.frames = some X.stack)
    (hg : InGen X T scope k fun X' => PG X' tg g) (ht : InGen X T scope k fun X' => PTs X' ifs tt) (he : InGen X T scope k fun X' => PE X' elt te)
    (hpi : ∀ p ∈ pinsS, p.1 ∉ fp) (turn : Turns J g tt te σ vs W Dn Yd) (hW : W i m H) (Sl : Asleep X s0 H2 (cLoop elt tg iter ifs scope pos it env) env fp a gn go pinsS (wipe σ vs) tn i H s)
    (hd : ∀ s' H', Inv X pins σ H' s' → (∀ p ∈ pinsS, s'.heap.get? p.1 = some p.2 ∧ H' p.1 = none) → Dn H' → Q none s')
    (hy : ∀ s' u y i' H', RelV y u → Yd y i' H' → Asleep X s0 H2 (cLoop elt tg iter ifs scope pos it env) env fp a gn go pinsS (wipe σ vs) tn i' H' s' → Q (some u) s') :
    wpAny (model X.prog X.w) A (pyNext (.ref a)) Q E s := by
  obtain ⟨cl, C, code, bi, rfl⟩ := Md.env_eq
  have rm := room_wake (elt := elt) (tg := tg) (iter := iter) (ifs := ifs) (scope := scope) (pos := pos) (it := it) (env := genEnv scope cl C code bi X.env) hr
  have us := Md.use (aWake A (cLoop elt tg iter ifs scope pos it (genEnv scope cl C code bi X.env)))
  refine gen_next hc hr.hd hfr hr.depth hco Md.goOk hpi Md.afp Md.turn (hg _ _ _ _ _ _ _ _ rm us) (ht _ _ _ _ _ _ _ _ rm us) (he _ _ _ _ _ _ _ _ rm us) turn hW Sl (fun s' H' I' _ d => hd s' H' (Md.out I') (fun p hp => ?_) d) hy
  have z := I'.pin p (List.mem_append_right _ (List.mem_cons_of_mem _ hp))
  exact ⟨z.1, z.2.1⟩
theorem Asleep.lay (T : Turn X.prog X.w X.K tg J fp it tn) (Sl : Asleep X s0 H2 c env fp a gn go [] σw tn i H s) (h : Anew s.heap.objs.size o s s') (hd : ∀ v, o.data ≠ .cell v) :
    Asleep X s0 H2 c env fp a gn go [(s.heap.objs.size, o)] σw tn i H s' ∧ OwnS X s0 env fp a s.heap.objs.size := by
  have kp : ∀ b u, s.heap.get? b = some u → s'.heap.get? b = some u := fun b u e => h.keep b u (Nat.ne_of_lt (Heap.lt_size e)) e
  have I' := Sl.inv.call' (ch := []) h.os (Un.kept kp) (Sl.inv.hok.kept kp) (by rw [h.gens]; exact Sl.inv.bare) (fun b hb => by simp at hb)
  have hn : H s.heap.objs.size = none := Sl.inv.hok.fresh (Nat.le_refl _)
  have hL : s.heap.objs.size ≠ env.locals := Nat.ne_of_gt Sl.inv.lt
  have hF : s.heap.objs.size ∉ frs X.stack := Sl.inv.nofs (Nat.le_refl _)
  refine ⟨⟨I'.pins_of fun p hp => ?_, Md_keep T Sl.turn fun b _ o e => kp b o e, Sl.fp, by rw [h.gens]; exact Sl.gen⟩, Sl.inv.sz, hL, hF, fun x c e z => ?_, fun z => ?_, fun hb => ?_⟩
  · rcases List.mem_cons.mp hp with rfl | hp
    · exact I'.pin _ (List.mem_append_right _ (List.mem_cons_self ..))
    · rw [List.mem_singleton.mp hp]
      exact ⟨h.own, hn, hL, hF, hd⟩
  · obtain ⟨v, q⟩ := Sl.inv.cell x c e
    exact absurd q.lt (by rw [z]; exact Nat.lt_irrefl _)
  · have := Heap.lt_size (Sl.inv.pin (a, go) (List.mem_append_right _ (List.mem_cons_self ..))).1
    rw [← z] at this
    exact Nat.lt_irrefl _ this
  · obtain ⟨u, e, _⟩ := T.obj _ _ Sl.turn _ hb
    exact Nat.lt_irrefl _ (Heap.lt_size e)
where
  Md_keep {X : Cx} {tg : Expr} {J : It} {fp : List Addr} {it : Addr} {tn : Nat → Heap → Prop} (T : Turn X.prog X.w X.K tg J fp it tn) {i : Nat} {h h' : Heap} (st : tn i h) (k : ∀ b ∈ fp, ∀ o, h.get? b = some o → h'.get? b = some o) : tn i h' := T.keep _ _ _ st k
theorem Asleep.anew (T : Turn X.prog X.w X.K tg J fp it tn) (O : OwnS X s0 env fp a S) (Sl : Asleep X s0 H2 c env fp a gn go [(S, o)] σw tn i H s) (h : Anew S o' s s') (hd : ∀ v, o'.data ≠ .cell v) :
    Asleep X s0 H2 c env fp a gn go [(S, o')] σw tn i H s' := by
  obtain ⟨hS1, hS2, _⟩ := Sl.inv.pin (S, o) (List.mem_append_right _ (by simp))
  have hS2 : H S = none := hS2
  have nS : ∀ b u, H b = some u → b ≠ S := fun b u e z => by rw [z, hS2] at e; cases e
  have un : Un (frs (gcx X ⟨none, 0, some (env :: X.stack), none, 1⟩ s0 H2 env fp).stack) [S] H H s.heap s'.heap :=
    ⟨fun b ob e _ _ hx => h.keep b ob (fun z => hx (by simp [z])) e, fun b ob e _ _ hx => ⟨ob.slots, h.keep b ob (fun z => hx (by simp [z])) e⟩, fun _ _ _ n _ => n, fun b ob e hx => ⟨ob, h.keep b ob (fun z => hx (by simp [z])) e⟩, fun _ _ e => e, fun _ _ _ e => e, fun b ps e => ⟨#[], by rw [e]; simp⟩⟩
  have hok : HOk X.prog X.w H s'.heap := fun b u e => (Sl.inv.hok b u e).stay (fun c v hc q => h.keep c v (by
    rcases hc with z | z
    · rw [z]; exact nS b u e
    · exact nS c _ z) q) (fun _ q => q) fun _ _ q => q
  have I0 : Inv (gcx X ⟨none, 0, some (env :: X.stack), none, 1⟩ s0 H2 env fp) [(a, go)] σw H s := Sl.inv.pins_of fun p hp => Sl.inv.pin p (List.mem_append_right _ (by rw [List.mem_singleton.mp hp]; exact List.mem_cons_self ..))
  have I' := I0.call' (ch := [S]) h.os un hok (by rw [h.gens]; exact Sl.inv.bare) (fun b hb => by
    rw [List.mem_singleton.mp hb]
    refine ⟨.inr O.young, O.loc, O.cell, fun p hp => ?_⟩
    have hp : p ∈ [(a, go)] := hp
    rw [List.mem_singleton.mp hp]
    exact O.ne.symm)
  refine ⟨I'.pins_of fun p hp => ?_, T.keep _ _ _ Sl.turn fun b hb ob e => h.keep b ob (fun z => O.fp (by rw [← z]; exact hb)) e, Sl.fp, by rw [h.gens]; exact Sl.gen⟩
  rcases List.mem_cons.mp hp with rfl | hp
  · exact I'.pin _ (List.mem_append_right _ (List.mem_cons_self ..))
  · rw [List.mem_singleton.mp hp]
    exact ⟨h.own, hS2, O.loc, O.fr, hd⟩
end

/-! ### the calls -/
/-- the making may have grown the tables of code objects -/
abbrev Grown (T : Addr → Prop) (H1 H2 : Hp) : Prop := (∀ b o, H1 b = some o → (∀ ps, o ≠ .tbl ps) → H2 b = some o) ∧ (∀ b ps, H1 b = some (.tbl ps) → ∃ more, H2 b = some (.tbl (ps ++ more))) ∧ ∀ P, T P → Tab H2 P
def tAllG (T : Addr → Prop) (wi : TI) (g : TG) (tt : TT) (te : TE) (vs : List Nat) : TE := fun σ H Q => wi σ H fun J H1 => (∀ P, T P → Tab H1 P) ∧ ∀ H2, Grown T H1 H2 → ∃ W : Nat → Nat → Hp → Prop, (∃ m, W 0 m H2) ∧
  ∀ M, Turns J g tt te σ vs (fun i m H => m ≤ M ∧ W i m H) (fun H => Q (.bl true) H) (fun y i' H' => ∃ b, y = .bl b ∧ if b = true then ∃ m', m' < M ∧ W i' m' H' else Q (.bl false) H')
def tAnyG (T : Addr → Prop) (wi : TI) (g : TG) (tt : TT) (te : TE) (vs : List Nat) : TE := fun σ H Q => wi σ H fun J H1 => (∀ P, T P → Tab H1 P) ∧ ∀ H2, Grown T H1 H2 → ∃ W : Nat → Nat → Hp → Prop, (∃ m, W 0 m H2) ∧
  ∀ M, Turns J g tt te σ vs (fun i m H => m ≤ M ∧ W i m H) (fun H => Q (.bl false) H) (fun y i' H' => ∃ b, y = .bl b ∧ if b = true then Q (.bl true) H' else ∃ m', m' < M ∧ W i' m' H')
def tTupG (T : Addr → Prop) (wi : TI) (g : TG) (tt : TT) (te : TE) (vs : List Nat) : TE := fun σ H Q => wi σ H fun J H1 => (∀ P, T P → Tab H1 P) ∧ ∀ H2, Grown T H1 H2 → ∃ W : Nat → Nat → List V → Hp → Prop, (∃ m, W 0 m [] H2) ∧
  ∀ M ys, Turns J g tt te σ vs (fun i m H => m ≤ M ∧ W i m ys H) (fun H => ys.length ≤ sizeLine ∧ ∀ p, H p = none → Q (.ref p) (upd H p (.tup ys))) (fun y i' H' => ys.length < sizeLine ∧ ∃ m', m' < M ∧ W i' m' (ys ++ [y]) H')
def tSumG (T : Addr → Prop) (wi : TI) (g : TG) (tt : TT) (te : TE) (vs : List Nat) : TE := fun σ H Q => wi σ H fun J H1 => (∀ P, T P → Tab H1 P) ∧ ∀ H2, Grown T H1 H2 → ∃ W : Nat → Nat → Int → Hp → Prop, (∃ m, W 0 m 0 H2) ∧
  ∀ M n, Turns J g tt te σ vs (fun i m H => m ≤ M ∧ W i m n H) (fun H => Q (.int n) H) (fun y i' H' => ∃ j, y = .int j ∧ ∃ m', m' < M ∧ W i' m' (n + j) H')
section
variable {X : Cx} {T : Addr → Prop} {elt tg iter : Expr} {ifs : List Expr} {scope : Scope} {own : List (Str × Nat)} {pos gpos p : Pos} {wi : TI} {g : TG} {tt : TT} {te : TE} {k : Nat} {x : Str}
theorem pe_allG (hr : Room (k + 2) X.A) (hc : X.calm = true) (hN : X.N.Nodup) (cu : CodeUse T X) (ok : GenOk X.N X.env.scope scope own) (hgl : Gl X "all") (hm : X.mg "all" = none) (hi : PI X tg iter wi)
    (hg : InGen X T scope k fun X' => PG X' tg g) (ht : InGen X T scope k fun X' => PTs X' ifs tt) (he : InGen X T scope k fun X' => PE X' elt te)
    (hs : ∀ v, genFold iter X.env v = pure v := by intro _; rfl) (hst : starEach [.GeneratorExp elt [⟨tg, iter, ifs, 0⟩] scope gpos] X.env = (false, eval (.GeneratorExp elt [⟨tg, iter, ifs, 0⟩] scope gpos) X.env) :: starEach [] X.env := by rfl) :
    PE X (.Call (.Name "all" p) [.GeneratorExp elt [⟨tg, iter, ifs, 0⟩] scope gpos] [] pos) (tAllG T wi g tt te (own.map (·.2))) := by
  refine ⟨fun pins s σ H Q I h => ?_⟩
  refine wpAny_Call_Name_kw (ld_blt I hgl hm (show bootBuiltins "all" = some (.builtin "all") from by decide +kernel) ?_)
  refine PyProof.Rows.callWith_builtin1 ?_ hst (by rfl)
  rw [hst]
  show wpAny _ _ (spliced ((false, eval (.GeneratorExp elt [⟨tg, iter, ifs, 0⟩] scope gpos) X.env) :: backTo pos (starEach [] X.env))) _ _ s
  refine Calls.spliced_cons (gen_make hr.depth hc hN cu ok hi hs I h fun J H1 a s' H2 s0 env fp gn go tn it hR Md => ?_)
  refine Calls.spliced_nil ?_
  obtain ⟨W, ⟨m0, w0⟩, hT⟩ := hR H2 ⟨Md.kp, Md.tbl, Md.tab⟩
  refine call_all1 (Md.asleep.isGen Md.goOk) (fun m s1 => ∃ i H, W i m H ∧ Asleep X s0 H2 (cLoop elt tg iter ifs scope gpos it env) env fp a gn go [] (wipe σ (own.map (·.2))) tn i H s1) (fun m s1 ⟨i, H, w, sl⟩ => ?_) m0 ⟨0, H2, w0, Md.asleep⟩
  refine Md.next (k := k) hc ok.co hr.in1 (I.ok.frames) hg ht he (by simp) (hT m) ⟨Nat.le_refl _, w⟩ sl (fun s' H' I' _ d => ⟨.bl true, H', I', rfl, d⟩) fun s' u y i' H' r d sl' => ?_
  obtain ⟨b, rfl, d⟩ := d
  have r : u = .bool b := r
  subst r
  refine ⟨b, rfl, ?_⟩
  cases b with
  | true =>
    simp only [if_true] at d ⊢
    obtain ⟨m', hm, w'⟩ := d
    exact ⟨m', hm, i', H', w', sl'⟩
  | false =>
    simp only [Bool.false_eq_true, if_false] at d ⊢
    exact ⟨.bl false, H', Md.out sl'.inv, rfl, d⟩
theorem pe_anyG (hr : Room (k + 2) X.A) (hc : X.calm = true) (hN : X.N.Nodup) (cu : CodeUse T X) (ok : GenOk X.N X.env.scope scope own) (hgl : Gl X "any") (hm : X.mg "any" = none) (hi : PI X tg iter wi)
    (hg : InGen X T scope k fun X' => PG X' tg g) (ht : InGen X T scope k fun X' => PTs X' ifs tt) (he : InGen X T scope k fun X' => PE X' elt te)
    (hs : ∀ v, genFold iter X.env v = pure v := by intro _; rfl) (hst : starEach [.GeneratorExp elt [⟨tg, iter, ifs, 0⟩] scope gpos] X.env = (false, eval (.GeneratorExp elt [⟨tg, iter, ifs, 0⟩] scope gpos) X.env) :: starEach [] X.env := by rfl) :
    PE X (.Call (.Name "any" p) [.GeneratorExp elt [⟨tg, iter, ifs, 0⟩] scope gpos] [] pos) (tAnyG T wi g tt te (own.map (·.2))) := by
  refine ⟨fun pins s σ H Q I h => ?_⟩
  refine wpAny_Call_Name_kw (ld_blt I hgl hm (show bootBuiltins "any" = some (.builtin "any") from by decide +kernel) ?_)
  refine PyProof.Rows.callWith_builtin1 ?_ hst (by rfl)
  rw [hst]
  show wpAny _ _ (spliced ((false, eval (.GeneratorExp elt [⟨tg, iter, ifs, 0⟩] scope gpos) X.env) :: backTo pos (starEach [] X.env))) _ _ s
  refine Calls.spliced_cons (gen_make hr.depth hc hN cu ok hi hs I h fun J H1 a s' H2 s0 env fp gn go tn it hR Md => ?_)
  refine Calls.spliced_nil ?_
  obtain ⟨W, ⟨m0, w0⟩, hT⟩ := hR H2 ⟨Md.kp, Md.tbl, Md.tab⟩
  refine call_any1 (Md.asleep.isGen Md.goOk) (fun m s1 => ∃ i H, W i m H ∧ Asleep X s0 H2 (cLoop elt tg iter ifs scope gpos it env) env fp a gn go [] (wipe σ (own.map (·.2))) tn i H s1) (fun m s1 ⟨i, H, w, sl⟩ => ?_) m0 ⟨0, H2, w0, Md.asleep⟩
  refine Md.next (k := k) hc ok.co hr.in1 (I.ok.frames) hg ht he (by simp) (hT m) ⟨Nat.le_refl _, w⟩ sl (fun s' H' I' _ d => ⟨.bl false, H', I', rfl, d⟩) fun s' u y i' H' r d sl' => ?_
  obtain ⟨b, rfl, d⟩ := d
  have r : u = .bool b := r
  subst r
  refine ⟨b, rfl, ?_⟩
  cases b with
  | false =>
    simp only [Bool.false_eq_true, if_false] at d ⊢
    obtain ⟨m', hm, w'⟩ := d
    exact ⟨m', hm, i', H', w', sl'⟩
  | true =>
    simp only [if_true] at d ⊢
    exact ⟨.bl true, H', Md.out sl'.inv, rfl, d⟩
theorem pe_tupG (hr : Room (k + 4) X.A) (hc : X.calm = true) (hN : X.N.Nodup) (cu : CodeUse T X) (ok : GenOk X.N X.env.scope scope own) (hgl : Gl X "tuple") (hm : X.mg "tuple" = none) (hi : PI X tg iter wi)
    (hg : InGen X T scope k fun X' => PG X' tg g) (ht : InGen X T scope k fun X' => PTs X' ifs tt) (he : InGen X T scope k fun X' => PE X' elt te)
    (hs : ∀ v, genFold iter X.env v = pure v := by intro _; rfl) (hst : starEach [.GeneratorExp elt [⟨tg, iter, ifs, 0⟩] scope gpos] X.env = (false, eval (.GeneratorExp elt [⟨tg, iter, ifs, 0⟩] scope gpos) X.env) :: starEach [] X.env := by rfl) :
    PE X (.Call (.Name "tuple" p) [.GeneratorExp elt [⟨tg, iter, ifs, 0⟩] scope gpos] [] pos) (tTupG T wi g tt te (own.map (·.2))) := by
  refine ⟨fun pins s σ H Q I h => ?_⟩
  refine wpAny_Call_Name_kw (ld_blt I hgl hm (show bootBuiltins "tuple" = some (.type "tuple") from by decide +kernel) ?_)
  refine PyProof.Rows.callWith_type1 ?_ hst (by rfl)
  rw [hst]
  show wpAny _ _ (spliced ((false, eval (.GeneratorExp elt [⟨tg, iter, ifs, 0⟩] scope gpos) X.env) :: backTo pos (starEach [] X.env))) _ _ s
  refine Calls.spliced_cons (gen_make hr.depth hc hN cu ok hi hs I h fun J H1 a s' H2 s0 env fp gn go tn it hR Md => ?_)
  refine Calls.spliced_nil ?_
  obtain ⟨W, ⟨m0, w0⟩, hT⟩ := hR H2 ⟨Md.kp, Md.tbl, Md.tab⟩
  refine call_tuple1 (Dn := fun acc s1 => ∃ ys H', Vals ys acc.toList ∧ Inv X pins σ H' s1 ∧ ∀ p, H' p = none → Q (.ref p) (upd H' p (.tup ys))) (Md.asleep.isGen Md.goOk)
    (fun m acc c s1 => ∃ i H ys, W i m ys H ∧ Vals ys acc.toList ∧ OwnS X s0 env fp a s'.heap.objs.size ∧ Asleep X s0 H2 (cLoop elt tg iter ifs scope gpos it env) env fp a gn go [(s'.heap.objs.size, lstO acc c)] (wipe σ (own.map (·.2))) tn i H s1)
    (fun s1 c an => ?_) (fun m acc c s1 ⟨i, H, ys, w, hv, O, sl⟩ => ?_) fun acc s1 hz ⟨ys, H', hv, I', q⟩ => ?_
  · obtain ⟨sl, O⟩ := Md.asleep.lay Md.turn an (fun v z => by cases z)
    exact ⟨m0, 0, H2, [], w0, .nil, O, sl⟩
  · have hlen : acc.size = ys.length := by
      have := hv.length
      simpa using this.symm
    refine Md.next (k := k) hc ok.co hr.in1.in1.in1 (I.ok.frames) hg ht he (fun p hp => by rw [List.mem_singleton.mp hp]; exact O.fp) (hT m ys) ⟨Nat.le_refl _, w⟩ sl (fun s2 H' I' hp d => ?_) fun s2 u y i' H' r d sl' => ?_
    · exact ⟨(hp _ (List.mem_singleton.mpr rfl)).1, by rw [hlen]; exact d.1, ys, H', hv, I', d.2⟩
    · obtain ⟨hz, m', hm, w'⟩ := d
      have z := sl'.inv.pin (s'.heap.objs.size, lstO acc c) (List.mem_append_right _ (by simp))
      refine ⟨z.1, by rw [hlen]; exact hz, fun s3 c' an => ⟨m', hm, i', H', ys ++ [y], w', ?_, O, sl'.anew Md.turn O an (fun v z => by cases z)⟩⟩
      rw [Array.toList_push]
      exact hv.append (.cons r .nil)
  · have hlen : acc.size = ys.length := by
      have := hv.length
      simpa using this.symm
    refine ⟨.ref s1.heap.objs.size, upd H' s1.heap.objs.size (.tup ys), I'.laid (t' := s1.toks) (fun b o e => Heap.get?_push_of_some _ e) (Nat.le_refl _) ⟨by rw [← hlen]; exact hz, acc.toList, hv, ?_⟩, rfl, q _ (I'.hok.fresh (Nat.le_refl _))⟩
    exact ⟨_, Heap.get?_push_size _ rfl, rfl, by simp⟩
theorem pe_sumG (hr : Room (k + 2) X.A) (hc : X.calm = true) (hN : X.N.Nodup) (cu : CodeUse T X) (ok : GenOk X.N X.env.scope scope own) (hgl : Gl X "sum") (hm : X.mg "sum" = none) (hi : PI X tg iter wi)
    (hg : InGen X T scope k fun X' => PG X' tg g) (ht : InGen X T scope k fun X' => PTs X' ifs tt) (he : InGen X T scope k fun X' => PE X' elt te)
    (hs : ∀ v, genFold iter X.env v = pure v := by intro _; rfl) (hst : starEach [.GeneratorExp elt [⟨tg, iter, ifs, 0⟩] scope gpos] X.env = (false, eval (.GeneratorExp elt [⟨tg, iter, ifs, 0⟩] scope gpos) X.env) :: starEach [] X.env := by rfl) :
    PE X (.Call (.Name "sum" p) [.GeneratorExp elt [⟨tg, iter, ifs, 0⟩] scope gpos] [] pos) (tSumG T wi g tt te (own.map (·.2))) := by
  refine ⟨fun pins s σ H Q I h => ?_⟩
  refine wpAny_Call_Name_kw (ld_blt I hgl hm (show bootBuiltins "sum" = some (.builtin "sum") from by decide +kernel) ?_)
  refine PyProof.Rows.callWith_builtin1 ?_ hst (by rfl)
  rw [hst]
  show wpAny _ _ (spliced ((false, eval (.GeneratorExp elt [⟨tg, iter, ifs, 0⟩] scope gpos) X.env) :: backTo pos (starEach [] X.env))) _ _ s
  refine Calls.spliced_cons (gen_make hr.depth hc hN cu ok hi hs I h fun J H1 a s' H2 s0 env fp gn go tn it hR Md => ?_)
  refine Calls.spliced_nil ?_
  obtain ⟨W, ⟨m0, w0⟩, hT⟩ := hR H2 ⟨Md.kp, Md.tbl, Md.tab⟩
  refine call_sum1 (Md.asleep.isGen Md.goOk)
    (fun m tot t c s1 => ∃ i H, W i m tot H ∧ OwnS X s0 env fp a s'.heap.objs.size ∧ Asleep X s0 H2 (cLoop elt tg iter ifs scope gpos it env) env fp a gn go [(s'.heap.objs.size, lstO #[.int tot t] c)] (wipe σ (own.map (·.2))) tn i H s1)
    (fun m tot t c s1 ⟨i, H, w, O, sl⟩ => (sl.inv.pin (s'.heap.objs.size, lstO #[.int tot t] c) (List.mem_append_right _ (by simp))).1)
    (fun s1 t c an => ?_) (fun m tot t c s1 ⟨i, H, w, O, sl⟩ => ?_)
  · obtain ⟨sl, O⟩ := Md.asleep.lay Md.turn an (fun v z => by cases z)
    exact ⟨m0, 0, H2, w0, O, sl⟩
  · refine Md.next (k := k) hc ok.co hr.in1 (I.ok.frames) hg ht he (fun p hp => by rw [List.mem_singleton.mp hp]; exact O.fp) (hT m tot) ⟨Nat.le_refl _, w⟩ sl (fun s2 H' I' hp d => ?_) fun s2 u y i' H' r d sl' => ?_
    · exact ⟨.int tot, H', I', ⟨t, rfl⟩, d⟩
    · obtain ⟨j, rfl, m', hm, w'⟩ := d
      obtain ⟨ti, rfl⟩ : ∃ t, u = .int j t := r
      have z := sl'.inv.pin (s'.heap.objs.size, lstO #[.int tot t] c) (List.mem_append_right _ (by simp))
      exact ⟨j, ti, rfl, z.1, fun s3 t' c' an => ⟨m', hm, i', H', w', O, sl'.anew Md.turn O an (fun v z => by cases z)⟩⟩
end
end GX

/-! DLCore: a data layer over HandS. Values are trees (D); what a def's body does is read as a predicate transformer over trees, no heap in sight. -/
namespace DL
open PySem PySem.Spec PyProof.Rows L2

/-! ### data -/
inductive D where
  | non | bl (b : Bool) | int (i : Int) | str (x : Str) | tup (xs : List D) | lst (xs : List D) | src
  /-- the law's script: a list of ints at a place, tracked or known to the top -/
  | scr (K : PySem.W.Frag) (a : Addr) (ns : List Int)
/-- the source and the script: kinds of their own -/
def D.isSrc : D → Bool
  | .src => true
  | .scr _ _ _ => true
  | _ => false

/-- a source of drawn numbers: what stands at its place, on which cells it leans -/
structure Src where
  ok : Hp → Addr → (Addr → Prop) → Prop
  loc : ∀ H H' p F, (∀ a, F a → H a = H' a) → ok H p F → ok H' p F
  tr : ∀ H p F a, ok H p F → F a → ∃ o, H a = some o
  nt : ∀ H p F a xs, ok H p F → F a → H a ≠ some (.tup xs)
  /-- no cell of it is a table or a code object -/
  nb : ∀ H p F a o, ok H p F → F a → H a = some o → ¬ GX.Tabby o
  /-- the tables of code objects that are known -/
  tb : Addr → Prop

/-- ghost: the frozen lists, the source's cells, the source's place -/
structure G where
  fz : Addr → Prop
  rl : Addr → Prop
  rp : Addr

structure HInv (S : Src) (g : G) (H : Hp) : Prop where
  fz : ∀ a, g.fz a → ∃ o, H a = some o
  dis : ∀ a, g.rl a → ¬ g.fz a
  rl : (∃ a, g.rl a) → S.ok H g.rp g.rl
  tb : (∀ P, S.tb P → GX.Tab H P) ∧ ∀ a o, g.fz a → H a = some o → ¬ GX.Tabby o
theorem HInv.trl {S : Src} {g : G} {H : Hp} (I : HInv S g H) {a : Addr} (h : g.rl a) : ∃ o, H a = some o := S.tr _ _ _ _ (I.rl ⟨a, h⟩) h

structure Step (g : G) (H : Hp) (g' : G) (H' : Hp) : Prop where
  fz : ∀ a, g.fz a → g'.fz a
  fzn : ∀ a, g'.fz a → g.fz a ∨ H a = none
  rl : ∀ a, g.rl a → g'.rl a
  rln : ∀ a, g'.rl a → g.rl a ∨ H a = none
  rp : (∃ a, g.rl a) → g'.rp = g.rp
  keep : ∀ a o, H a = some o → ¬ g.rl a → (∀ ps, o ≠ .tbl ps) → H' a = some o
  there : ∀ a o, H a = some o → ∃ o', H' a = some o'
/-- the weaker relation that a datum's standing leans on -/
structure Up (g : G) (H : Hp) (g' : G) (H' : Hp) : Prop where
  fz : ∀ a, g.fz a → g'.fz a
  rl : ∀ a, g.rl a → g'.rl a
  rt : ∀ a xs, H a = some (.tup xs) → ¬ g.rl a → ¬ g'.rl a
  rp : (∃ a, g.rl a) → g'.rp = g.rp
  kt : ∀ a xs, H a = some (.tup xs) → H' a = some (.tup xs)
  kf : ∀ a o, g.fz a → H a = some o → H' a = some o
theorem Step.up {S : Src} {g g' : G} {H H' : Hp} (I : HInv S g H) (s : Step g H g' H') : Up g H g' H' :=
  ⟨s.fz, s.rl, fun a xs e n z => (s.rln a z).elim n (fun q => by rw [e] at q; cases q), s.rp, fun a xs e => s.keep a _ e (fun z => S.nt _ _ _ a xs (I.rl ⟨a, z⟩) z e) (fun _ z => by cases z), fun a o f e => s.keep a o e (fun z => I.dis a z f) (fun ps z => I.tb.2 a o f e (by rw [z]; trivial))⟩
theorem Up.refl (g : G) (H : Hp) : Up g H g H := ⟨fun _ h => h, fun _ h => h, fun _ _ _ n => n, fun _ => rfl, fun _ _ e => e, fun _ _ _ e => e⟩
theorem Step.refl (g : G) (H : Hp) : Step g H g H :=
  ⟨fun _ h => h, fun _ h => .inl h, fun _ h => h, fun _ h => .inl h, fun _ => rfl, fun _ _ h _ _ => h, fun _ o h => ⟨o, h⟩⟩
theorem Step.free {g g' : G} {H H' : Hp} (s : Step g H g' H') {a : Addr} (h : H' a = none) : H a = none := by
  cases e : H a with
  | none => rfl
  | some o =>
    obtain ⟨o', e'⟩ := s.there a o e
    rw [h] at e'; cases e'
theorem Step.trans {g g1 g2 : G} {H H1 H2 : Hp} (a : Step g H g1 H1) (b : Step g1 H1 g2 H2) : Step g H g2 H2 where
  fz := fun x h => b.fz x (a.fz x h)
  fzn := fun x h => by
    rcases b.fzn x h with h | h
    · exact a.fzn x h
    · exact .inr (a.free h)
  rl := fun x h => b.rl x (a.rl x h)
  rln := fun x h => by
    rcases b.rln x h with h | h
    · exact a.rln x h
    · exact .inr (a.free h)
  rp := fun ⟨x, h⟩ => (b.rp ⟨x, a.rl x h⟩).trans (a.rp ⟨x, h⟩)
  keep := fun x o e n nt => b.keep x o (a.keep x o e n nt) (fun h => by
    rcases a.rln x h with h | h
    · exact n h
    · rw [e] at h; cases h) nt
  there := fun x o e => by
    obtain ⟨o1, e1⟩ := a.there x o e
    exact b.there x o1 e1
/-- a new cell is laid -/
theorem Step.laid (g : G) {H : Hp} {p : Addr} (o : HO) (h : H p = none) : Step g H g (upd H p o) :=
  ⟨fun _ h => h, fun _ h => .inl h, fun _ h => h, fun _ h => .inl h, fun _ => rfl, fun a u e _ _ => by rw [upd_ne (ne_of_none e h)]; exact e, fun a u e => ⟨u, by rw [upd_ne (ne_of_none e h)]; exact e⟩⟩
theorem HInv.laid {S : Src} {g : G} {H : Hp} (I : HInv S g H) {p : Addr} (o : HO) (h : H p = none) : HInv S g (upd H p o) where
  fz := fun a ha => by
    obtain ⟨u, e⟩ := I.fz a ha
    exact ⟨u, by rw [upd_ne (ne_of_none e h)]; exact e⟩
  dis := I.dis
  rl := fun x => S.loc _ _ _ _ (fun a ha => by
    obtain ⟨u, e⟩ := I.trl ha
    rw [upd_ne (ne_of_none e h)]) (I.rl x)
  tb := ⟨fun P hP => (I.tb.1 P hP).upd fun u e => (by rw [h] at e; cases e), fun a u f e => by
    obtain ⟨u', e'⟩ := I.fz a f
    rw [upd_ne (ne_of_none e' h)] at e
    exact I.tb.2 a u f e⟩

/-! ### a value stands for a datum -/
def RdT (g : G) (H : Hp) (a : Addr) (xs : List V) : Prop := H a = some (.tup xs) ∧ ¬ g.rl a
def RdL (g : G) (H : Hp) (a : Addr) (xs : List V) : Prop := H a = some (.lst xs) ∧ g.fz a
theorem RdT.sq {K : PySem.W.Frag} {g : G} {H : Hp} {a : Addr} {xs : List V} (h : RdT g H a xs) : SqT K H a xs := .inl (.inl h.1)
theorem RdL.sq {K : PySem.W.Frag} {g : G} {H : Hp} {a : Addr} {xs : List V} (h : RdL g H a xs) : SqL K H a xs := .inl (.inl h.1)
theorem RdL.rd {g : G} {H : Hp} {a : Addr} {xs : List V} (h : RdL g H a xs) : Rd H a (.lst xs) := .inl h.1

/-- a list that the top knows, as HandS reads it -/
def SqLK (K : PySem.W.Frag) (a : Addr) (xs : List V) : Prop := ∀ H, SqL K H a xs
mutual
def Rep (g : G) (H : Hp) : D → V → Prop
  | .non, v => v = .non
  | .bl b, v => v = .bl b
  | .int i, v => v = .int i
  | .str x, v => v = .str x
  | .tup ds, v => ∃ a xs, v = .ref a ∧ RdT g H a xs ∧ RepL g H ds xs
  | .lst ds, v => ∃ a xs, v = .ref a ∧ RdL g H a xs ∧ RepL g H ds xs
  | .src, v => v = .ref g.rp ∧ g.rl g.rp
  | .scr K a ns, v => v = .ref a ∧ ((Rd H a (.lst (ns.map .int)) ∧ g.fz a) ∨ SqLK K a (ns.map .int))
def RepL (g : G) (H : Hp) : List D → List V → Prop
  | [], vs => vs = []
  | d :: ds, vs => ∃ v r, vs = v :: r ∧ Rep g H d v ∧ RepL g H ds r
end

section
variable {S : Src} {g g' : G} {H H' : Hp}
theorem RdT.step (s : Up g H g' H') {a : Addr} {xs : List V} (h : RdT g H a xs) : RdT g' H' a xs := by
  obtain ⟨h, n⟩ := h
  exact ⟨s.kt a _ h, s.rt a _ h n⟩
theorem Rd.up (s : Up g H g' H') {a : Addr} {u : HO} (h : Rd H a u) (n : g.fz a) : Rd H' a u := by
  rcases h with h | ⟨o, h⟩
  · exact .inl (s.kf a _ n h)
  · exact .inr ⟨o, s.kf a _ n h⟩
theorem RdL.step (s : Up g H g' H') {a : Addr} {xs : List V} (h : RdL g H a xs) : RdL g' H' a xs := by
  obtain ⟨h, n⟩ := h
  exact ⟨s.kf a _ n h, s.fz a n⟩
mutual
theorem Rep.up (s : Up g H g' H') : ∀ (d : D) (v : V), Rep g H d v → Rep g' H' d v
  | .non, _, h => by rw [Rep] at h ⊢; exact h
  | .bl _, _, h => by rw [Rep] at h ⊢; exact h
  | .int _, _, h => by rw [Rep] at h ⊢; exact h
  | .str _, _, h => by rw [Rep] at h ⊢; exact h
  | .tup ds, v, h => by
    rw [Rep] at h ⊢
    obtain ⟨a, xs, e, r, l⟩ := h
    exact ⟨a, xs, e, r.step s, RepL.up s ds xs l⟩
  | .lst ds, v, h => by
    rw [Rep] at h ⊢
    obtain ⟨a, xs, e, r, l⟩ := h
    exact ⟨a, xs, e, r.step s, RepL.up s ds xs l⟩
  | .src, v, h => by
    rw [Rep] at h ⊢
    obtain ⟨e, r⟩ := h
    have e2 := s.rp ⟨_, r⟩
    rw [e2]
    exact ⟨e, s.rl _ r⟩
  | .scr K a ns, v, h => by
    rw [Rep] at h ⊢
    exact ⟨h.1, h.2.elim (fun r => .inl (.intro (Rd.up s r.1 r.2) (s.fz _ r.2))) .inr⟩
theorem RepL.up (s : Up g H g' H') : ∀ (ds : List D) (vs : List V), RepL g H ds vs → RepL g' H' ds vs
  | [], _, h => by rw [RepL] at h ⊢; exact h
  | d :: ds, vs, h => by
    rw [RepL] at h ⊢
    obtain ⟨v, r, e, h1, h2⟩ := h
    exact ⟨v, r, e, Rep.up s d v h1, RepL.up s ds r h2⟩
end
theorem Rep.step (I : HInv S g H) (s : Step g H g' H') {d : D} {v : V} (h : Rep g H d v) : Rep g' H' d v := Rep.up (s.up I) d v h
theorem RepL.step (I : HInv S g H) (s : Step g H g' H') {ds : List D} {vs : List V} (h : RepL g H ds vs) : RepL g' H' ds vs := RepL.up (s.up I) ds vs h
theorem RepL.nil : RepL g H [] [] := by rw [RepL]
theorem RepL.cons {d : D} {ds : List D} {v : V} {vs : List V} (h : Rep g H d v) (t : RepL g H ds vs) : RepL g H (d :: ds) (v :: vs) := by rw [RepL]; exact ⟨v, vs, rfl, h, t⟩
theorem RepL.len : ∀ {ds : List D} {vs : List V}, RepL g H ds vs → vs.length = ds.length
  | [], _, h => by rw [RepL] at h; rw [h]; rfl
  | d :: ds, vs, h => by
    rw [RepL] at h
    obtain ⟨v, r, rfl, _, h2⟩ := h
    rw [List.length_cons, List.length_cons, RepL.len h2]
theorem RepL.get : ∀ {ds : List D} {vs : List V} {i : Nat} {d : D}, RepL g H ds vs → ds[i]? = some d → ∃ v, vs[i]? = some v ∧ Rep g H d v
  | [], _, i, d, _, e => by simp at e
  | x :: ds, vs, i, d, h, e => by
    rw [RepL] at h
    obtain ⟨v, r, rfl, h1, h2⟩ := h
    cases i with
    | zero =>
      simp at e; subst e
      exact ⟨v, rfl, h1⟩
    | succ i =>
      simp at e
      obtain ⟨v', e', r'⟩ := RepL.get h2 e
      exact ⟨v', by simpa using e', r'⟩
theorem RepL.getV {ds : List D} {vs : List V} {i : Nat} {v : V} (h : RepL g H ds vs) (e : vs[i]? = some v) : ∃ d, ds[i]? = some d ∧ Rep g H d v := by
  have hi : i < vs.length := (List.getElem?_eq_some_iff.mp e).1
  rw [h.len] at hi
  obtain ⟨v', e', r⟩ := h.get (List.getElem?_eq_getElem hi)
  rw [e] at e'; cases e'
  exact ⟨_, List.getElem?_eq_getElem hi, r⟩
theorem RepL.append : ∀ {ds es : List D} {vs ws : List V}, RepL g H ds vs → RepL g H es ws → RepL g H (ds ++ es) (vs ++ ws)
  | [], es, vs, ws, h, t => by rw [RepL] at h; subst h; exact t
  | d :: ds, es, vs, ws, h, t => by
    rw [RepL] at h
    obtain ⟨v, r, rfl, h1, h2⟩ := h
    exact RepL.cons h1 (RepL.append h2 t)
theorem RepL.drop : ∀ {ds : List D} {vs : List V} (n : Nat), RepL g H ds vs → RepL g H (ds.drop n) (vs.drop n)
  | _, _, 0, h => h
  | [], vs, n + 1, h => by rw [RepL] at h; subst h; exact RepL.nil
  | d :: ds, vs, n + 1, h => by
    rw [RepL] at h
    obtain ⟨v, r, rfl, h1, h2⟩ := h
    exact RepL.drop n h2
theorem RepL.take : ∀ {ds : List D} {vs : List V} (n : Nat), RepL g H ds vs → RepL g H (ds.take n) (vs.take n)
  | ds, vs, 0, h => by rw [List.take_zero, List.take_zero]; exact RepL.nil
  | [], vs, n + 1, h => by rw [RepL] at h; subst h; exact RepL.nil
  | d :: ds, vs, n + 1, h => by
    rw [RepL] at h
    obtain ⟨v, r, rfl, h1, h2⟩ := h
    exact RepL.cons h1 (RepL.take n h2)
theorem RepL.set : ∀ {ds : List D} {vs : List V} {d : D} {v : V} (n : Nat), RepL g H ds vs → Rep g H d v → RepL g H (ds.set n d) (vs.set n v)
  | [], vs, d, v, n, h, _ => by rw [RepL] at h; subst h; exact RepL.nil
  | x :: ds, vs, d, v, n, h, t => by
    rw [RepL] at h
    obtain ⟨y, r, rfl, h1, h2⟩ := h
    cases n with
    | zero => exact RepL.cons t h2
    | succ n => exact RepL.cons h1 (RepL.set n h2 t)
end

/-! ### data without lists: they do not lean on what is frozen -/
mutual
@[simp] def noLst : D → Bool
  | .lst _ => false
  | .scr _ _ _ => false
  | .tup ds => noLstL ds
  | _ => true
@[simp] def noLstL : List D → Bool
  | [] => true
  | d :: ds => noLst d && noLstL ds
end
mutual
theorem Rep.noLst {g g' : G} {H : Hp} (h1 : g'.rl = g.rl) (h2 : g'.rp = g.rp) : ∀ (d : D) (v : V), DL.noLst d = true → Rep g H d v → Rep g' H d v
  | .non, _, _, h => by rw [Rep] at h ⊢; exact h
  | .bl _, _, _, h => by rw [Rep] at h ⊢; exact h
  | .int _, _, _, h => by rw [Rep] at h ⊢; exact h
  | .str _, _, _, h => by rw [Rep] at h ⊢; exact h
  | .tup ds, v, n, h => by
    rw [Rep] at h ⊢
    obtain ⟨a, xs, e, r, l⟩ := h
    refine ⟨a, xs, e, ?_, RepL.noLst h1 h2 ds xs (by rw [DL.noLst] at n; exact n) l⟩
    unfold RdT at r ⊢
    rw [h1]; exact r
  | .lst ds, v, n, h => by rw [DL.noLst] at n; cases n
  | .src, v, _, h => by rw [Rep] at h ⊢; rw [h1, h2]; exact h
  | .scr _ _ _, v, n, h => by rw [DL.noLst] at n; cases n
theorem RepL.noLst {g g' : G} {H : Hp} (h1 : g'.rl = g.rl) (h2 : g'.rp = g.rp) : ∀ (ds : List D) (vs : List V), DL.noLstL ds = true → RepL g H ds vs → RepL g' H ds vs
  | [], _, _, h => by rw [RepL] at h ⊢; exact h
  | d :: ds, vs, n, h => by
    rw [RepL] at h ⊢
    obtain ⟨v, r, e, a, b⟩ := h
    have n' : DL.noLst d = true ∧ DL.noLstL ds = true := by rw [DL.noLstL, Bool.and_eq_true] at n; exact n
    exact ⟨v, r, e, Rep.noLst h1 h2 d v n'.1 a, RepL.noLst h1 h2 ds r n'.2 b⟩
end

/-! ### readings over data -/
abbrev DEnv := List (Option (Bool × D))
abbrev UK := Bool → D → Prop
abbrev UE := DEnv → UK → Prop
abbrev UT := DEnv → (Bool → Prop) → Prop
abbrev UA := DEnv → (List D → Prop) → Prop

/-- a value for a datum: t: a new list that nobody else holds -/
def RepT (g : G) (H : Hp) (t : Bool) (d : D) (v : V) : Prop := match t with
  | false => Rep g H d v
  | true => ∃ a xs ds, v = .ref a ∧ d = .lst ds ∧ H a = some (.lst xs) ∧ ¬ g.fz a ∧ ¬ g.rl a ∧ RepL g H ds xs
structure EPost (S : Src) (g : G) (H : Hp) (Q : UK) (v : V) (H' : Hp) : Prop where
  ex : ∃ g' t d, Step g H g' H' ∧ HInv S g' H' ∧ RepT g' H' t d v ∧ (t = true → ∀ a, v = .ref a → H a = none) ∧ Q t d
def TPost (S : Src) (g : G) (H : Hp) (Q : Bool → Prop) (b : Bool) (H' : Hp) : Prop := ∃ g', Step g H g' H' ∧ HInv S g' H' ∧ Q b
def APost (S : Src) (g : G) (H : Hp) (Q : List D → Prop) (vs : List V) (H' : Hp) : Prop := ∃ g' ds, Step g H g' H' ∧ HInv S g' H' ∧ RepL g' H' ds vs ∧ Q ds

def frz (g : G) (a : Addr) : G := { g with fz := fun b => g.fz b ∨ b = a }
/-- the new list is frozen -/
theorem EPost.rep {S : Src} {g : G} {H : Hp} {Q : UK} {v : V} {H' : Hp} (h : EPost S g H Q v H') : ∃ g' d, Step g H g' H' ∧ HInv S g' H' ∧ Rep g' H' d v ∧ ∃ t, Q t d := by
  obtain ⟨g', t, d, s, I, r, f, q⟩ := h.ex
  cases t with
  | false => exact ⟨g', d, s, I, r, false, q⟩
  | true =>
    obtain ⟨a, xs, ds, rfl, rfl, ha, n1, n2, l⟩ := r
    have s2 : Step g H (frz g' a) H' := ⟨fun b h => .inl (s.fz b h), fun b h => by
      rcases h with h | h
      · exact s.fzn b h
      · exact .inr (by rw [h]; exact f rfl a rfl), s.rl, s.rln, s.rp, s.keep, s.there⟩
    have I2 : HInv S (frz g' a) H' := ⟨fun b h => by
      rcases h with h | h
      · exact I.fz b h
      · rw [h]; exact ⟨_, ha⟩, fun b h z => by
      rcases z with z | z
      · exact I.dis b h z
      · rw [z] at h; exact n2 h, I.rl, I.tb.1, fun b u h e => by
      rcases h with h | h
      · exact I.tb.2 b u h e
      · rw [h, ha] at e; cases e; exact id⟩
    have u : Up g' H' (frz g' a) H' := ⟨fun b h => .inl h, fun _ h => h, fun _ _ _ n => n, fun _ => rfl, fun _ _ h => h, fun _ _ _ h => h⟩
    exact ⟨frz g' a, .lst ds, s2, I2, by rw [Rep]; exact ⟨a, xs, rfl, .intro ha (.inr rfl), RepL.up u ds xs l⟩, true, q⟩
end DL

/-! DLExpr: expressions over data. -/
namespace DL
open PySem PySem.Spec PyProof.Rows L2

/-! ### helpers -/
section
variable {S : Src} {g g' g1 : G} {H H' H1 : Hp} {Q : UK} {v : V} {d : D}
theorem EPost.after (s : Step g H g1 H1) (e : EPost S g1 H1 Q v H') : EPost S g H Q v H' := by
  obtain ⟨g', t, d, s', I, r, f, q⟩ := e.ex
  exact ⟨g', t, d, s.trans s', I, r, fun h a e => s.free (f h a e), q⟩
theorem EPost.val (I : HInv S g H) (r : Rep g H d v) (q : Q false d) : EPost S g H Q v H := ⟨g, false, d, Step.refl g H, I, r, (fun h => (by cases h)), q⟩
theorem HInv.nfz (I : HInv S g H) {p : Addr} (h : H p = none) : ¬ g.fz p := fun z => by
  obtain ⟨o, e⟩ := I.fz p z
  rw [h] at e; cases e
theorem HInv.nrl (I : HInv S g H) {p : Addr} (h : H p = none) : ¬ g.rl p := fun z => by
  obtain ⟨o, e⟩ := I.trl z
  rw [h] at e; cases e
theorem EPost.newL (I : HInv S g H) {p : Addr} (h : H p = none) {ds : List D} {xs : List V} (l : RepL g H ds xs) (q : Q true (.lst ds)) : EPost S g H Q (.ref p) (upd H p (.lst xs)) :=
  ⟨g, true, .lst ds, Step.laid g _ h, I.laid _ h, ⟨p, xs, ds, rfl, rfl, upd_same, I.nfz h, I.nrl h, l.step I (Step.laid g _ h)⟩, fun _ a e => by cases e; exact h, q⟩
theorem EPost.newT (I : HInv S g H) {p : Addr} (h : H p = none) {ds : List D} {xs : List V} (l : RepL g H ds xs) (q : Q false (.tup ds)) : EPost S g H Q (.ref p) (upd H p (.tup xs)) :=
  ⟨g, false, .tup ds, Step.laid g _ h, I.laid _ h, by show Rep _ _ _ _; rw [Rep]; exact ⟨p, xs, rfl, ⟨upd_same, I.nrl h⟩, l.step I (Step.laid g _ h)⟩, fun h => (by cases h), q⟩
end
theorem RepL.ints {g : G} {H : Hp} : ∀ {ns : List Int} {vs : List V}, RepL g H (ns.map D.int) vs → vs = ns.map V.int
  | [], _, h => by rw [List.map_nil, RepL] at h; exact h
  | n :: ns, vs, h => by
    rw [List.map_cons, RepL] at h
    obtain ⟨v, r, rfl, h1, h2⟩ := h
    rw [Rep] at h1
    rw [h1, RepL.ints h2, List.map_cons]
theorem RepL.ofInts {g : G} {H : Hp} : ∀ (ns : List Int), RepL g H (ns.map D.int) (ns.map V.int)
  | [] => RepL.nil
  | n :: ns => RepL.cons (by rw [Rep]) (RepL.ofInts ns)
theorem RepL.strs {g : G} {H : Hp} : ∀ {ns : List Str} {vs : List V}, RepL g H (ns.map D.str) vs → vs = ns.map V.str
  | [], _, h => by rw [List.map_nil, RepL] at h; exact h
  | n :: ns, vs, h => by
    rw [List.map_cons, RepL] at h
    obtain ⟨v, r, rfl, h1, h2⟩ := h
    rw [Rep] at h1
    rw [h1, RepL.strs h2, List.map_cons]
theorem RepL.ofStrs {g : G} {H : Hp} : ∀ (ns : List Str), RepL g H (ns.map D.str) (ns.map V.str)
  | [] => RepL.nil
  | n :: ns => RepL.cons (by rw [Rep]) (RepL.ofStrs ns)
theorem RepL.bls {g : G} {H : Hp} : ∀ {ns : List Bool} {vs : List V}, RepL g H (ns.map D.bl) vs → vs = ns.map V.bl
  | [], _, h => by rw [List.map_nil, RepL] at h; exact h
  | n :: ns, vs, h => by
    rw [List.map_cons, RepL] at h
    obtain ⟨v, r, rfl, h1, h2⟩ := h
    rw [Rep] at h1
    rw [h1, RepL.bls h2, List.map_cons]

/-! ### what the names hold -/
structure RepS (g : G) (H : Hp) (ρ : DEnv) (σ : L2.St) : Prop where
  len : ρ.length = σ.length
  get : ∀ (i : Nat) (t : Bool) (d : D), ρ[i]? = some (some (t, d)) → ∃ v, σ[i]? = some (some v) ∧ Rep g H d v
theorem RepS.step {S : Src} {g g' : G} {H H' : Hp} {ρ : DEnv} {σ : L2.St} (I : HInv S g H) (s : Step g H g' H') (R : RepS g H ρ σ) : RepS g' H' ρ σ :=
  ⟨R.len, fun i t d e => by
    obtain ⟨v, h1, h2⟩ := R.get i t d e
    exact ⟨v, h1, h2.step I s⟩⟩
theorem RepS.set {g : G} {H : Hp} {ρ : DEnv} {σ : L2.St} (R : RepS g H ρ σ) {i : Nat} {d : D} {v : V} (r : Rep g H d v) : RepS g H (ρ.set i (some (false, d))) (σ.set i (some v)) := by
  refine ⟨by rw [List.length_set, List.length_set]; exact R.len, fun j t e h => ?_⟩
  by_cases hj : i = j
  · subst hj
    have hl : i < ρ.length := by
      have := (List.getElem?_eq_some_iff.mp h).1
      rwa [List.length_set] at this
    rw [List.getElem?_set_self hl] at h
    cases h
    exact ⟨v, List.getElem?_set_self (by rw [← R.len]; exact hl), r⟩
  · rw [List.getElem?_set_ne hj] at h
    rw [List.getElem?_set_ne hj]
    exact R.get j t e h

structure JE (S : Src) (X : Cx) (e : Expr) (u : UE) : Prop where
  ex : ∃ t : TE, PE X e t ∧ ∀ (ρ : DEnv) (σ : L2.St) (g : G) (H : Hp) (Q : UK) (P : VK), HInv S g H → RepS g H ρ σ → u ρ Q → (∀ v H', EPost S g H Q v H' → P v H') → t σ H P
structure JT (S : Src) (X : Cx) (e : Expr) (u : UT) : Prop where
  ex : ∃ t : TT, PT X e t ∧ ∀ (ρ : DEnv) (σ : L2.St) (g : G) (H : Hp) (Q : Bool → Prop) (P : Bool → Hp → Prop), HInv S g H → RepS g H ρ σ → u ρ Q → (∀ b H', TPost S g H Q b H' → P b H') → t σ H P
structure JW (S : Src) (X : Cx) (e : Expr) (u : UT) : Prop where
  ex : ∃ t : TT, PW X e t ∧ ∀ (ρ : DEnv) (σ : L2.St) (g : G) (H : Hp) (Q : Bool → Prop) (P : Bool → Hp → Prop), HInv S g H → RepS g H ρ σ → u ρ Q → (∀ b H', TPost S g H Q b H' → P b H') → t σ H P
structure JA (S : Src) (X : Cx) (es : List Expr) (u : UA) : Prop where
  ex : ∃ t : TA, PA X es t ∧ ∀ (ρ : DEnv) (σ : L2.St) (g : G) (H : Hp) (Q : List D → Prop) (P : List V → Hp → Prop), HInv S g H → RepS g H ρ σ → u ρ Q → (∀ vs H', APost S g H Q vs H' → P vs H') → t σ H P

@[simp] def uVar (i : Nat) (ρ : DEnv) (Q : UK) : Prop := match ρ[i]? with
  | some (some (_, d)) => Q false d
  | _ => False
@[simp] def uC (d : D) (_ : DEnv) (Q : UK) : Prop := Q false d
/-- a value that is True or False -/
@[simp] def isB (Q : Bool → Prop) : D → Prop
  | .bl b => Q b
  | _ => False
@[simp] def uTest (u : UE) (ρ : DEnv) (Q : (Bool → Prop)) : Prop := u ρ fun _ x => isB Q x
@[simp] def uIte (c : UT) (a b : UE) (ρ : DEnv) (Q : UK) : Prop := c ρ fun k => if k = true then a ρ Q else b ρ Q
/-- a term that simp leaves alone while another argument hangs on it -/
structure Tag {α : Type} (x : α) : Type where
/-- what is wanted behind a call: left alone until the call's promise is opened -/
def Hold (P : UK → Prop) (Q : UK) (_ : Tag Q) : Prop := P Q
theorem hold {P : UK → Prop} {Q : UK} {t : Tag Q} (h : P Q) : Hold P Q t := h
@[simp] def uAnd (a b : UT) (ρ : DEnv) (Q : (Bool → Prop)) : Prop := a ρ fun k => if k = true then b ρ Q else Q false
@[simp] def uOr (a b : UT) (ρ : DEnv) (Q : (Bool → Prop)) : Prop := a ρ fun k => if k = true then Q true else b ρ Q
@[simp] def uNot (a : UT) (ρ : DEnv) (Q : (Bool → Prop)) : Prop := a ρ fun k => Q (!k)
@[simp] def uAndV (a b : UE) (ρ : DEnv) (Q : UK) : Prop := a ρ fun _ x => isB (fun k => if k = true then b ρ Q else Q false (.bl false)) x
@[simp] def uOrV (a b : UE) (ρ : DEnv) (Q : UK) : Prop := a ρ fun _ x => isB (fun k => if k = true then Q false (.bl true) else b ρ Q) x
@[simp] def uNotV (a : UE) (ρ : DEnv) (Q : UK) : Prop := a ρ fun _ x => isB (fun k => Q false (.bl (!k))) x
@[simp] def uNil (_ : DEnv) (Q : (List D → Prop)) : Prop := Q []
@[simp] def uCons (a : UE) (r : UA) (ρ : DEnv) (Q : (List D → Prop)) : Prop := a ρ fun _ x => r ρ fun xs => Q (x :: xs)
@[simp] def uTup (a : UA) (ρ : DEnv) (Q : UK) : Prop := a ρ fun xs => xs.length ≤ sizeLine ∧ Q false (.tup xs)
@[simp] def uLst (a : UA) (ρ : DEnv) (Q : UK) : Prop := a ρ fun xs => xs.length ≤ sizeLine ∧ Q true (.lst xs)
@[simp] def u2 (f : D → D → UK → Prop) (a b : UE) (ρ : DEnv) (Q : UK) : Prop := a ρ fun _ x => b ρ fun _ y => f x y Q
@[simp] def u1 (f : D → UK → Prop) (a : UE) (ρ : DEnv) (Q : UK) : Prop := a ρ fun _ x => f x Q
@[simp] def uF (f : List D → UK → Prop) (a : UA) (ρ : DEnv) (Q : UK) : Prop := a ρ fun xs => f xs Q

section
variable {S : Src} {X : Cx} {a b c : Expr} {pos : Pos} {ua ub uc : UE} {ta tb : UT}
theorem je_var (i : Nat) {x : Str} (hN : X.N[i]? = some x := by rfl) (hv : Vis X.env.scope x := by first | exact Or.inl rfl | exact Or.inr (Or.inl rfl) | exact Or.inr (Or.inr rfl)) (hd : (x == ("__debug__" : Str)) = false := by decide)
    (hcd : (x == ("__classdict__" : Str)) = false := by decide) : JE S X (.Name x pos) (uVar i) := by
  refine ⟨tVar i, pv i hN hv hd hcd, fun ρ σ g H Q P I R h hP => ?_⟩
  unfold uVar at h
  cases e : ρ[i]? with
  | none => rw [e] at h; exact h.elim
  | some o =>
    rw [e] at h
    cases o with
    | none => exact h.elim
    | some p =>
      obtain ⟨t, d⟩ := p
      obtain ⟨v, hv, r⟩ := R.get i t d e
      exact ⟨v, hv, hP v H (EPost.val I r h)⟩
theorem je_C {e : Expr} {d : D} {v : V} (h : PE X e (tC v)) (r : ∀ g H, Rep g H d v) : JE S X e (uC d) :=
  ⟨tC v, h, fun ρ σ g H Q P I R h hP => hP v H (EPost.val I (r g H) h)⟩
theorem je_int {i j pos} : JE S X (.Constant (.int i) j pos) (uC (.int i)) := je_C pe_int fun _ _ => by rw [Rep]
theorem je_bl {b j pos} : JE S X (.Constant (.bool b) j pos) (uC (.bl b)) := je_C pe_bl fun _ _ => by rw [Rep]
theorem je_non {j pos} : JE S X (.Constant .none j pos) (uC .non) := je_C pe_non fun _ _ => by rw [Rep]
theorem je_str {x j pos} : JE S X (.Constant (.str x) j pos) (uC (.str x)) := je_C pe_str fun _ _ => by rw [Rep]
/-- a module's name that is an int -/
theorem je_glob {x : Str} {i : Int} {t : Tok} (hg : Gl X x) (hm : X.mg x = some (.int i t)) (hd : (x == ("__debug__" : Str)) = false := by decide) : JE S X (.Name x pos) (uC (.int i)) :=
  je_C (v := .int i) (pe_glob (v := .int i) hg hm ⟨t, rfl⟩ hd) fun _ _ => by rw [Rep]

/-! ### lifting a rule by values -/
def Lift2 (S : Src) (r : R2) (f : D → D → UK → Prop) : Prop :=
  ∀ (g : G) (H : Hp) (x y : V) (dx dy : D) (Q : UK) (P : VK), HInv S g H → Rep g H dx x → Rep g H dy y → f dx dy Q → (∀ v H', EPost S g H Q v H' → P v H') → r x y H P
def Lift1 (S : Src) (r : V → Hp → VK → Prop) (f : D → UK → Prop) : Prop :=
  ∀ (g : G) (H : Hp) (x : V) (dx : D) (Q : UK) (P : VK), HInv S g H → Rep g H dx x → f dx Q → (∀ v H', EPost S g H Q v H' → P v H') → r x H P
def LiftA (S : Src) (r : List V → Hp → VK → Prop) (f : List D → UK → Prop) : Prop :=
  ∀ (g : G) (H : Hp) (xs : List V) (ds : List D) (Q : UK) (P : VK), HInv S g H → RepL g H ds xs → f ds Q → (∀ v H', EPost S g H Q v H' → P v H') → r xs H P
theorem two {r : R2} {f : D → D → UK → Prop} (hl : Lift2 S r f) (ha : JE S X a ua) (hb : JE S X b ub) : ∃ t1 t2 : TE, PE X a t1 ∧ PE X b t2 ∧ ∀ (ρ : DEnv) (σ : L2.St) (g : G) (H : Hp) (Q : UK) (P : VK), HInv S g H → RepS g H ρ σ → u2 f ua ub ρ Q → (∀ v H', EPost S g H Q v H' → P v H') → tOp r t1 t2 σ H P := by
  obtain ⟨t1, p1, h1⟩ := ha.ex
  obtain ⟨t2, p2, h2⟩ := hb.ex
  refine ⟨t1, t2, p1, p2, fun ρ σ g H Q P I R h hP => ?_⟩
  refine h1 ρ σ g H _ _ I R h fun x H1 e1 => ?_
  obtain ⟨g1, dx, s1, I1, r1, _, q1⟩ := e1.rep
  refine h2 ρ σ g1 H1 _ _ I1 (R.step I s1) q1 fun y H2 e2 => ?_
  obtain ⟨g2, dy, s2, I2, r2, _, q2⟩ := e2.rep
  exact hl g2 H2 x y dx dy Q P I2 (r1.step I1 s2) r2 q2 fun v H' e => hP v H' (e.after (s1.trans s2))
theorem je_op {op : Operator} {r : R2} {f : D → D → UK → Prop} (ho : OpR X (binaryOp op) r) (hl : Lift2 S r f) (ha : JE S X a ua) (hb : JE S X b ub) : JE S X (.BinOp a op b pos) (u2 f ua ub) := by
  obtain ⟨t1, t2, p1, p2, h⟩ := two hl ha hb
  exact ⟨tOp r t1 t2, pe_op ho p1 p2, h⟩
theorem je_cmp {op : CmpOp} {r : R2} {f : D → D → UK → Prop} (ho : OpR X (compareOp op) r) (hl : Lift2 S r f) (ha : JE S X a ua) (hb : JE S X b ub) (hm : behindInMarks op b = false) : JE S X (.Compare a [op] [b] pos) (u2 f ua ub) := by
  obtain ⟨t1, t2, p1, p2, h⟩ := two hl ha hb
  exact ⟨tOp r t1 t2, pe_cmpR ho p1 p2 hm, h⟩
theorem EPost.isB {g : G} {H H' : Hp} {Q : Bool → Prop} {v : V} (e : EPost S g H (fun _ x => isB Q x) v H') : ∃ k, v = .bl k ∧ TPost S g H Q k H' := by
  obtain ⟨g', d, s, I, r, _, q⟩ := e.rep
  cases d with
  | bl k =>
    rw [Rep] at r
    exact ⟨k, r, g', s, I, q⟩
  | _ => exact (show False from q).elim
theorem jt_cmp {op : CmpOp} {r : R2} {f : D → D → UK → Prop} (ho : OpR X (compareOp op) r) (hl : Lift2 S r f) (ha : JE S X a ua) (hb : JE S X b ub) (hm : behindInMarks op b = false) : JT S X (.Compare a [op] [b] pos) (uTest (u2 f ua ub)) := by
  obtain ⟨t1, t2, p1, p2, h⟩ := two hl ha hb
  refine ⟨_, pt_cmpR ho p1 p2 hm, fun ρ σ g H Q P I R hu hP => h ρ σ g H _ _ I R hu fun v H' e => ?_⟩
  obtain ⟨k, rfl, tp⟩ := e.isB
  exact ⟨k, rfl, hP k H' tp⟩
theorem je_ix {r : R2} {f : D → D → UK → Prop} (hr : IxR X r) (hl : Lift2 S r f) (ha : JE S X a ua) (hb : JE S X b ub) (hs : PlainIx b) : JE S X (.Subscript a b pos) (u2 f ua ub) := by
  obtain ⟨t1, t2, p1, p2, h⟩ := two hl ha hb
  exact ⟨tOp r t1 t2, pe_ix hr p1 p2 hs, h⟩
theorem one {r : V → Hp → VK → Prop} {f : D → UK → Prop} (hl : Lift1 S r f) (ha : JE S X a ua) : ∃ t1 : TE, PE X a t1 ∧ ∀ (ρ : DEnv) (σ : L2.St) (g : G) (H : Hp) (Q : UK) (P : VK), HInv S g H → RepS g H ρ σ → u1 f ua ρ Q → (∀ v H', EPost S g H Q v H' → P v H') → tUn r t1 σ H P := by
  obtain ⟨t1, p1, h1⟩ := ha.ex
  refine ⟨t1, p1, fun ρ σ g H Q P I R h hP => ?_⟩
  refine h1 ρ σ g H _ _ I R h fun x H1 e1 => ?_
  obtain ⟨g1, dx, s1, I1, r1, _, q1⟩ := e1.rep
  exact hl g1 H1 x dx Q P I1 r1 q1 fun v H' e => hP v H' (e.after s1)
theorem je_un {op : UnaryOp} {r : V → Hp → VK → Prop} {f : D → UK → Prop} (ho : UnR X (unaryOp op) r) (hl : Lift1 S r f) (ha : JE S X a ua) : JE S X (.UnaryOp op a pos) (u1 f ua) := by
  obtain ⟨t1, p1, h⟩ := one hl ha
  exact ⟨tUn r t1, pe_un ho p1, h⟩

/-! ### tests -/
theorem jt_val {e : Expr} {u : UE} (h : JE S X e u) (he : ∀ whole, isTrue e X.env whole = (do let v ← whole; standAt e.pos; holding [v] (truthy v)) := by intro _; rfl) : JT S X e (uTest u) := by
  obtain ⟨t1, p1, h1⟩ := h.ex
  refine ⟨_, pt_val p1 he, fun ρ σ g H Q P I R hu hP => h1 ρ σ g H _ _ I R hu fun v H' e => ?_⟩
  obtain ⟨k, rfl, tp⟩ := e.isB
  exact ⟨k, rfl, hP k H' tp⟩
theorem JW.jt {e : Expr} {u : UT} (h : JW S X e u) : JT S X e u := by
  obtain ⟨t, p, h⟩ := h.ex
  exact ⟨t, p.pt, h⟩
variable {rest : List Expr}
theorem jw_and1 (h : JT S X a ta) : JW S X (.BoolOp .And [a] pos) ta := by
  obtain ⟨t, p, h⟩ := h.ex
  exact ⟨t, pw_and1 p, h⟩
theorem jw_or1 (h : JT S X a ta) : JW S X (.BoolOp .Or [a] pos) ta := by
  obtain ⟨t, p, h⟩ := h.ex
  exact ⟨t, pw_or1 p, h⟩
theorem TPost.after {g g1 : G} {H H1 H' : Hp} {Q : Bool → Prop} {k : Bool} (s : Step g H g1 H1) (e : TPost S g1 H1 Q k H') : TPost S g H Q k H' := by
  obtain ⟨g', s', I, q⟩ := e
  exact ⟨g', s.trans s', I, q⟩
theorem jw_and (ha : JT S X a ta) (hb : JW S X (.BoolOp .And (b :: rest) pos) tb) : JW S X (.BoolOp .And (a :: b :: rest) pos) (uAnd ta tb) := by
  obtain ⟨t, p, h⟩ := ha.ex
  obtain ⟨t2, p2, h2⟩ := hb.ex
  refine ⟨_, pw_and p p2, fun ρ σ g H Q P I R hu hP => h ρ σ g H _ _ I R hu fun k H1 e => ?_⟩
  obtain ⟨g1, s1, I1, q1⟩ := e
  cases k with
  | true => exact h2 ρ σ g1 H1 Q P I1 (R.step I s1) q1 fun k H' e => hP k H' (e.after s1)
  | false => exact hP false H1 ⟨g1, s1, I1, q1⟩
theorem jw_or (ha : JT S X a ta) (hb : JW S X (.BoolOp .Or (b :: rest) pos) tb) : JW S X (.BoolOp .Or (a :: b :: rest) pos) (uOr ta tb) := by
  obtain ⟨t, p, h⟩ := ha.ex
  obtain ⟨t2, p2, h2⟩ := hb.ex
  refine ⟨_, pw_or p p2, fun ρ σ g H Q P I R hu hP => h ρ σ g H _ _ I R hu fun k H1 e => ?_⟩
  obtain ⟨g1, s1, I1, q1⟩ := e
  cases k with
  | false => exact h2 ρ σ g1 H1 Q P I1 (R.step I s1) q1 fun k H' e => hP k H' (e.after s1)
  | true => exact hP true H1 ⟨g1, s1, I1, q1⟩
theorem jt_not (ha : JT S X a ta) : JT S X (.UnaryOp .Not a pos) (uNot ta) := by
  obtain ⟨t, p, h⟩ := ha.ex
  refine ⟨_, pt_not p, fun ρ σ g H Q P I R hu hP => h ρ σ g H _ _ I R hu fun k H1 e => hP _ _ e⟩
theorem je_one {op} {u : UE} (h : JE S X a u) : JE S X (.BoolOp op [a] pos) u := by
  obtain ⟨t, p, h⟩ := h.ex
  exact ⟨t, pe_one p, h⟩
theorem je_and (ha : JE S X a ua) (hb : JE S X (.BoolOp .And (b :: rest) pos) ub) : JE S X (.BoolOp .And (a :: b :: rest) pos) (uAndV ua ub) := by
  obtain ⟨t, p, h⟩ := ha.ex
  obtain ⟨t2, p2, h2⟩ := hb.ex
  refine ⟨_, pe_and p p2, fun ρ σ g H Q P I R hu hP => h ρ σ g H _ _ I R hu fun v H1 e => ?_⟩
  obtain ⟨k, rfl, g1, s1, I1, q1⟩ := e.isB
  refine ⟨k, rfl, ?_⟩
  cases k with
  | true => exact h2 ρ σ g1 H1 Q P I1 (R.step I s1) q1 fun v H' e => hP v H' (e.after s1)
  | false => exact hP _ _ ((EPost.val (d := .bl false) I1 (by rw [Rep]) q1).after s1)
theorem je_or (ha : JE S X a ua) (hb : JE S X (.BoolOp .Or (b :: rest) pos) ub) : JE S X (.BoolOp .Or (a :: b :: rest) pos) (uOrV ua ub) := by
  obtain ⟨t, p, h⟩ := ha.ex
  obtain ⟨t2, p2, h2⟩ := hb.ex
  refine ⟨_, pe_or p p2, fun ρ σ g H Q P I R hu hP => h ρ σ g H _ _ I R hu fun v H1 e => ?_⟩
  obtain ⟨k, rfl, g1, s1, I1, q1⟩ := e.isB
  refine ⟨k, rfl, ?_⟩
  cases k with
  | false => exact h2 ρ σ g1 H1 Q P I1 (R.step I s1) q1 fun v H' e => hP v H' (e.after s1)
  | true => exact hP _ _ ((EPost.val (d := .bl true) I1 (by rw [Rep]) q1).after s1)
theorem je_not (ha : JE S X a ua) : JE S X (.UnaryOp .Not a pos) (uNotV ua) := by
  obtain ⟨t, p, h⟩ := ha.ex
  refine ⟨_, pe_not p, fun ρ σ g H Q P I R hu hP => h ρ σ g H _ _ I R hu fun v H1 e => ?_⟩
  obtain ⟨k, rfl, g1, s1, I1, q1⟩ := e.isB
  exact ⟨k, rfl, hP _ _ ((EPost.val (d := .bl (!k)) I1 (by rw [Rep]) q1).after s1)⟩
theorem je_ifExp (hc : JT S X c ta) (ha : JE S X a ua) (hb : JE S X b ub) : JE S X (.IfExp c a b pos) (uIte ta ua ub) := by
  obtain ⟨t, p, h⟩ := hc.ex
  obtain ⟨t1, p1, h1⟩ := ha.ex
  obtain ⟨t2, p2, h2⟩ := hb.ex
  refine ⟨_, pe_ifExp p p1 p2, fun ρ σ g H Q P I R hu hP => h ρ σ g H _ _ I R hu fun k H1 e => ?_⟩
  obtain ⟨g1, s1, I1, q1⟩ := e
  cases k with
  | true => exact h1 ρ σ g1 H1 Q P I1 (R.step I s1) q1 fun v H' e => hP v H' (e.after s1)
  | false => exact h2 ρ σ g1 H1 Q P I1 (R.step I s1) q1 fun v H' e => hP v H' (e.after s1)

/-! ### arguments, displays -/
theorem ja_nil : JA S X [] uNil := ⟨tNil, pa_nil, fun ρ σ g H Q P I R hu hP => hP [] H ⟨g, [], Step.refl g H, I, RepL.nil, hu⟩⟩
theorem ja_cons {es : List Expr} {ur : UA} (ha : JE S X a ua) (hr : JA S X es ur) (hs : starEach (a :: es) X.env = (false, eval a X.env) :: starEach es X.env := by rfl) : JA S X (a :: es) (uCons ua ur) := by
  obtain ⟨t, p, h⟩ := ha.ex
  obtain ⟨t2, p2, h2⟩ := hr.ex
  refine ⟨_, pa_cons p p2 hs, fun ρ σ g H Q P I R hu hP => h ρ σ g H _ _ I R hu fun v H1 e => ?_⟩
  obtain ⟨g1, d, s1, I1, r1, _, q1⟩ := e.rep
  refine h2 ρ σ g1 H1 _ _ I1 (R.step I s1) q1 fun vs H2 e2 => ?_
  obtain ⟨g2, ds, s2, I2, r2, q2⟩ := e2
  exact hP (v :: vs) H2 ⟨g2, d :: ds, s1.trans s2, I2, RepL.cons (r1.step I1 s2) r2, q2⟩
theorem je_tup {es : List Expr} {u : UA} {k} (h : JA S X es u) : JE S X (.Tuple es k pos) (uTup u) := by
  obtain ⟨t, p, h⟩ := h.ex
  refine ⟨_, pe_tup p, fun ρ σ g H Q P I R hu hP => h ρ σ g H _ _ I R hu fun vs H1 e => ?_⟩
  obtain ⟨g1, ds, s1, I1, r1, hz, q1⟩ := e
  exact ⟨by rw [r1.len]; exact hz, fun p np => hP _ _ ((EPost.newT I1 np r1 q1).after s1)⟩
theorem je_lst {es : List Expr} {u : UA} (h : JA S X es u) : JE S X (.List es pos) (uLst u) := by
  obtain ⟨t, p, h⟩ := h.ex
  refine ⟨_, pe_lst p, fun ρ σ g H Q P I R hu hP => h ρ σ g H _ _ I R hu fun vs H1 e => ?_⟩
  obtain ⟨g1, ds, s1, I1, r1, hz, q1⟩ := e
  exact ⟨by rw [r1.len]; exact hz, fun p np => hP _ _ ((EPost.newL I1 np r1 q1).after s1)⟩

/-! ### calls of built-ins -/
theorem liftCB {r : List V → Hp → VK → Prop} {f : List D → UK → Prop} {t : TA} {u : UA} {e : List Expr} (hl : LiftA S r f)
    (h : ∀ (ρ : DEnv) (σ : L2.St) (g : G) (H : Hp) (Q : List D → Prop) (P : List V → Hp → Prop), HInv S g H → RepS g H ρ σ → u ρ Q → (∀ vs H', APost S g H Q vs H' → P vs H') → t σ H P) :
    ∀ (ρ : DEnv) (σ : L2.St) (g : G) (H : Hp) (Q : UK) (P : VK), HInv S g H → RepS g H ρ σ → uF f u ρ Q → (∀ v H', EPost S g H Q v H' → P v H') → tCB r t σ H P := by
  intro ρ σ g H Q P I R hu hP
  refine h ρ σ g H _ _ I R hu fun vs H1 e => ?_
  obtain ⟨g1, ds, s1, I1, r1, q1⟩ := e
  exact hl g1 H1 vs ds Q P I1 r1 q1 fun v H' e => hP v H' (e.after s1)
theorem je_callB {id : String} {x : Str} {p : Pos} {es : List Expr} {r : List V → Hp → VK → Prop} {f : List D → UK → Prop} {u : UA} (hc : CallR X (.builtin id) r) (hl : LiftA S r f) (hg : Gl X x) (hm : X.mg x = none) (hv : bootBuiltins x = some (.builtin id)) (ha : JA S X (a :: es) u)
    (hn : x ≠ "__name__" := by decide) (hdb : (x == ("__debug__" : Str)) = false := by decide) (hs : starEach (a :: es) X.env = (false, eval a X.env) :: starEach es X.env := by rfl) (hp : (backTo pos (starEach es X.env)).any (·.1) = false := by rfl) :
    JE S X (.Call (.Name x p) (a :: es) [] pos) (uF f u) := by
  obtain ⟨t, p1, h⟩ := ha.ex
  exact ⟨_, pe_callB hc hg hm hv p1 hn hdb hs hp, liftCB (e := []) hl h⟩
theorem je_callTy {T : String} {x : Str} {p : Pos} {es : List Expr} {r : List V → Hp → VK → Prop} {f : List D → UK → Prop} {u : UA} (hc : CallR X (.type T) r) (hl : LiftA S r f) (hg : Gl X x) (hm : X.mg x = none) (hv : bootBuiltins x = some (.type T)) (ha : JA S X (a :: es) u)
    (hn : x ≠ "__name__" := by decide) (hdb : (x == ("__debug__" : Str)) = false := by decide) (hs : starEach (a :: es) X.env = (false, eval a X.env) :: starEach es X.env := by rfl) (hp : (backTo pos (starEach es X.env)).any (·.1) = false := by rfl) :
    JE S X (.Call (.Name x p) (a :: es) [] pos) (uF f u) := by
  obtain ⟨t, p1, h⟩ := ha.ex
  exact ⟨_, pe_callTy hc hg hm hv p1 hn hdb hs hp, liftCB (e := []) hl h⟩
end
end DL

/-! DLOps: operators and built-ins over data. -/
namespace DL
open PySem PySem.Spec PyProof.Rows L2

/-! ### ints -/
@[simp] def fI (C : Int → Int → Prop) (k : Int → Int → Int) : D → D → UK → Prop
  | .int i, .int j, Q => C i j ∧ Q false (.int (k i j))
  | _, _, _ => False
@[simp] def fB (k : Int → Int → Bool) : D → D → UK → Prop
  | .int i, .int j, Q => Q false (.bl (k i j))
  | _, _, _ => False
theorem lift_I {S : Src} {C : Int → Int → Prop} {k : Int → Int → Int} : Lift2 S (rI C fun i j => .int (k i j)) (fI C k) := by
  intro g H x y dx dy Q P I rx ry h hP
  cases dx with
  | int i =>
    cases dy with
    | int j =>
      rw [Rep] at rx ry
      exact ⟨i, j, rx, ry, h.1, hP _ _ (EPost.val (d := .int (k i j)) I (by rw [Rep]) h.2)⟩
    | _ => exact h.elim
  | _ => exact h.elim
theorem lift_I0 {S : Src} {k : Int → Int → Int} : Lift2 S (rI0 fun i j => .int (k i j)) (fI (fun _ _ => True) k) := by
  intro g H x y dx dy Q P I rx ry h hP
  cases dx with
  | int i =>
    cases dy with
    | int j =>
      rw [Rep] at rx ry
      exact ⟨i, j, rx, ry, hP _ _ (EPost.val (d := .int (k i j)) I (by rw [Rep]) h.2)⟩
    | _ => exact h.elim
  | _ => exact h.elim
theorem lift_B {S : Src} {k : Int → Int → Bool} : Lift2 S (rI0 fun i j => .bl (k i j)) (fB k) := by
  intro g H x y dx dy Q P I rx ry h hP
  cases dx with
  | int i =>
    cases dy with
    | int j =>
      rw [Rep] at rx ry
      exact ⟨i, j, rx, ry, hP _ _ (EPost.val (d := .bl (k i j)) I (by rw [Rep]) h)⟩
    | _ => exact h.elim
  | _ => exact h.elim
@[simp] def fNeg : D → UK → Prop
  | .int i, Q => Q false (.int (-i))
  | _, _ => False
theorem lift_neg {S : Src} : Lift1 S (rU fun i => .int (-i)) fNeg := by
  intro g H x dx Q P I rx h hP
  cases dx with
  | int i =>
    rw [Rep] at rx
    exact ⟨i, rx, hP _ _ (EPost.val (d := .int (-i)) I (by rw [Rep]) h)⟩
  | _ => exact h.elim

/-! ### + over ints, lists, tuples, texts -/
@[simp] def fAdd : D → D → UK → Prop
  | .int i, .int j, Q => Q false (.int (i + j))
  | .lst a, .lst b, Q => a.length + b.length ≤ sizeLine ∧ Q true (.lst (a ++ b))
  | .tup a, .tup b, Q => a.length + b.length ≤ sizeLine ∧ Q false (.tup (a ++ b))
  | .str a, .str b, Q => a.length + b.length ≤ sizeLine ∧ Q false (.str (a ++ b))
  | _, _, _ => False
/-- list + list, as they are read -/
def rCatL : R2 := fun x y H Q => ∃ l b xs zs, x = .ref l ∧ y = .ref b ∧ Rd H l (.lst xs) ∧ Rd H b (.lst zs) ∧ xs.length + zs.length ≤ sizeLine ∧ ∀ p, H p = none → Q (.ref p) (upd H p (.lst (xs ++ zs)))
theorem rd_lst {X : Cx} {pins : List (Addr × Obj)} {σ : L2.St} {H : Hp} {s : Shared} (I : Inv X pins σ H s) {l : Addr} {xs : List V} (h : Rd H l (.lst xs)) :
    xs.length ≤ sizeLine ∧ ∃ (its : List Value) (n : Nat), Vals xs its ∧ xs.length = its.length ∧ s.heap.get? l = some { cls := .type "list", data := .seq its.toArray n } := by
  obtain ⟨z, its, n, r, e⟩ := h.ok I.hok
  exact ⟨z, its, n, r, r.length, e⟩
theorem op_catL {X : Cx} : OpR X (binaryOp .Add) rCatL := by
  intro pins s σ H x y v u Q I rx ry h
  obtain ⟨l, b, xs, zs, rfl, rfl, hH, hB, hz, q⟩ := h
  cases rx
  cases ry
  obtain ⟨z, its, n, r, hl, e⟩ := rd_lst I hH
  obtain ⟨z2, its2, n2, r2, hl2, e2⟩ := rd_lst I hB
  refine PySem.P.add_list e e2 ?_ (by rw [List.size_toArray, List.size_toArray]; omega)
  have ea : its.toArray ++ its2.toArray = (its ++ its2).toArray := by simp
  rw [ea]
  exact ⟨.ref _, _, I.lnew (t' := s.toks) (r.append r2) (by rw [List.length_append]; omega), rfl, q _ I.fresh⟩
def rAdd4 (K : PySem.W.Frag) : R2 := fun x y H Q => rI0 (fun i j => .int (i + j)) x y H Q ∨ rCatL x y H Q ∨ rCatA K x y H Q ∨ (∃ i j, x = .str i ∧ y = .str j ∧ i.length + j.length ≤ sizeLine ∧ Q (.str (i ++ j)) H)
theorem op_add4 {X : Cx} : OpR X (binaryOp .Add) (rAdd4 X.K) := op_add.or (op_catL.or (op_catA.or op_add_str))
theorem lift_add {S : Src} {K : PySem.W.Frag} : Lift2 S (rAdd4 K) fAdd := by
  intro g H x y dx dy Q P I rx ry h hP
  cases dx with
  | int i =>
    cases dy with
    | int j =>
      rw [Rep] at rx ry
      exact .inl ⟨i, j, rx, ry, hP _ _ (EPost.val (d := .int (i + j)) I (by rw [Rep]) h)⟩
    | _ => exact h.elim
  | str i =>
    cases dy with
    | str j =>
      rw [Rep] at rx ry
      exact .inr (.inr (.inr ⟨i, j, rx, ry, h.1, hP _ _ (EPost.val (d := .str (i ++ j)) I (by rw [Rep]) h.2)⟩))
    | _ => exact h.elim
  | lst a =>
    cases dy with
    | lst b =>
      rw [Rep] at rx ry
      obtain ⟨p, xs, rfl, r1, l1⟩ := rx
      obtain ⟨q, ys, rfl, r2, l2⟩ := ry
      exact .inr (.inl ⟨p, q, xs, ys, rfl, rfl, r1.rd, r2.rd, by rw [l1.len, l2.len]; exact h.1, fun n hn => hP _ _ (EPost.newL I hn (l1.append l2) h.2)⟩)
    | _ => exact h.elim
  | tup a =>
    cases dy with
    | tup b =>
      have rx0 := rx
      have ry0 := ry
      rw [Rep] at rx ry
      obtain ⟨p, xs, rfl, r1, l1⟩ := rx
      obtain ⟨q, ys, rfl, r2, l2⟩ := ry
      refine .inr (.inr (.inl ⟨p, q, xs, ys, rfl, rfl, r1.sq, r2.sq, by rw [l1.len, l2.len]; exact h.1, fun e => ?_, fun _ e => ?_, fun _ _ n hn => hP _ _ (EPost.newT I hn (l1.append l2) h.2)⟩))
      · subst e
        have : a = [] := List.eq_nil_of_length_eq_zero l1.len.symm
        subst this
        exact hP _ _ (EPost.val I ry0 h.2)
      · subst e
        have : b = [] := List.eq_nil_of_length_eq_zero l2.len.symm
        subst this
        refine hP _ _ (EPost.val I rx0 ?_)
        have := h.2
        rwa [List.append_nil] at this
    | _ => exact h.elim
  | _ => exact (show False from h).elim

/-! ### * over ints, list * int, tuple * int -/
@[simp] def fMul : D → D → UK → Prop
  | .int i, .int j, Q => CMul i j ∧ Q false (.int (i * j))
  | .lst a, .int k, Q => (-(2 ^ 62) ≤ k ∧ k < 2 ^ 62 ∧ a.length * k.toNat ≤ sizeLine) ∧ Q true (.lst (List.replicate k.toNat a).flatten)
  | .tup a, .int k, Q => (a ≠ [] ∧ 1 ≤ k ∧ k ≤ 1000 ∧ a.length ≤ 1000) ∧ Q false (.tup (List.replicate k.toNat a).flatten)
  | _, _, _ => False
def rRepL : R2 := fun x y H Q => ∃ l k xs, x = .ref l ∧ y = .int k ∧ Rd H l (.lst xs) ∧ -(2 ^ 63) ≤ k ∧ k < 2 ^ 63 ∧ xs.length * k.toNat ≤ sizeLine ∧
  ∀ p, H p = none → Q (.ref p) (upd H p (.lst (List.replicate k.toNat xs).flatten))
theorem op_repL {X : Cx} : OpR X (binaryOp .Mult) rRepL := by
  intro pins s σ H x y v u Q I rx ry h
  obtain ⟨l, k, xs, rfl, rfl, hH, h1, h2, hz, q⟩ := h
  cases rx
  obtain ⟨t, rfl⟩ := ry
  obtain ⟨z, its, n, r, hl, e⟩ := rd_lst I hH
  have hlen : its.toArray.size * k.toNat ≤ sizeLine := by rw [List.size_toArray, ← hl]; exact hz
  have hcap : ¬ its.toArray.size * k.toNat > (2 ^ 63 - 1) / 8 := by
    have : (sizeLine : Nat) ≤ (2 ^ 63 - 1) / 8 := by decide
    omega
  have hfit : ¬ (!Builtin.List.listFitsIndex k) = true := by
    rw [fitsIndex_both h1 h2]
    exact Bool.false_ne_true
  have hlong : ¬ Builtin.List.listTooLong (its.toArray.size * k.toNat) = true := by
    rw [notLongL hlen]
    exact Bool.false_ne_true
  have hnew : List.foldl (fun x1 x2 => x1 ++ x2) #[] (List.replicate (if its.toArray.isEmpty = true then 0 else k.toNat) its.toArray) = (List.replicate k.toNat its).flatten.toArray := by
    have f0 : ∀ m : Nat, List.foldl (fun x1 x2 => x1 ++ x2) #[] (List.replicate m its.toArray) = (List.replicate m its).flatten.toArray := fun m => by
      have := foldl_rep its m []
      rw [List.nil_append] at this
      exact this
    rw [f0]
    cases its with
    | nil => simp
    | cons a r' => rw [if_neg (by simp)]
  refine wpAny_binaryOp_repeat_ref (T := "list") (U := "int") (by decide) ⟨_, e, rfl⟩ (fun s' => typeIs_int s' k t) noFill_list_mul F.fills_int_mul F.slot_int_rmul repeat_list F.slot_int_index.lookup
    (call_meets F.slot_int_rmul (typeIs_int s k t) F.entry_int_rmul (F.args_int_rmul_2 _ _) (int___rmul___int_list k t l its.toArray n)
      ⟨e, rfl, ⟨_, e, rfl⟩, call_meets F.slot_list_mul ⟨_, e, rfl⟩ F.entry_list_mul (F.args_list_mul_2 _ _) (AutoListH.list___mul___list_int_3 l its.toArray n k t hfit hcap hlong) ⟨e, ?_⟩⟩)
  rw [hnew]
  exact ⟨.ref _, _, I.lnew (t' := s.toks) (r.rep k.toNat) (by rw [PyProof.Rows.lm_len_rep_flat, Nat.mul_comm]; exact hz), rfl, q _ I.fresh⟩
/-- tuple * 1: the tuple itself -/
theorem tuple_mul1 (l : Addr) (items : Array Value) (n : Nat) (sl : Array (Option Value)) (dd : Option Addr) (x : Int) (u : Tok) (c0 : (decide (x < -(2 ^ 63)) || decide (x ≥ 2 ^ 63)) = false) (c1 : (items.isEmpty || x == 1) = true) :
    Meets (Builtin.«tuple.__mul__» ⟨[.ref l, .int x u], []⟩) (fun _ R s => s.heap.get? l = some { cls := .type "tuple", dict := dd, data := .seq items n, slots := sl } ∧
      R (.ok (.ret (Value.ref l))) s) :=
  .of_wp fun prog w A R s h => by
    obtain ⟨hp, g, d, tk, os⟩ := s
    obtain ⟨hl, h⟩ := h
    have f1 := AutoSeq1.idx_int
    wp_walk using wpAny_loadPart' hl
    repeat (first
      | (refine wpAny_ite_false (decide_eq_false (by rw [c0]; exact Bool.false_ne_true)) ?_; wp_walk using wpAny_loadPart' hl)
      | (refine wpAny_ite_true (decide_eq_true (by rw [c1])) ?_; wp_walk using wpAny_loadPart' hl))
    exact ⟨_, rfl, h⟩
def rRepT1 (K : PySem.W.Frag) : R2 := fun x y H Q => ∃ l xs, x = .ref l ∧ y = .int 1 ∧ SqT K H l xs ∧ xs ≠ [] ∧ Q (.ref l) H
theorem op_repT1 {X : Cx} : OpR X (binaryOp .Mult) (rRepT1 X.K) := by
  intro pins s σ H x y v u Q I rx ry h
  obtain ⟨l, xs, rfl, rfl, hT, hne, q⟩ := h
  cases rx
  obtain ⟨t, rfl⟩ := ry
  obtain ⟨its, r, ⟨⟨cls, dd, data, sl⟩, ho, hc, n, hd⟩, hs⟩ := I.tuple hT
  simp only at hc hd
  subst hc hd
  have c0 : (decide ((1 : Int) < -(2 ^ 63)) || decide ((1 : Int) ≥ 2 ^ 63)) = false := by decide
  have c1 : (its.toArray.isEmpty || (1 : Int) == 1) = true := by simp
  exact wpAny_binaryOp_repeat_ref (T := "tuple") (U := "int") (by decide) ⟨_, ho, rfl⟩ (fun s' => typeIs_int s' 1 t) noFill_tuple_mul F.fills_int_mul F.slot_int_rmul repeat_tuple F.slot_int_index.lookup
    (call_meets F.slot_int_rmul (typeIs_int s 1 t) F.entry_int_rmul (F.args_int_rmul_2 _ _) (int_rmul_tuple 1 t l its.toArray n dd sl)
      ⟨ho, rfl, ⟨_, ho, rfl⟩, call_meets F.slot_tuple_mul ⟨_, ho, rfl⟩ F.entry_tuple_mul (F.args_tuple_mul_2 _ _) (tuple_mul1 l its.toArray n sl dd 1 t c0 c1) ⟨ho, ⟨.ref l, H, I, rfl, q⟩⟩⟩)
def rMul4 (K : PySem.W.Frag) : R2 := fun x y H Q => rI CMul (fun i j => .int (i * j)) x y H Q ∨ rRepL x y H Q ∨ rRepT K x y H Q ∨ rRepT1 K x y H Q
theorem op_mul4 {X : Cx} : OpR X (binaryOp .Mult) (rMul4 X.K) := op_mul.or (op_repL.or (op_repT.or op_repT1))
theorem RepL.rep {g : G} {H : Hp} {ds : List D} {vs : List V} (h : RepL g H ds vs) : ∀ k : Nat, RepL g H (List.replicate k ds).flatten (List.replicate k vs).flatten
  | 0 => by simp only [List.replicate_zero, List.flatten_nil]; exact RepL.nil
  | k + 1 => by
    simp only [List.replicate_succ, List.flatten_cons]
    exact h.append (RepL.rep h k)
theorem lift_mul {S : Src} {K : PySem.W.Frag} : Lift2 S (rMul4 K) fMul := by
  intro g H x y dx dy Q P I rx ry h hP
  cases dx with
  | int i =>
    cases dy with
    | int j =>
      rw [Rep] at rx ry
      exact .inl ⟨i, j, rx, ry, h.1, hP _ _ (EPost.val (d := .int (i * j)) I (by rw [Rep]) h.2)⟩
    | _ => exact h.elim
  | lst a =>
    cases dy with
    | int k =>
      rw [Rep] at rx
      rw [Rep] at ry
      obtain ⟨p, xs, rfl, r1, l1⟩ := rx
      obtain ⟨⟨h1, h2, h3⟩, hq⟩ := h
      exact .inr (.inl ⟨p, k, xs, rfl, ry, r1.rd, by omega, by omega, by rw [l1.len]; exact h3, fun n hn => hP _ _ (EPost.newL I hn (l1.rep _) hq)⟩)
    | _ => exact h.elim
  | tup a =>
    cases dy with
    | int k =>
      have rx0 := rx
      rw [Rep] at rx
      rw [Rep] at ry
      obtain ⟨p, xs, rfl, r1, l1⟩ := rx
      obtain ⟨⟨h0, h1, h2, h3⟩, hq⟩ := h
      have hne : xs ≠ [] := fun e => by
        subst e
        exact h0 (List.eq_nil_of_length_eq_zero l1.len.symm)
      by_cases hk : k = 1
      · subst hk
        refine .inr (.inr (.inr ⟨p, xs, rfl, ry, r1.sq, hne, hP _ _ (EPost.val I rx0 ?_)⟩))
        have e : (List.replicate (1 : Int).toNat a).flatten = a := by simp
        rw [e] at hq
        exact hq
      · exact .inr (.inr (.inl ⟨p, k, xs, rfl, ry, r1.sq, hne, by omega, h2, by rw [l1.len]; exact h3, fun n hn => hP _ _ (EPost.newT I hn (l1.rep _) hq)⟩))
    | _ => exact h.elim
  | _ => exact (show False from h).elim

/-! ### == at any depth -/
mutual
def D.py : D → PyData
  | .non => .none
  | .bl b => .bool b
  | .int i => .int i
  | .str x => .str x
  | .tup ds => .tuple (D.pyL ds)
  | .lst ds => .list (D.pyL ds)
  | .src => .dict []
  | .scr _ _ _ => .dict []
def D.pyL : List D → List PyData
  | [] => []
  | d :: ds => d.py :: D.pyL ds
end
mutual
def eqD : D → D → Bool
  | .non, .non => true
  | .bl a, .bl b => a == b
  | .bl a, .int j => (if a then 1 else 0) == j
  | .int i, .bl b => i == (if b then 1 else 0)
  | .int i, .int j => i == j
  | .str x, .str y => x == y
  | .lst xs, .lst ys => eqDL xs ys
  | .tup xs, .tup ys => eqDL xs ys
  | _, _ => false
def eqDL : List D → List D → Bool
  | [], [] => true
  | x :: xs, y :: ys => eqD x y && eqDL xs ys
  | _, _ => false
end
@[simp] theorem eqD_non_non : eqD .non .non = true := by rw [eqD]
@[simp] theorem eqD_non_bl (b : Bool) : eqD .non (.bl b) = false := by rw [eqD] <;> nofun
@[simp] theorem eqD_non_int (b : Int) : eqD .non (.int b) = false := by rw [eqD] <;> nofun
@[simp] theorem eqD_non_str (b : Str) : eqD .non (.str b) = false := by rw [eqD] <;> nofun
@[simp] theorem eqD_non_tup (b : List D) : eqD .non (.tup b) = false := by rw [eqD] <;> nofun
@[simp] theorem eqD_non_lst (b : List D) : eqD .non (.lst b) = false := by rw [eqD] <;> nofun
@[simp] theorem eqD_bl_non (a : Bool) : eqD (.bl a) .non = false := by rw [eqD] <;> nofun
@[simp] theorem eqD_bl_bl (a : Bool) (b : Bool) : eqD (.bl a) (.bl b) = (a == b) := by rw [eqD]
@[simp] theorem eqD_bl_int (a : Bool) (b : Int) : eqD (.bl a) (.int b) = ((if a then 1 else 0) == b) := by rw [eqD]
@[simp] theorem eqD_bl_str (a : Bool) (b : Str) : eqD (.bl a) (.str b) = false := by rw [eqD] <;> nofun
@[simp] theorem eqD_bl_tup (a : Bool) (b : List D) : eqD (.bl a) (.tup b) = false := by rw [eqD] <;> nofun
@[simp] theorem eqD_bl_lst (a : Bool) (b : List D) : eqD (.bl a) (.lst b) = false := by rw [eqD] <;> nofun
@[simp] theorem eqD_int_non (a : Int) : eqD (.int a) .non = false := by rw [eqD] <;> nofun
@[simp] theorem eqD_int_bl (a : Int) (b : Bool) : eqD (.int a) (.bl b) = (a == (if b then 1 else 0)) := by rw [eqD]
@[simp] theorem eqD_int_int (a : Int) (b : Int) : eqD (.int a) (.int b) = (a == b) := by rw [eqD]
@[simp] theorem eqD_int_str (a : Int) (b : Str) : eqD (.int a) (.str b) = false := by rw [eqD] <;> nofun
@[simp] theorem eqD_int_tup (a : Int) (b : List D) : eqD (.int a) (.tup b) = false := by rw [eqD] <;> nofun
@[simp] theorem eqD_int_lst (a : Int) (b : List D) : eqD (.int a) (.lst b) = false := by rw [eqD] <;> nofun
@[simp] theorem eqD_str_non (a : Str) : eqD (.str a) .non = false := by rw [eqD] <;> nofun
@[simp] theorem eqD_str_bl (a : Str) (b : Bool) : eqD (.str a) (.bl b) = false := by rw [eqD] <;> nofun
@[simp] theorem eqD_str_int (a : Str) (b : Int) : eqD (.str a) (.int b) = false := by rw [eqD] <;> nofun
@[simp] theorem eqD_str_str (a : Str) (b : Str) : eqD (.str a) (.str b) = (a == b) := by rw [eqD]
@[simp] theorem eqD_str_tup (a : Str) (b : List D) : eqD (.str a) (.tup b) = false := by rw [eqD] <;> nofun
@[simp] theorem eqD_str_lst (a : Str) (b : List D) : eqD (.str a) (.lst b) = false := by rw [eqD] <;> nofun
@[simp] theorem eqD_tup_non (a : List D) : eqD (.tup a) .non = false := by rw [eqD] <;> nofun
@[simp] theorem eqD_tup_bl (a : List D) (b : Bool) : eqD (.tup a) (.bl b) = false := by rw [eqD] <;> nofun
@[simp] theorem eqD_tup_int (a : List D) (b : Int) : eqD (.tup a) (.int b) = false := by rw [eqD] <;> nofun
@[simp] theorem eqD_tup_str (a : List D) (b : Str) : eqD (.tup a) (.str b) = false := by rw [eqD] <;> nofun
@[simp] theorem eqD_tup_tup (a : List D) (b : List D) : eqD (.tup a) (.tup b) = eqDL a b := by rw [eqD]
@[simp] theorem eqD_tup_lst (a : List D) (b : List D) : eqD (.tup a) (.lst b) = false := by rw [eqD] <;> nofun
@[simp] theorem eqD_lst_non (a : List D) : eqD (.lst a) .non = false := by rw [eqD] <;> nofun
@[simp] theorem eqD_lst_bl (a : List D) (b : Bool) : eqD (.lst a) (.bl b) = false := by rw [eqD] <;> nofun
@[simp] theorem eqD_lst_int (a : List D) (b : Int) : eqD (.lst a) (.int b) = false := by rw [eqD] <;> nofun
@[simp] theorem eqD_lst_str (a : List D) (b : Str) : eqD (.lst a) (.str b) = false := by rw [eqD] <;> nofun
@[simp] theorem eqD_lst_tup (a : List D) (b : List D) : eqD (.lst a) (.tup b) = false := by rw [eqD] <;> nofun
@[simp] theorem eqD_lst_lst (a : List D) (b : List D) : eqD (.lst a) (.lst b) = eqDL a b := by rw [eqD]
@[simp] theorem eqDL_nil : eqDL [] [] = true := by rw [eqDL]
@[simp] theorem eqDL_cons (x y : D) (xs ys : List D) : eqDL (x :: xs) (y :: ys) = (eqD x y && eqDL xs ys) := by rw [eqDL]
@[simp] theorem eqDL_nil_cons (y : D) (ys : List D) : eqDL [] (y :: ys) = false := by rw [eqDL] <;> nofun
@[simp] theorem eqDL_cons_nil (y : D) (ys : List D) : eqDL (y :: ys) [] = false := by rw [eqDL] <;> nofun
mutual
/-- data that == is read of: texts of right signs, no source, depth at most n -/
@[simp] def okD : Nat → D → Bool
  | _, .non => true
  | _, .bl _ => true
  | _, .int _ => true
  | _, .str x => PyData.strOk x
  | n + 1, .tup ds => okDL n ds
  | n + 1, .lst ds => okDL n ds
  | _, _ => false
@[simp] def okDL : Nat → List D → Bool
  | _, [] => true
  | n, d :: ds => okD n d && okDL n ds
end
mutual
theorem eqD_py : ∀ x y : D, ∀ n m, okD n x = true → okD m y = true → PyData.eqv x.py y.py = eqD x y
  | x, y, n, m, hx, hy => by
    cases x with
    | tup xs =>
      cases n with
      | zero => rw [okD] at hx; cases hx; all_goals nofun
      | succ n =>
        rw [okD] at hx
        cases y with
        | tup ys =>
          cases m with
          | zero => rw [okD] at hy; cases hy; all_goals nofun
          | succ m =>
            rw [okD] at hy
            simp only [D.py, PyData.eqv, eqD]
            exact eqDL_py xs ys n m hx hy
        | _ => simp [D.py, PyData.eqv, eqD]
    | lst xs =>
      cases n with
      | zero => rw [okD] at hx; cases hx; all_goals nofun
      | succ n =>
        rw [okD] at hx
        cases y with
        | lst ys =>
          cases m with
          | zero => rw [okD] at hy; cases hy; all_goals nofun
          | succ m =>
            rw [okD] at hy
            simp only [D.py, PyData.eqv, eqD]
            exact eqDL_py xs ys n m hx hy
        | _ => simp [D.py, PyData.eqv, eqD]
    | src => cases n <;> simp [okD] at hx
    | _ =>
      cases y with
      | src => cases m <;> simp [okD] at hy
      | _ => simp [D.py, PyData.eqv, eqD]
theorem eqDL_py : ∀ xs ys : List D, ∀ n m, okDL n xs = true → okDL m ys = true → PyData.eqvAll (D.pyL xs) (D.pyL ys) = eqDL xs ys
  | [], [], _, _, _, _ => by simp [D.pyL, PyData.eqvAll, eqDL]
  | [], y :: ys, _, _, _, _ => by simp [D.pyL, PyData.eqvAll, eqDL]
  | x :: xs, [], _, _, _, _ => by simp [D.pyL, PyData.eqvAll, eqDL]
  | x :: xs, y :: ys, n, m, hx, hy => by
    rw [okDL, Bool.and_eq_true] at hx hy
    simp only [D.pyL, PyData.eqvAll, eqDL]
    rw [eqD_py x y n m hx.1 hy.1, eqDL_py xs ys n m hx.2 hy.2]
end
mutual
theorem okD_lay : ∀ (d : D) (n : Nat), okD n d = true → d.py.canLay0 = true ∧ d.py.depth ≤ n
  | .non, n, _ => by simp [D.py, PyData.canLay0, PyData.depth]
  | .bl _, n, _ => by simp [D.py, PyData.canLay0, PyData.depth]
  | .int _, n, _ => by simp [D.py, PyData.canLay0, PyData.depth]
  | .str x, n, h => by
    have h' : PyData.strOk x = true := by cases n <;> simpa [okD] using h
    simp [D.py, PyData.canLay0, PyData.depth, h']
  | .tup ds, n, h => by
    cases n with
    | zero => simp [okD] at h
    | succ n =>
      rw [okD] at h
      obtain ⟨h1, h2⟩ := okDL_lay ds n h
      simp only [D.py, PyData.canLay0, PyData.depth]
      exact ⟨h1, by omega⟩
  | .lst ds, n, h => by
    cases n with
    | zero => simp [okD] at h
    | succ n =>
      rw [okD] at h
      obtain ⟨h1, h2⟩ := okDL_lay ds n h
      simp only [D.py, PyData.canLay0, PyData.depth]
      exact ⟨h1, by omega⟩
  | .src, n, h => by cases n <;> simp [okD] at h
  | .scr _ _ _, n, h => by cases n <;> simp [okD] at h
theorem okDL_lay : ∀ (ds : List D) (n : Nat), okDL n ds = true → PyData.canLayAll0 (D.pyL ds) = true ∧ PyData.depthAll (D.pyL ds) ≤ n
  | [], n, _ => by simp [D.pyL, PyData.canLayAll0, PyData.depthAll]
  | d :: ds, n, h => by
    rw [okDL, Bool.and_eq_true] at h
    obtain ⟨h1, h2⟩ := okD_lay d n h.1
    obtain ⟨h3, h4⟩ := okDL_lay ds n h.2
    simp only [D.pyL, PyData.canLayAll0, PyData.depthAll, h1, h3, Bool.and_self, true_and]
    omega
end
theorem okD_shaped {d : D} (h : okD 64 d = true) : SeqAt.shaped d.py = true := by
  obtain ⟨h1, h2⟩ := okD_lay d 64 h
  unfold SeqAt.shaped
  rw [h1, Bool.true_and]
  exact decide_eq_true h2
mutual
theorem Rep.dp {K : PySem.W.Frag} {g : G} {H : Hp} : ∀ (d : D) (v : V) (n : Nat), okD n d = true → Rep g H d v → Dp K H v d.py
  | .non, v, _, _, h => by rw [Rep] at h; subst h; rw [D.py]; exact .non
  | .bl b, v, _, _, h => by rw [Rep] at h; subst h; rw [D.py]; exact .bl b
  | .int i, v, _, _, h => by rw [Rep] at h; subst h; rw [D.py]; exact .int i
  | .str x, v, _, _, h => by rw [Rep] at h; subst h; rw [D.py]; exact .str x
  | .tup ds, v, n, o, h => by
    cases n with
    | zero => simp [okD] at o
    | succ n =>
      rw [okD] at o
      rw [Rep] at h
      obtain ⟨a, xs, rfl, r, l⟩ := h
      rw [D.py]
      exact .tup r.sq (RepL.dp ds xs n o l)
  | .lst ds, v, n, o, h => by
    cases n with
    | zero => simp [okD] at o
    | succ n =>
      rw [okD] at o
      rw [Rep] at h
      obtain ⟨a, xs, rfl, r, l⟩ := h
      rw [D.py]
      exact .lst r.sq (RepL.dp ds xs n o l)
  | .src, v, n, o, h => by cases n <;> simp [okD] at o
  | .scr _ _ _, v, n, o, h => by cases n <;> simp [okD] at o
theorem RepL.dp {K : PySem.W.Frag} {g : G} {H : Hp} : ∀ (ds : List D) (vs : List V) (n : Nat), okDL n ds = true → RepL g H ds vs → DpAll K H vs (D.pyL ds)
  | [], vs, _, _, h => by rw [RepL] at h; subst h; rw [D.pyL]; exact .nil
  | d :: ds, vs, n, o, h => by
    rw [okDL, Bool.and_eq_true] at o
    rw [RepL] at h
    obtain ⟨v, r, rfl, h1, h2⟩ := h
    rw [D.pyL]
    exact .cons (Rep.dp d v n o.1 h1) (RepL.dp ds r n o.2 h2)
end
@[simp] def fEq : D → D → UK → Prop := fun x y Q => okD 64 x = true ∧ okD 64 y = true ∧ Q false (.bl (eqD x y))
@[simp] def fNe : D → D → UK → Prop := fun x y Q => okD 64 x = true ∧ okD 64 y = true ∧ Q false (.bl (!eqD x y))
theorem lift_eq {S : Src} {K : PySem.W.Frag} : Lift2 S (rEqD K) fEq := by
  intro g H x y dx dy Q P I rx ry h hP
  obtain ⟨h1, h2, hq⟩ := h
  refine ⟨dx.py, dy.py, rx.dp dx x 64 h1, ry.dp dy y 64 h2, okD_shaped h1, okD_shaped h2, ?_⟩
  rw [eqD_py dx dy 64 64 h1 h2]
  exact hP _ _ (EPost.val (d := .bl (eqD dx dy)) I (by rw [Rep]) hq)
theorem lift_ne {S : Src} {K : PySem.W.Frag} : Lift2 S (rNeD K) fNe := by
  intro g H x y dx dy Q P I rx ry h hP
  obtain ⟨h1, h2, hq⟩ := h
  refine ⟨dx.py, dy.py, rx.dp dx x 64 h1, ry.dp dy y 64 h2, okD_shaped h1, okD_shaped h2, ?_⟩
  rw [eqD_py dx dy 64 64 h1 h2]
  exact hP _ _ (EPost.val (d := .bl (!eqD dx dy)) I (by rw [Rep]) hq)

/-! ### x in xs at any depth -/
def anyEq (xs : List D) (x : D) : Bool := xs.any fun z => eqD z x
def rInA (K : PySem.W.Frag) (neg : Bool) : R2 := fun x y H Q => ∃ d ds, Dp K H x d ∧ (Dp K H y (.list ds) ∨ Dp K H y (.tuple ds)) ∧ SeqAt.shaped d = true ∧ SeqAt.shaped (.list ds) = true ∧ Q (.bl (if neg then !(ds.any fun z => PyData.eqv z d) else ds.any fun z => PyData.eqv z d)) H
theorem op_inA {X : Cx} (hu : X.A.units + 65 < cLine) : OpR X (compareOp .In) (rInA X.K false) := by
  intro pins s σ H x y v u Q I rx ry h
  obtain ⟨d, ds, hd, he, sd, se, q⟩ := h
  obtain ⟨as, r1⟩ := Dp.reads I d x v hd rx
  rcases he with he | he
  · obtain ⟨bs, r2⟩ := Dp.reads I (.list ds) y u he ry
    exact SeqAt.in_list_reads r2 r1 (SeqAt.canLay_of_shaped se) (SeqAt.canLay_of_shaped sd) (room_in_shaped sd hu) ⟨.bl _, H, I, rfl, q⟩
  · obtain ⟨bs, r2⟩ := Dp.reads I (.tuple ds) y u he ry
    exact SeqAt.in_tuple_reads r2 r1 (SeqAt.canLay_of_shaped se) (SeqAt.canLay_of_shaped sd) (room_in_shaped sd hu) ⟨.bl _, H, I, rfl, q⟩
theorem op_notInA {X : Cx} (hu : X.A.units + 65 < cLine) : OpR X (compareOp .NotIn) (rInA X.K true) := by
  intro pins s σ H x y v u Q I rx ry h
  obtain ⟨d, ds, hd, he, sd, se, q⟩ := h
  obtain ⟨as, r1⟩ := Dp.reads I d x v hd rx
  rcases he with he | he
  · obtain ⟨bs, r2⟩ := Dp.reads I (.list ds) y u he ry
    exact SeqAt.notIn_list_reads r2 r1 (SeqAt.canLay_of_shaped se) (SeqAt.canLay_of_shaped sd) (room_in_shaped sd hu) ⟨.bl _, H, I, rfl, q⟩
  · obtain ⟨bs, r2⟩ := Dp.reads I (.tuple ds) y u he ry
    exact SeqAt.notIn_tuple_reads r2 r1 (SeqAt.canLay_of_shaped se) (SeqAt.canLay_of_shaped sd) (room_in_shaped sd hu) ⟨.bl _, H, I, rfl, q⟩
theorem any_py : ∀ (ds : List D) (x : D) (n m : Nat), okDL n ds = true → okD m x = true → ((D.pyL ds).any fun z => PyData.eqv z x.py) = anyEq ds x
  | [], _, _, _, _, _ => by simp [D.pyL, anyEq]
  | d :: ds, x, n, m, h, hx => by
    rw [okDL, Bool.and_eq_true] at h
    simp only [D.pyL, List.any_cons, anyEq]
    rw [eqD_py d x n m h.1 hx, any_py ds x n m h.2 hx]
    rfl
@[simp] def fIn (neg : Bool) : D → D → UK → Prop
  | x, .lst ds, Q => okD 63 x = true ∧ okDL 63 ds = true ∧ Q false (.bl (if neg then !anyEq ds x else anyEq ds x))
  | x, .tup ds, Q => okD 63 x = true ∧ okDL 63 ds = true ∧ Q false (.bl (if neg then !anyEq ds x else anyEq ds x))
  | _, _, _ => False
mutual
theorem okD_succ : ∀ (d : D) (n : Nat), okD n d = true → okD (n + 1) d = true
  | .non, n, _ => by simp [okD]
  | .bl _, n, _ => by simp [okD]
  | .int _, n, _ => by simp [okD]
  | .str x, n, h => by
    have h' : PyData.strOk x = true := by cases n <;> simpa [okD] using h
    simp [okD, h']
  | .tup ds, n, h => by
    cases n with
    | zero => simp [okD] at h
    | succ n => rw [okD] at h ⊢; exact okDL_succ ds n h
  | .lst ds, n, h => by
    cases n with
    | zero => simp [okD] at h
    | succ n => rw [okD] at h ⊢; exact okDL_succ ds n h
  | .src, n, h => by cases n <;> simp [okD] at h
  | .scr _ _ _, n, h => by cases n <;> simp [okD] at h
theorem okDL_succ : ∀ (ds : List D) (n : Nat), okDL n ds = true → okDL (n + 1) ds = true
  | [], n, _ => by simp [okDL]
  | d :: ds, n, h => by
    rw [okDL, Bool.and_eq_true] at h
    rw [okDL, okD_succ d n h.1, okDL_succ ds n h.2]
    rfl
end
theorem lift_in {S : Src} {K : PySem.W.Frag} {neg : Bool} : Lift2 S (rInA K neg) (fIn neg) := by
  intro g H x y dx dy Q P I rx ry h hP
  have fin : ∀ ds, okD 63 dx = true → okDL 63 ds = true → Q false (.bl (if neg then !anyEq ds dx else anyEq ds dx)) → (Dp K H y (.list (D.pyL ds)) ∨ Dp K H y (.tuple (D.pyL ds))) → rInA K neg x y H P := fun ds h1 h2 hq hy => by
    refine ⟨dx.py, D.pyL ds, rx.dp dx x 63 h1, hy, okD_shaped (okD_succ _ _ h1), ?_, ?_⟩
    · have := okD_shaped (d := .lst ds) (by rw [okD]; exact h2)
      rw [D.py] at this
      exact this
    · rw [any_py ds dx 63 63 h2 h1]
      exact hP _ _ (EPost.val (d := .bl (if neg then !anyEq ds dx else anyEq ds dx)) I (by rw [Rep]) hq)
  cases dy with
  | lst ds =>
    have h : okD 63 dx = true ∧ okDL 63 ds = true ∧ Q false (.bl (if neg then !anyEq ds dx else anyEq ds dx)) := h
    refine fin ds h.1 h.2.1 h.2.2 (.inl ?_)
    have := ry.dp (K := K) (.lst ds) y 64 (by rw [okD]; exact h.2.1)
    rw [D.py] at this
    exact this
  | tup ds =>
    have h : okD 63 dx = true ∧ okDL 63 ds = true ∧ Q false (.bl (if neg then !anyEq ds dx else anyEq ds dx)) := h
    refine fin ds h.1 h.2.1 h.2.2 (.inr ?_)
    have := ry.dp (K := K) (.tup ds) y 64 (by rw [okD]; exact h.2.1)
    rw [D.py] at this
    exact this
  | _ => exact (show False from h).elim

/-! ### is None -/
@[simp] def fIsN (neg : Bool) : D → D → UK → Prop
  | x, .non, Q => Q false (.bl (match x with
    | .non => !neg
    | _ => neg))
  | _, _, _ => False
theorem Rep.isNon {g : G} {H : Hp} {d : D} {v : V} (h : Rep g H d v) : decide (v = V.non) = (match d with
    | .non => true
    | _ => false) := by
  cases d with
  | non => rw [Rep] at h; subst h; rfl
  | bl b => rw [Rep] at h; subst h; rfl
  | int b => rw [Rep] at h; subst h; rfl
  | str b => rw [Rep] at h; subst h; rfl
  | tup ds => rw [Rep] at h; obtain ⟨a, xs, rfl, _⟩ := h; rfl
  | lst ds => rw [Rep] at h; obtain ⟨a, xs, rfl, _⟩ := h; rfl
  | src => rw [Rep] at h; obtain ⟨rfl, _⟩ := h; rfl
  | scr => rw [Rep] at h; obtain ⟨rfl, _⟩ := h; rfl
theorem lift_isN {S : Src} : Lift2 S (fun x y H Q => y = .non ∧ Q (.bl (decide (x = .non))) H) (fIsN false) := by
  intro g H x y dx dy Q P I rx ry h hP
  cases dy with
  | non =>
    rw [Rep] at ry
    refine ⟨ry, hP _ _ (EPost.val (d := .bl (decide (x = .non))) I (by rw [Rep]) ?_)⟩
    rw [rx.isNon]
    cases dx <;> exact h
  | _ => cases dx <;> exact (show False from h).elim
theorem lift_notN {S : Src} : Lift2 S (fun x y H Q => y = .non ∧ Q (.bl (!decide (x = .non))) H) (fIsN true) := by
  intro g H x y dx dy Q P I rx ry h hP
  cases dy with
  | non =>
    rw [Rep] at ry
    refine ⟨ry, hP _ _ (EPost.val (d := .bl (!decide (x = .non))) I (by rw [Rep]) ?_)⟩
    rw [rx.isNon]
    cases dx <;> exact h
  | _ => cases dx <;> exact (show False from h).elim

/-! ### built-ins -/
@[simp] def fA1 (f : D → UK → Prop) : List D → UK → Prop
  | [d], Q => f d Q
  | _, _ => False
@[simp] def fA2 (f : D → D → UK → Prop) : List D → UK → Prop
  | [d, e], Q => f d e Q
  | _, _ => False
theorem lift_A1 {S : Src} {r : List V → Hp → VK → Prop} {f : D → UK → Prop} (h : Lift1 S (fun x H Q => r [x] H Q) f) : LiftA S r (fA1 f) := by
  intro g H xs ds Q P I rx hq hP
  cases ds with
  | nil => exact hq.elim
  | cons d ds =>
    cases ds with
    | nil =>
      rw [RepL] at rx
      obtain ⟨v, vs, rfl, r1, r2⟩ := rx
      rw [RepL] at r2
      subst r2
      exact h g H v d Q P I r1 hq hP
    | cons _ _ => exact hq.elim
theorem lift_A2 {S : Src} {r : List V → Hp → VK → Prop} {f : D → D → UK → Prop} (h : Lift2 S (fun x y H Q => r [x, y] H Q) f) : LiftA S r (fA2 f) := by
  intro g H xs ds Q P I rx hq hP
  cases ds with
  | nil => exact hq.elim
  | cons d ds =>
    cases ds with
    | nil => exact hq.elim
    | cons e ds =>
      cases ds with
      | nil =>
        rw [RepL] at rx
        obtain ⟨v, vs, rfl, r1, r2⟩ := rx
        rw [RepL] at r2
        obtain ⟨w, ws, rfl, r3, r4⟩ := r2
        rw [RepL] at r4
        subst r4
        exact h g H v w d e Q P I r1 r3 hq hP
      | cons _ _ => exact hq.elim
@[simp] def fLen : D → UK → Prop
  | .lst ds, Q => Q false (.int ds.length)
  | .tup ds, Q => Q false (.int ds.length)
  | .str x, Q => x.length ≤ sizeLine ∧ Q false (.int x.length)
  | _, _ => False
theorem lift_len {S : Src} {K : PySem.W.Frag} : LiftA S (fun xs H Q => ∃ x n, xs = [x] ∧ LenV K x H n ∧ Q (.int n) H) (fA1 fLen) := by
  refine lift_A1 fun g H x dx Q P I rx h hP => ?_
  cases dx with
  | lst ds =>
    rw [Rep] at rx
    obtain ⟨a, ys, rfl, ra, l⟩ := rx
    exact ⟨_, _, rfl, .inl ⟨ys, ra.sq, rfl⟩, by rw [l.len]; exact hP _ _ (EPost.val (d := .int ds.length) I (by rw [Rep]) h)⟩
  | tup ds =>
    rw [Rep] at rx
    obtain ⟨a, ys, rfl, ra, l⟩ := rx
    exact ⟨_, _, rfl, .inr ⟨ys, ra.sq, rfl⟩, by rw [l.len]; exact hP _ _ (EPost.val (d := .int ds.length) I (by rw [Rep]) h)⟩
  | str x =>
    rw [Rep] at rx
    subst rx
    exact ⟨_, _, rfl, ⟨h.1, rfl⟩, hP _ _ (EPost.val (d := .int x.length) I (by rw [Rep]) h.2)⟩
  | _ => exact (show False from h).elim
@[simp] def fAbs : D → UK → Prop
  | .int i, Q => Q false (.int (if i < 0 then -i else i))
  | _, _ => False
theorem lift_abs {S : Src} : LiftA S (fun xs H Q => ∃ i, xs = [.int i] ∧ Q (.int (if i < 0 then -i else i)) H) (fA1 fAbs) := by
  refine lift_A1 fun g H x dx Q P I rx h hP => ?_
  cases dx with
  | int i =>
    rw [Rep] at rx
    subst rx
    exact ⟨i, rfl, hP _ _ (EPost.val (d := .int (if i < 0 then -i else i)) I (by rw [Rep]) h)⟩
  | _ => exact (show False from h).elim
@[simp] def fInt : D → UK → Prop
  | .int i, Q => Q false (.int i)
  | .bl b, Q => Q false (.int (if b then 1 else 0))
  | _, _ => False
theorem lift_int {S : Src} : LiftA S (fun xs H Q => (∃ i, xs = [.int i] ∧ Q (.int i) H) ∨ ∃ k, xs = [.bl k] ∧ Q (.int (if k then 1 else 0)) H) (fA1 fInt) := by
  refine lift_A1 fun g H x dx Q P I rx h hP => ?_
  cases dx with
  | int i =>
    rw [Rep] at rx
    subst rx
    exact .inl ⟨i, rfl, hP _ _ (EPost.val (d := .int i) I (by rw [Rep]) h)⟩
  | bl i =>
    rw [Rep] at rx
    subst rx
    exact .inr ⟨i, rfl, hP _ _ (EPost.val (d := .int (if i then 1 else 0)) I (by rw [Rep]) h)⟩
  | _ => exact (show False from h).elim
@[simp] def fMax2 : D → D → UK → Prop
  | .int i, .int j, Q => Q false (.int (if j > i then j else i))
  | _, _, _ => False
@[simp] def fMin2 : D → D → UK → Prop
  | .int i, .int j, Q => Q false (.int (if j < i then j else i))
  | _, _, _ => False
theorem lift_max2 {S : Src} : LiftA S (fun xs H Q => ∃ i j, xs = [.int i, .int j] ∧ Q (.int (if j > i then j else i)) H) (fA2 fMax2) := by
  refine lift_A2 fun g H x y dx dy Q P I rx ry h hP => ?_
  cases dx with
  | int i =>
    cases dy with
    | int j =>
      rw [Rep] at rx ry
      subst rx ry
      exact ⟨i, j, rfl, hP _ _ (EPost.val (d := .int (if j > i then j else i)) I (by rw [Rep]) h)⟩
    | _ => exact (show False from h).elim
  | _ => exact (show False from h).elim
theorem lift_min2 {S : Src} : LiftA S (fun xs H Q => ∃ i j, xs = [.int i, .int j] ∧ Q (.int (if j < i then j else i)) H) (fA2 fMin2) := by
  refine lift_A2 fun g H x y dx dy Q P I rx ry h hP => ?_
  cases dx with
  | int i =>
    cases dy with
    | int j =>
      rw [Rep] at rx ry
      subst rx ry
      exact ⟨i, j, rfl, hP _ _ (EPost.val (d := .int (if j < i then j else i)) I (by rw [Rep]) h)⟩
    | _ => exact (show False from h).elim
  | _ => exact (show False from h).elim
@[simp] def fTuple : D → UK → Prop
  | .lst ds, Q => Q false (.tup ds)
  | .tup ds, Q => Q false (.tup ds)
  | _, _ => False
theorem lift_tuple {S : Src} {K : PySem.W.Frag} : LiftA S (fun xs H Q => ∃ p ys, xs = [.ref p] ∧ ((SqL K H p ys ∧ ∀ l, H l = none → Q (.ref l) (upd H l (.tup ys))) ∨ (SqT K H p ys ∧ Q (.ref p) H))) (fA1 fTuple) := by
  refine lift_A1 fun g H x dx Q P I rx h hP => ?_
  cases dx with
  | lst ds =>
    rw [Rep] at rx
    obtain ⟨a, ys, rfl, ra, l⟩ := rx
    exact ⟨a, ys, rfl, .inl ⟨ra.sq, fun p hp => hP _ _ (EPost.newT I hp l h)⟩⟩
  | tup ds =>
    have rx0 := rx
    rw [Rep] at rx
    obtain ⟨a, ys, rfl, ra, l⟩ := rx
    exact ⟨a, ys, rfl, .inr ⟨ra.sq, hP _ _ (EPost.val I rx0 h)⟩⟩
  | _ => exact (show False from h).elim
@[simp] def fList : D → UK → Prop
  | .lst ds, Q => Q true (.lst ds)
  | .tup ds, Q => Q true (.lst ds)
  | _, _ => False
theorem lift_list {S : Src} {K : PySem.W.Frag} : LiftA S (fun xs H Q => ∃ p ys, xs = [.ref p] ∧ (SqL K H p ys ∨ SqT K H p ys) ∧ ∀ l, H l = none → Q (.ref l) (upd H l (.lst ys))) (fA1 fList) := by
  refine lift_A1 fun g H x dx Q P I rx h hP => ?_
  cases dx with
  | lst ds =>
    rw [Rep] at rx
    obtain ⟨a, ys, rfl, ra, l⟩ := rx
    exact ⟨a, ys, rfl, .inl ra.sq, fun p hp => hP _ _ (EPost.newL I hp l h)⟩
  | tup ds =>
    rw [Rep] at rx
    obtain ⟨a, ys, rfl, ra, l⟩ := rx
    exact ⟨a, ys, rfl, .inr ra.sq, fun p hp => hP _ _ (EPost.newL I hp l h)⟩
  | _ => exact (show False from h).elim
@[simp] def fSum : D → UK → Prop
  | .lst ds, Q => ∃ ns : List Int, ds = ns.map D.int ∧ Q false (.int ns.sum)
  | _, _ => False
theorem lift_sum {S : Src} {K : PySem.W.Frag} : LiftA S (rSum K) (fA1 fSum) := by
  refine lift_A1 fun g H x dx Q P I rx h hP => ?_
  cases dx with
  | lst ds =>
    rw [Rep] at rx
    obtain ⟨a, ys, rfl, ra, l⟩ := rx
    obtain ⟨ns, rfl, hq⟩ := h
    have := l.ints
    subst this
    exact ⟨a, ns, rfl, ra.sq, hP _ _ (EPost.val (d := .int ns.sum) I (by rw [Rep]) hq)⟩
  | _ => exact (show False from h).elim
@[simp] def fMaxL : D → UK → Prop
  | .lst ds, Q => ∃ ns : List Int, ds = ns.map D.int ∧ 0 < ns.length ∧ ∀ m, m ∈ ns → (∀ y, y ∈ ns → y ≤ m) → Q false (.int m)
  | _, _ => False
@[simp] def fMinL : D → UK → Prop
  | .lst ds, Q => ∃ ns : List Int, ds = ns.map D.int ∧ 0 < ns.length ∧ ∀ m, m ∈ ns → (∀ y, y ∈ ns → m ≤ y) → Q false (.int m)
  | _, _ => False
theorem lift_maxL {S : Src} {K : PySem.W.Frag} : LiftA S (rMax K) (fA1 fMaxL) := by
  refine lift_A1 fun g H x dx Q P I rx h hP => ?_
  cases dx with
  | lst ds =>
    rw [Rep] at rx
    obtain ⟨a, ys, rfl, ra, l⟩ := rx
    obtain ⟨ns, rfl, h0, hq⟩ := h
    have := l.ints
    subst this
    exact ⟨a, ns, rfl, ra.sq, h0, fun m h1 h2 => hP _ _ (EPost.val (d := .int m) I (by rw [Rep]) (hq m h1 h2))⟩
  | _ => exact (show False from h).elim
theorem lift_minL {S : Src} {K : PySem.W.Frag} : LiftA S (rMin K) (fA1 fMinL) := by
  refine lift_A1 fun g H x dx Q P I rx h hP => ?_
  cases dx with
  | lst ds =>
    rw [Rep] at rx
    obtain ⟨a, ys, rfl, ra, l⟩ := rx
    obtain ⟨ns, rfl, h0, hq⟩ := h
    have := l.ints
    subst this
    exact ⟨a, ns, rfl, ra.sq, h0, fun m h1 h2 => hP _ _ (EPost.val (d := .int m) I (by rw [Rep]) (hq m h1 h2))⟩
  | _ => exact (show False from h).elim
@[simp] def fSorted : D → UK → Prop
  | .lst ds, Q => ∃ ns : List Int, ds = ns.map D.int ∧ ∀ ns' : List Int, ns'.Perm ns → ns'.Pairwise (· ≤ ·) → Q true (.lst (ns'.map D.int))
  | _, _ => False
theorem lift_sorted {S : Src} {K : PySem.W.Frag} : LiftA S (rSortedI K) (fA1 fSorted) := by
  refine lift_A1 fun g H x dx Q P I rx h hP => ?_
  cases dx with
  | lst ds =>
    rw [Rep] at rx
    obtain ⟨a, ys, rfl, ra, l⟩ := rx
    obtain ⟨ns, rfl, hq⟩ := h
    have := l.ints
    subst this
    exact ⟨a, ns, rfl, ra.sq, fun ns' p h1 h2 hp => hP _ _ (EPost.newL I hp (RepL.ofInts ns') (hq ns' h1 h2))⟩
  | _ => exact (show False from h).elim
/-- isinstance(x, T), T a built-in type -/
@[simp] def kindOf : D → String
  | .non => "NoneType"
  | .bl _ => "bool"
  | .int _ => "int"
  | .str _ => "str"
  | .tup _ => "tuple"
  | .lst _ => "list"
  | .src => "?"
  | .scr _ _ _ => "?"
@[simp] def isKind (T : String) : D → Bool
  | .bl _ => T == "bool" || T == "int"
  | d => T == kindOf d
@[simp] def fIsi (T : String) : D → UK → Prop
  | .src, _ => False
  | .scr _ _ _, _ => False
  | d, Q => Q false (.bl (isKind T d))
theorem Rep.ty {K : PySem.W.Frag} {g : G} {H : Hp} {d : D} {v : V} (h : Rep g H d v) (n : d.isSrc = false) : TyX K H v (.type (kindOf d)) := by
  cases d with
  | non => rw [Rep] at h; subst h; exact .base .non
  | bl b => rw [Rep] at h; subst h; exact .base (.bl b)
  | int b => rw [Rep] at h; subst h; exact .base (.int b)
  | str b => rw [Rep] at h; subst h; exact .base (.str b)
  | tup ds => rw [Rep] at h; obtain ⟨a, xs, rfl, r, _⟩ := h; exact .base (.tup r.1)
  | lst ds =>
    rw [Rep] at h; obtain ⟨a, xs, rfl, r, _⟩ := h
    exact .base (.lst r.1)
  | src => cases n
  | scr => cases n
end DL

/-! DLMore: isinstance, places, slices, calls of defs, what is walked, comprehensions. -/
namespace DL
open PySem PySem.Spec PyProof.Rows L2

/-! ### isinstance(x, T) -/
theorem fIsi_mk {T : String} {d : D} {Q : UK} (h : fIsi T d Q) : d.isSrc = false ∧ Q false (.bl (isKind T d)) := by
  cases d with
  | src => exact (show False from h).elim
  | scr => exact (show False from h).elim
  | _ => exact ⟨rfl, h⟩
/-- the second argument is a built-in type's name -/
theorem je_isi {S : Src} {X : Cx} {a : Expr} {ua : UE} {x y : Str} {p1 p2 pos : Pos} {T : String} (hk : ∀ d : D, d.isSrc = false → kitB (kindOf d) T = some (isKind T d)) (hg : Gl X x) (hm : X.mg x = none) (hv : bootBuiltins x = some (.builtin "isinstance"))
    (hg2 : Gl X y) (hm2 : X.mg y = none) (hv2 : bootBuiltins y = some (.type T)) (ha : JE S X a ua)
    (hn : x ≠ "__name__" := by decide) (hdb : (x == ("__debug__" : Str)) = false := by decide) (hn2 : y ≠ "__name__" := by decide) (hdb2 : (y == ("__debug__" : Str)) = false := by decide)
    (hs : starEach [a, .Name y p2] X.env = (false, eval a X.env) :: starEach [.Name y p2] X.env := by rfl) (hs2 : starEach [.Name y p2] X.env = (false, eval (.Name y p2) X.env) :: starEach [] X.env := by rfl) (hp : (backTo pos (starEach [.Name y p2] X.env)).any (·.1) = false := by rfl) :
    JE S X (.Call (.Name x p1) [a, .Name y p2] [] pos) (u1 (fIsi T) ua) := by
  obtain ⟨t, p, h⟩ := ha.ex
  have pb : PE X (.Name y p2) (tC (.ty T)) := pe_bltn hg2 hm2 hv2 rfl hn2 hdb2
  refine ⟨_, pe_callB call_isi hg hm hv (pa_cons p (pa_cons pb pa_nil hs2) hs) hn hdb hs hp, fun ρ σ g H Q P I R hu hP => ?_⟩
  refine h ρ σ g H _ _ I R hu fun v H1 e => ?_
  obtain ⟨g1, d, s1, I1, r1, _, q1⟩ := e.rep
  obtain ⟨n, q⟩ := fIsi_mk q1
  exact ⟨v, .ty T, .type (kindOf d), .type T, isKind T d, rfl, .ty T, r1.ty n, kit_ty (hk d n), hP _ _ ((EPost.val (d := .bl (isKind T d)) I1 (by rw [Rep]) q).after s1)⟩
theorem kit_int : ∀ d : D, d.isSrc = false → kitB (kindOf d) "int" = some (isKind "int" d) := by
  intro d n
  cases d with
  | src => cases n
  | scr => cases n
  | non => decide +kernel
  | bl b => exact (by decide +kernel : kitB "bool" "int" = some (("int" == "bool") || ("int" == "int")))
  | int i => exact (by decide +kernel : kitB "int" "int" = some ("int" == "int"))
  | str i => exact (by decide +kernel : kitB "str" "int" = some ("int" == "str"))
  | tup i => exact (by decide +kernel : kitB "tuple" "int" = some ("int" == "tuple"))
  | lst i => exact (by decide +kernel : kitB "list" "int" = some ("int" == "list"))
theorem kit_bool : ∀ d : D, d.isSrc = false → kitB (kindOf d) "bool" = some (isKind "bool" d) := by
  intro d n
  cases d with
  | src => cases n
  | scr => cases n
  | non => decide +kernel
  | bl b => exact (by decide +kernel : kitB "bool" "bool" = some (("bool" == "bool") || ("bool" == "int")))
  | int i => exact (by decide +kernel : kitB "int" "bool" = some ("bool" == "int"))
  | str i => exact (by decide +kernel : kitB "str" "bool" = some ("bool" == "str"))
  | tup i => exact (by decide +kernel : kitB "tuple" "bool" = some ("bool" == "tuple"))
  | lst i => exact (by decide +kernel : kitB "list" "bool" = some ("bool" == "list"))
theorem kit_tuple : ∀ d : D, d.isSrc = false → kitB (kindOf d) "tuple" = some (isKind "tuple" d) := by
  intro d n
  cases d with
  | src => cases n
  | scr => cases n
  | non => decide +kernel
  | bl b => exact (by decide +kernel : kitB "bool" "tuple" = some (("tuple" == "bool") || ("tuple" == "int")))
  | int i => exact (by decide +kernel : kitB "int" "tuple" = some ("tuple" == "int"))
  | str i => exact (by decide +kernel : kitB "str" "tuple" = some ("tuple" == "str"))
  | tup i => exact (by decide +kernel : kitB "tuple" "tuple" = some ("tuple" == "tuple"))
  | lst i => exact (by decide +kernel : kitB "list" "tuple" = some ("tuple" == "list"))
theorem kit_str : ∀ d : D, d.isSrc = false → kitB (kindOf d) "str" = some (isKind "str" d) := by
  intro d n
  cases d with
  | src => cases n
  | scr => cases n
  | non => decide +kernel
  | bl b => exact (by decide +kernel : kitB "bool" "str" = some (("str" == "bool") || ("str" == "int")))
  | int i => exact (by decide +kernel : kitB "int" "str" = some ("str" == "int"))
  | str i => exact (by decide +kernel : kitB "str" "str" = some ("str" == "str"))
  | tup i => exact (by decide +kernel : kitB "tuple" "str" = some ("str" == "tuple"))
  | lst i => exact (by decide +kernel : kitB "list" "str" = some ("str" == "list"))

/-! ### places -/
theorem RepL.atI {g : G} {H : Hp} {ds : List D} {vs : List V} {i : Int} {d : D} (l : RepL g H ds vs) (h : atI ds i = some d) : ∃ v, L2.atI vs i = some v ∧ Rep g H d v := by
  unfold L2.atI at h ⊢
  rw [l.len]
  cases e : ixN ds.length i with
  | none => rw [e] at h; cases h
  | some j =>
    rw [e] at h
    obtain ⟨v, hv, r⟩ := l.get (show ds[j]? = some d from h)
    exact ⟨v, hv, r⟩
@[simp] def fIx : D → D → UK → Prop
  | .lst ds, .int i, Q => ∃ d, atI ds i = some d ∧ Q false d
  | .tup ds, .int i, Q => ∃ d, atI ds i = some d ∧ Q false d
  | .str z, .int i, Q => z.length ≤ sizeLine ∧ ∃ c, atI z.cps.toList i = some c ∧ Q false (.str ⟨#[c]⟩)
  | _, _, _ => False
theorem lift_ix {S : Src} {K : PySem.W.Frag} : Lift2 S (rIx K) fIx := by
  intro g H x y dx dy Q P I rx ry h hP
  cases dy with
  | int i =>
    rw [Rep] at ry
    cases dx with
    | lst ds =>
      rw [Rep] at rx
      obtain ⟨a, xs, rfl, r1, l1⟩ := rx
      obtain ⟨d, hd, hq⟩ := h
      obtain ⟨v, hv, r⟩ := l1.atI hd
      exact .inl ⟨a, xs, i, v, rfl, ry, r1.sq, hv, hP _ _ (EPost.val I r hq)⟩
    | tup ds =>
      rw [Rep] at rx
      obtain ⟨a, xs, rfl, r1, l1⟩ := rx
      obtain ⟨d, hd, hq⟩ := h
      obtain ⟨v, hv, r⟩ := l1.atI hd
      exact .inr (.inl ⟨a, xs, i, v, rfl, ry, r1.sq, hv, hP _ _ (EPost.val I r hq)⟩)
    | str z =>
      rw [Rep] at rx
      obtain ⟨hz, c, hc, hq⟩ := h
      exact .inr (.inr ⟨z, i, c, rx, ry, hz, hc, hP _ _ (EPost.val (d := .str ⟨#[c]⟩) I (by rw [Rep]) hq)⟩)
    | _ => exact (show False from h).elim
  | _ => cases dx <;> exact (show False from h).elim

/-! ### slices -/
abbrev UO := DEnv → (Option Int → Prop) → Prop
structure JO (S : Src) (X : Cx) (e : Option Expr) (u : UO) : Prop where
  ex : ∃ t : TO, PO X e t ∧ ∀ (ρ : DEnv) (σ : L2.St) (g : G) (H : Hp) (Q : Option Int → Prop) (P : Option Int → Hp → Prop), HInv S g H → RepS g H ρ σ → u ρ Q → (∀ b H', (∃ g', Step g H g' H' ∧ HInv S g' H' ∧ Q b) → P b H') → t σ H P
@[simp] def uNoPart (_ : DEnv) (Q : (Option Int → Prop)) : Prop := Q none
@[simp] def isI (Q : Int → Prop) : D → Prop
  | .int i => Q i
  | _ => False
@[simp] def uPart (u : UE) (ρ : DEnv) (Q : (Option Int → Prop)) : Prop := u ρ fun _ x => isI (fun i => Q (some i)) x
def cutD (xs : List D) (lo hi : Option Int) : List D := (xs.drop (HT.sIx xs.length 0 lo)).take (HT.sIx xs.length xs.length hi - HT.sIx xs.length 0 lo)
@[simp] def fSl : D → Option Int → Option Int → UK → Prop
  | .lst ds, lo, hi, Q => Q true (.lst (cutD ds lo hi))
  | .tup ds, lo, hi, Q => Q false (.tup (cutD ds lo hi))
  | _, _, _, _ => False
@[simp] def uSl (u : UE) (a b : UO) (ρ : DEnv) (Q : UK) : Prop := u ρ fun _ x => a ρ fun lo => b ρ fun hi => fSl x lo hi Q
theorem jo_none {S : Src} {X : Cx} : JO S X none uNoPart := ⟨tNoPart, po_none, fun ρ σ g H Q P I R hu hP => hP none H ⟨g, Step.refl g H, I, hu⟩⟩
theorem jo_some {S : Src} {X : Cx} {e : Expr} {u : UE} (h : JE S X e u) : JO S X (some e) (uPart u) := by
  obtain ⟨t, p, h⟩ := h.ex
  refine ⟨_, po_some p, fun ρ σ g H Q P I R hu hP => h ρ σ g H _ _ I R hu fun v H1 e => ?_⟩
  obtain ⟨g1, d, s1, I1, r1, _, q1⟩ := e.rep
  cases d with
  | int i =>
    rw [Rep] at r1
    exact ⟨i, r1, hP _ _ ⟨g1, s1, I1, q1⟩⟩
  | _ => exact (show False from q1).elim
theorem RepL.cut {g : G} {H : Hp} {ds : List D} {vs : List V} (l : RepL g H ds vs) (lo hi : Option Int) : RepL g H (cutD ds lo hi) (cutV vs lo hi) := by
  unfold cutD cutV
  rw [l.len]
  exact (l.drop _).take _
theorem je_slice {S : Src} {X : Cx} {e : Expr} {lo hi : Option Expr} {u : UE} {ul uh : UO} {pos p2 : Pos} (h : JE S X e u) (hl : JO S X lo ul) (hh : JO S X hi uh) : JE S X (.Subscript e (.Slice lo hi none p2) pos) (uSl u ul uh) := by
  obtain ⟨t, p, h⟩ := h.ex
  obtain ⟨tl, pl, hl⟩ := hl.ex
  obtain ⟨th, ph, hh⟩ := hh.ex
  refine ⟨_, pe_slice (sl_list.or sl_tupA) p pl ph, fun ρ σ g H Q P I R hu hP => h ρ σ g H _ _ I R hu fun v H1 e => ?_⟩
  obtain ⟨g1, d, s1, I1, r1, _, q1⟩ := e.rep
  refine hl ρ σ g1 H1 _ _ I1 (R.step I s1) q1 fun o H2 e2 => ?_
  obtain ⟨g2, s2, I2, q2⟩ := e2
  refine hh ρ σ g2 H2 _ _ I2 ((R.step I s1).step I1 s2) q2 fun o2 H3 e3 => ?_
  obtain ⟨g3, s3, I3, q3⟩ := e3
  have r3 := (r1.step I1 s2).step I2 s3
  have s13 := (s1.trans s2).trans s3
  cases d with
  | lst ds =>
    rw [Rep] at r3
    obtain ⟨a, xs, rfl, ra, l⟩ := r3
    exact .inl ⟨a, xs, rfl, ra.sq, fun p hp => hP _ _ ((EPost.newL I3 hp (l.cut o o2) q3).after s13)⟩
  | tup ds =>
    have r30 := r3
    rw [Rep] at r3
    obtain ⟨a, xs, rfl, ra, l⟩ := r3
    refine .inr ⟨a, xs, rfl, ra.sq, fun hw => ?_, fun _ p hp => hP _ _ ((EPost.newT I3 hp (l.cut o o2) q3).after s13)⟩
    have e : cutD ds o o2 = ds := by
      unfold cutD
      rw [l.len] at hw
      rw [hw.1, hw.2, List.drop_zero, Nat.sub_zero, List.take_length]
    have q3 : Q false (.tup (cutD ds o o2)) := q3
    rw [e] at q3
    exact hP _ _ ((EPost.val I3 r30 q3).after s13)
  | _ => exact (show False from q3).elim

/-! ### calls of the text's defs -/
/-- what a def is worth, over data -/
abbrev Ctr := List D → UK → Prop
def SpOf (S : Src) (C : Ctr) : Sp := fun vs H Q _ => ∃ (ds : List D) (g : G) (R : UK), HInv S g H ∧ RepL g H ds vs ∧ C ds R ∧ ∀ v H', EPost S g H R v H' → Q v H'
@[simp] def uCall (C : Ctr) (u : UA) (ρ : DEnv) (Q : UK) : Prop := u ρ fun ds => Hold (C ds) Q ⟨⟩
section
variable {S : Src} {X : Cx} {k : Nat} {f : Addr} {fd : FuncData} {ps : List Str} {C : Ctr} {x : Str} {p pos : Pos} {e : Expr} {es : List Expr} {u : UA}
theorem je_call (F : FnOk X.prog X.w X.K X.mg X.base CX0 k f fd ps (SpOf S C)) (hr : Room k X.A) (hg : Gl X x) (hm : X.mg x = some (.ref f)) (hk : PySem.W.keepIn X.K (.ref f) = true) (hb : Binds X.K fd ps []) (ha : JA S X (e :: es) u)
    (hdb : (x == ("__debug__" : Str)) = false := by decide) (he : starEach (e :: es) X.env = (false, eval e X.env) :: starEach es X.env := by rfl) (hpl : (backTo pos (starEach es X.env)).any (·.1) = false := by rfl) : JE S X (.Call (.Name x p) (e :: es) [] pos) (uCall C u) := by
  obtain ⟨t, pa, h⟩ := ha.ex
  refine ⟨_, pe_call (E := E0) F hr hg hm hk hb .nil pass0 pa hdb he hpl, fun ρ σ g H Q P I R hu hP => h ρ σ g H _ _ I R hu fun vs H1 e => ?_⟩
  obtain ⟨g1, ds, s1, I1, r1, q1⟩ := e
  show SpOf S C (vs ++ []) H1 P E0
  rw [List.append_nil]
  exact ⟨ds, g1, Q, I1, r1, q1, fun v H' e => hP v H' (e.after s1)⟩
theorem je_call0 (F : FnOk X.prog X.w X.K X.mg X.base CX0 k f fd ps (SpOf S C)) (hr : Room k X.A) (hg : Gl X x) (hm : X.mg x = some (.ref f)) (hk : PySem.W.keepIn X.K (.ref f) = true) (hb : Binds X.K fd ps [])
    (hdb : (x == ("__debug__" : Str)) = false := by decide) : JE S X (.Call (.Name x p) [] [] pos) (uCall C uNil) := by
  refine ⟨_, pe_call0 (E := E0) F hr hg hm hk hb .nil pass0 hdb, fun ρ σ g H Q P I R hu hP => ?_⟩
  show SpOf S C ([] ++ []) H P E0
  exact ⟨[], g, Q, I, RepL.nil, hu, hP⟩
/-! with keywords: the parameters' order as a list of places among the positional and keyword values -/
structure JK (S : Src) (X : Cx) (kws : List Keyword) (u : UA) : Prop where
  ex : ∃ t : TA, PK X kws t ∧ ∀ (ρ : DEnv) (σ : L2.St) (g : G) (H : Hp) (Q : List D → Prop) (P : List V → Hp → Prop), HInv S g H → RepS g H ρ σ → u ρ Q → (∀ vs H', APost S g H Q vs H' → P vs H') → t σ H P
theorem jk_nil : JK S X [] uNil := ⟨tNil, pk_nil, fun ρ σ g H Q P I R hu hP => hP [] H ⟨g, [], Step.refl g H, I, RepL.nil, hu⟩⟩
theorem jk_cons {nm : Option Str} {kpos : Pos} {kws : List Keyword} {ua : UE} {ur : UA} (ha : JE S X e ua) (hr : JK S X kws ur) : JK S X (⟨nm, e, kpos⟩ :: kws) (uCons ua ur) := by
  obtain ⟨t, p, h⟩ := ha.ex
  obtain ⟨t2, p2, h2⟩ := hr.ex
  refine ⟨_, pk_cons p p2, fun ρ σ g H Q P I R hu hP => h ρ σ g H _ _ I R hu fun v H1 e => ?_⟩
  obtain ⟨g1, d, s1, I1, r1, _, q1⟩ := e.rep
  refine h2 ρ σ g1 H1 _ _ I1 (R.step I s1) q1 fun vs H2 e2 => ?_
  obtain ⟨g2, ds, s2, I2, r2, q2⟩ := e2
  exact hP (v :: vs) H2 ⟨g2, d :: ds, s1.trans s2, I2, RepL.cons (r1.step I1 s2) r2, q2⟩
/-- the values at these places -/
@[simp] def pick {α : Type} (xs : List α) : List Nat → List α
  | [] => []
  | i :: r => match xs[i]? with
    | some x => x :: pick xs r
    | none => pick xs r
theorem RepL.pick {g : G} {H : Hp} {ds : List D} {vs : List V} (l : RepL g H ds vs) : ∀ ix : List Nat, RepL g H (DL.pick ds ix) (DL.pick vs ix)
  | [] => RepL.nil
  | i :: r => by
    unfold DL.pick
    cases e : ds[i]? with
    | none =>
      have e2 : vs[i]? = none := by
        rw [List.getElem?_eq_none_iff] at e ⊢
        rw [l.len]; exact e
      rw [e2]
      exact RepL.pick l r
    | some d =>
      obtain ⟨v, hv, rv⟩ := l.get e
      rw [hv]
      exact RepL.cons rv (RepL.pick l r)
theorem Vals.pick {vs : List V} {us : List Value} (l : Vals vs us) : ∀ ix : List Nat, Vals (DL.pick vs ix) (DL.pick us ix)
  | [] => .nil
  | i :: r => by
    unfold DL.pick
    cases e : vs[i]? with
    | none =>
      rw [l.none_of e]
      exact Vals.pick l r
    | some d =>
      obtain ⟨v, hv, rv⟩ := l.get e
      rw [hv]
      exact .cons rv (Vals.pick l r)
/-- how a call with keywords binds: n positional values, keywords named ks, the parameters at these places of both -/
structure KwB (K : PySem.W.Frag) (fd : FuncData) (ps : List Str) (n : Nat) (ks : List Str) (ix : List Nat) : Prop where
  to : ∀ (s : Shared) (us ws : List Value), us.length = n → ws.length = ks.length → BindsTo s fd ⟨us, ks.zip ws⟩ (ps.zip (DL.pick (us ++ ws) ix))
theorem KwB.kbn {K : PySem.W.Frag} {fd : FuncData} {ps : List Str} {n : Nat} {ks : List Str} {ix : List Nat} (h : KwB K fd ps n ks ix) : KBn K fd ps n ks (fun us ws => DL.pick (us ++ ws) ix) (fun vs zs => DL.pick (vs ++ zs) ix) :=
  ⟨fun s us ws _ h1 h2 => h.to s us ws h1 h2, fun r1 r2 => DL.Vals.pick (L2.Vals.append r1 r2) ix⟩
@[simp] def uCallK (C : Ctr) (n m : Nat) (ix : List Nat) (u uk : UA) (ρ : DEnv) (Q : UK) : Prop := u ρ fun ds => uk ρ fun es => ds.length = n ∧ es.length = m ∧ Hold (C (pick (ds ++ es) ix)) Q ⟨⟩
theorem je_callK {n : Nat} {ks : List Str} {ix : List Nat} {kws : List Keyword} {uk : UA} (F : FnOk X.prog X.w X.K X.mg X.base CX0 k f fd ps (SpOf S C)) (hr : Room k X.A) (hg : Gl X x) (hm : X.mg x = some (.ref f)) (hk : PySem.W.keepIn X.K (.ref f) = true) (hb : KwB X.K fd ps n ks ix) (ha : JA S X (e :: es) u) (hkw : JK S X kws uk)
    (hall : (backToKw pos (keywordEach kws X.env)).all (·.1.isSome) = true := by rfl) (hks : (backToKw pos (keywordEach kws X.env)).filterMap (·.1) = ks := by rfl)
    (hdb : (x == ("__debug__" : Str)) = false := by decide) (he : starEach (e :: es) X.env = (false, eval e X.env) :: starEach es X.env := by rfl)
    (hpl : ((backTo pos (starEach (e :: es) X.env)).any (·.1) || (backToKw pos (keywordEach kws X.env)).any (·.1.isNone)) = false := by rfl) : JE S X (.Call (.Name x p) (e :: es) kws pos) (uCallK C n ks.length ix u uk) := by
  obtain ⟨t, pa, h⟩ := ha.ex
  obtain ⟨t2, pk, h2⟩ := hkw.ex
  refine ⟨_, pe_callN (E := E0) F hr hg hm hk hb.kbn pass0 pa pk hall hks hdb he hpl, fun ρ σ g H Q P I R hu hP => h ρ σ g H _ _ I R hu fun vs H1 e => ?_⟩
  obtain ⟨g1, ds, s1, I1, r1, q1⟩ := e
  refine h2 ρ σ g1 H1 _ _ I1 (R.step I s1) q1 fun ws H2 e2 => ?_
  obtain ⟨g2, es', s2, I2, r2, l1, l2, q2⟩ := e2
  exact ⟨by rw [r1.len]; exact l1, by rw [r2.len]; exact l2, _, g2, Q, I2, ((r1.step I1 s2).append r2).pick ix, q2, fun v H' e => hP v H' (e.after (s1.trans s2))⟩
/-- f(k = v, ..) alone -/
theorem pe_callN0 {n : Nat} {ks : List Str} {kws : List Keyword} {sp : Sp} {E : XK} {tk : TA} {g : List Value → List Value → List Value} {gV : List V → List V → List V} (F : FnOk X.prog X.w X.K X.mg X.base CX0 k f fd ps sp) (hr : Room k X.A) (hg : Gl X x) (hm : X.mg x = some (.ref f)) (hk : PySem.W.keepIn X.K (.ref f) = true) (hb : KBn X.K fd ps 0 ks g gV) (hx : Passes CX0 X E)
    (hkw : PK X kws tk) (hall : (backToKw pos (keywordEach kws X.env)).all (·.1.isSome) = true := by rfl) (hks : (backToKw pos (keywordEach kws X.env)).filterMap (·.1) = ks := by rfl)
    (hdb : (x == ("__debug__" : Str)) = false := by decide) (hpl : ((backTo pos (starEach [] X.env)).any (·.1) || (backToKw pos (keywordEach kws X.env)).any (·.1.isNone)) = false := by rfl) :
    PE X (.Call (.Name x p) [] kws pos) (tCallN 0 ks.length sp gV E tNil tk) := by
  refine ⟨fun pins s σ H Q I h => ?_⟩
  refine wpAny_Call_Name_kw (ld_glob I hg hm ?_ hdb)
  refine PySem.W.callWith_KW0 (h₀ := X.base) I.ok.mod.kin hk hall ?_ hpl
  refine thn (hkw.run pos pins s σ H _ I h) fun ws s2 ⟨zs, H2, I2, rz, l1, l2, q2⟩ => ⟨I2.kIn, ?_⟩
  rw [hks]
  exact run_fnN F hr hb hx I2 .nil rz rfl l2 q2
theorem je_callK0 {ks : List Str} {ix : List Nat} {kws : List Keyword} {uk : UA} (F : FnOk X.prog X.w X.K X.mg X.base CX0 k f fd ps (SpOf S C)) (hr : Room k X.A) (hg : Gl X x) (hm : X.mg x = some (.ref f)) (hk : PySem.W.keepIn X.K (.ref f) = true) (hb : KwB X.K fd ps 0 ks ix) (hkw : JK S X kws uk)
    (hall : (backToKw pos (keywordEach kws X.env)).all (·.1.isSome) = true := by rfl) (hks : (backToKw pos (keywordEach kws X.env)).filterMap (·.1) = ks := by rfl)
    (hdb : (x == ("__debug__" : Str)) = false := by decide) 
    (hpl : ((backTo pos (starEach [] X.env)).any (·.1) || (backToKw pos (keywordEach kws X.env)).any (·.1.isNone)) = false := by rfl) : JE S X (.Call (.Name x p) [] kws pos) (uCallK C 0 ks.length ix uNil uk) := by
  obtain ⟨t2, pk, h2⟩ := hkw.ex
  refine ⟨_, pe_callN0 (n := 0) (E := E0) F hr hg hm hk hb.kbn pass0 pk hall hks hdb hpl, fun ρ σ g H Q P I R hu hP => ?_⟩
  refine h2 ρ σ g H _ _ I R hu fun ws H2 e2 => ?_
  obtain ⟨g2, es', s2, I2, r2, l1, l2, q2⟩ := e2
  exact ⟨rfl, by rw [r2.len]; exact l2, _, g2, Q, I2, (RepL.nil.append r2).pick ix, q2, fun v H' e => hP v H' (e.after s2)⟩
end
end DL

/-! DLStmt: statements over data. -/
namespace DL
open PySem PySem.Spec PyProof.Rows L2

theorem Up.trans {g g1 g2 : G} {H H1 H2 : Hp} (a : Up g H g1 H1) (b : Up g1 H1 g2 H2) : Up g H g2 H2 where
  fz := fun x h => b.fz x (a.fz x h)
  rl := fun x h => b.rl x (a.rl x h)
  rt := fun x xs e n => b.rt x xs (a.kt x xs e) (a.rt x xs e n)
  rp := fun ⟨x, h⟩ => (b.rp ⟨x, a.rl x h⟩).trans (a.rp ⟨x, h⟩)
  kt := fun x xs e => b.kt x xs (a.kt x xs e)
  kf := fun x o f e => b.kf x o (a.fz x f) (a.kf x o f e)

/-- what is known of a def's names, heap and ghost in the midst of its body: B is the heap ahead of it (but for what it may change), g0 its ghost -/
structure SInv (S : Src) (g0 : G) (B : Hp) (g : G) (H : Hp) (ρ : DEnv) (σ : L2.St) : Prop where
  st : Step g0 B g H
  hi : HInv S g H
  len : ρ.length = σ.length
  own : ∀ (i : Nat) (d : D), ρ[i]? = some (some (true, d)) → ∃ a xs ds, σ[i]? = some (some (.ref a)) ∧ d = .lst ds ∧ H a = some (.lst xs) ∧ B a = none ∧ ¬ g.fz a ∧ ¬ g.rl a ∧ RepL g H ds xs
  inj : ∀ (i j : Nat) (d e : D) (a : Addr), ρ[i]? = some (some (true, d)) → ρ[j]? = some (some (true, e)) → σ[i]? = some (some (.ref a)) → σ[j]? = some (some (.ref a)) → i = j
  imm : ∀ (i : Nat) (d : D), ρ[i]? = some (some (false, d)) → ∃ v, σ[i]? = some (some v) ∧ Rep g H d v

/-- own lists out of M are hidden -/
@[simp] def vis (M : Nat → Bool) (ρ : DEnv) : DEnv := ρ.mapIdx fun i s => match s with
  | some (true, d) => if M i then some (true, d) else none
  | s => s
/-- own lists in M are from now on shared -/
@[simp] def freeze (M : Nat → Bool) (ρ : DEnv) : DEnv := ρ.mapIdx fun i s => match s with
  | some (true, d) => if M i then some (false, d) else some (true, d)
  | s => s
@[simp] def safe : Bool → D → Bool
  | true, .lst ds => noLstL ds
  | true, _ => false
  | false, d => noLst d
@[simp] def settle (M : Nat → Bool) (t : Bool) (d : D) (ρ : DEnv) : DEnv := if safe t d = true then ρ else freeze M ρ
abbrev allM : Nat → Bool := fun _ => true
theorem vis_all (ρ : DEnv) : vis allM ρ = ρ := by
  unfold vis
  have : (fun (i : Nat) (s : Option (Bool × D)) => match s with
    | some (true, d) => if allM i = true then some (true, d) else none
    | s => s) = fun _ s => s := by
    funext i s
    cases s with
    | none => rfl
    | some p => obtain ⟨t, d⟩ := p; cases t <;> rfl
  rw [this]
  exact List.mapIdx_eq_iff.mpr fun i => by simp
theorem vis_get {M : Nat → Bool} {ρ : DEnv} {i : Nat} {t : Bool} {d : D} (h : (vis M ρ)[i]? = some (some (t, d))) : ρ[i]? = some (some (t, d)) ∧ (t = true → M i = true) := by
  unfold vis at h
  rw [List.getElem?_mapIdx] at h
  cases e : ρ[i]? with
  | none => rw [e] at h; cases h
  | some s =>
    rw [e] at h
    cases s with
    | none => cases h
    | some p =>
      obtain ⟨t', d'⟩ := p
      cases t' with
      | false =>
        simp only [Option.map_some, Option.some.injEq] at h
        rw [h]
        cases h
        exact ⟨rfl, fun z => by cases z⟩
      | true =>
        simp only [Option.map_some] at h
        by_cases hm : M i = true
        · rw [if_pos hm] at h
          simp only [Option.some.injEq] at h
          cases h
          exact ⟨rfl, fun _ => hm⟩
        · rw [if_neg hm] at h; cases h
theorem freeze_own {M : Nat → Bool} {ρ : DEnv} {i : Nat} {d : D} (h : (freeze M ρ)[i]? = some (some (true, d))) : ρ[i]? = some (some (true, d)) ∧ ¬ M i = true := by
  unfold freeze at h
  rw [List.getElem?_mapIdx] at h
  cases e : ρ[i]? with
  | none => rw [e] at h; cases h
  | some s =>
    rw [e] at h
    cases s with
    | none => cases h
    | some p =>
      obtain ⟨t', d'⟩ := p
      cases t' with
      | false => simp only [Option.map_some, Option.some.injEq] at h; cases h
      | true =>
        simp only [Option.map_some] at h
        by_cases hm : M i = true
        · rw [if_pos hm] at h; simp only [Option.some.injEq] at h; cases h
        · rw [if_neg hm] at h
          simp only [Option.some.injEq] at h
          cases h
          exact ⟨rfl, hm⟩
theorem freeze_imm {M : Nat → Bool} {ρ : DEnv} {i : Nat} {d : D} (h : (freeze M ρ)[i]? = some (some (false, d))) : ρ[i]? = some (some (false, d)) ∨ (ρ[i]? = some (some (true, d)) ∧ M i = true) := by
  unfold freeze at h
  rw [List.getElem?_mapIdx] at h
  cases e : ρ[i]? with
  | none => rw [e] at h; cases h
  | some s =>
    rw [e] at h
    cases s with
    | none => cases h
    | some p =>
      obtain ⟨t', d'⟩ := p
      cases t' with
      | false => simp only [Option.map_some, Option.some.injEq] at h; cases h; exact .inl rfl
      | true =>
        simp only [Option.map_some] at h
        by_cases hm : M i = true
        · rw [if_pos hm] at h
          simp only [Option.some.injEq] at h
          cases h
          exact .inr ⟨rfl, hm⟩
        · rw [if_neg hm] at h; simp only [Option.some.injEq] at h; cases h
theorem freeze_len (M : Nat → Bool) (ρ : DEnv) : (freeze M ρ).length = ρ.length := by unfold freeze; rw [List.length_mapIdx]
theorem vis_len (M : Nat → Bool) (ρ : DEnv) : (vis M ρ).length = ρ.length := by unfold vis; rw [List.length_mapIdx]

section
variable {S : Src} {g0 g : G} {B H : Hp} {ρ : DEnv} {σ : L2.St}
/-- how an expression sees the names: own lists in M count as frozen meanwhile; behind it they are own again (where the value has no list), or shared -/
theorem SInv.view (I : SInv S g0 B g H ρ σ) (M : Nat → Bool) : ∃ gv : G, HInv S gv H ∧ RepS gv H (vis M ρ) σ ∧ ∀ g' H', Step gv H g' H' → HInv S g' H' →
    SInv S g0 B g' H' (freeze M ρ) σ ∧ ∃ g2, SInv S g0 B g2 H' ρ σ ∧ g2.rl = g'.rl ∧ g2.rp = g'.rp ∧ (∀ a, g2.fz a → g'.fz a) := by
  let W : Addr → Prop := fun a => ∃ i d, M i = true ∧ ρ[i]? = some (some (true, d)) ∧ σ[i]? = some (some (.ref a))
  have hW : ∀ a, W a → (∃ xs, H a = some (.lst xs)) ∧ B a = none ∧ ¬ g.fz a ∧ ¬ g.rl a := fun a ⟨i, d, _, h1, h2⟩ => by
    obtain ⟨a', xs, ds, e1, _, e2, e3, e4, e5, _⟩ := I.own i d h1
    rw [h2] at e1
    cases e1
    exact ⟨⟨xs, e2⟩, e3, e4, e5⟩
  let gv : G := { g with fz := fun a => g.fz a ∨ W a }
  have Iv : HInv S gv H := ⟨fun a ha => by
    rcases ha with ha | ha
    · exact I.hi.fz a ha
    · obtain ⟨⟨xs, e⟩, _⟩ := hW a ha
      exact ⟨_, e⟩, fun a ha hb => by
    rcases hb with hb | hb
    · exact I.hi.dis a ha hb
    · exact (hW a hb).2.2.2 ha, I.hi.rl, I.hi.tb.1, fun a o f e => by
    rcases f with f | f
    · exact I.hi.tb.2 a o f e
    · obtain ⟨⟨xs, e'⟩, _⟩ := hW a f
      rw [e] at e'; cases e'; exact id⟩
  have up : Up g H gv H := ⟨fun a h => .inl h, fun _ h => h, fun _ _ _ n => n, fun _ => rfl, fun _ _ h => h, fun _ _ _ h => h⟩
  have Rv : RepS gv H (vis M ρ) σ := ⟨by rw [vis_len]; exact I.len, fun i t d e => by
    obtain ⟨e1, e2⟩ := vis_get e
    cases t with
    | false =>
      obtain ⟨v, hv, r⟩ := I.imm i d e1
      exact ⟨v, hv, Rep.up up d v r⟩
    | true =>
      obtain ⟨a, xs, ds, h1, rfl, h2, h3, h4, h5, h6⟩ := I.own i d e1
      exact ⟨.ref a, h1, by rw [Rep]; exact ⟨a, xs, rfl, ⟨h2, .inr ⟨i, _, e2 rfl, e1, h1⟩⟩, RepL.up up ds xs h6⟩⟩⟩
  refine ⟨gv, Iv, Rv, fun g' H' s I' => ?_⟩
  have fzn : ∀ a, g'.fz a → g.fz a ∨ W a ∨ H a = none := fun a ha => by
    rcases s.fzn a ha with z | z
    · rcases z with z | z
      · exact .inl z
      · exact .inr (.inl z)
    · exact .inr (.inr z)
  have upg : Up g H g' H' := up.trans (s.up Iv)
  refine ⟨?_, ?_⟩
  · refine ⟨⟨fun a h => s.fz a (.inl (I.st.fz a h)), fun a h => ?_, fun a h => s.rl a (I.st.rl a h), fun a h => ?_, fun ⟨a, h⟩ => (s.rp ⟨a, I.st.rl a h⟩).trans (I.st.rp ⟨a, h⟩), fun a o e n nt => ?_, fun a o e => ?_⟩, I', ?_, fun i d e => ?_, fun i j d e a h1 h2 h3 h4 => ?_, fun i d e => ?_⟩
    · rcases fzn a h with z | z | z
      · exact I.st.fzn a z
      · exact .inr (hW a z).2.1
      · exact .inr (I.st.free z)
    · rcases s.rln a h with z | z
      · exact I.st.rln a z
      · exact .inr (I.st.free z)
    · refine s.keep a o (I.st.keep a o e n nt) (fun z => ?_) nt
      rcases I.st.rln a z with q | q
      · exact n q
      · rw [e] at q; cases q
    · obtain ⟨o1, e1⟩ := I.st.there a o e
      exact s.there a o1 e1
    · rw [freeze_len]; exact I.len
    · obtain ⟨e1, hm⟩ := freeze_own e
      obtain ⟨a, xs, ds, h1, rfl, h2, h3, h4, h5, h6⟩ := I.own i d e1
      refine ⟨a, xs, ds, h1, rfl, s.keep a _ h2 h5 (fun _ z => by cases z), h3, fun z => ?_, fun z => ?_, RepL.up upg ds xs h6⟩
      · rcases fzn a z with q | q | q
        · exact h4 q
        · obtain ⟨j, d', hj, e2, e3⟩ := q
          have : i = j := I.inj i j _ _ a e1 e2 h1 e3
          subst this
          exact hm hj
        · rw [h2] at q; cases q
      · rcases s.rln a z with q | q
        · exact h5 q
        · rw [h2] at q; cases q
    · exact I.inj i j d e a (freeze_own h1).1 (freeze_own h2).1 h3 h4
    · rcases freeze_imm e with e1 | ⟨e1, hm⟩
      · obtain ⟨v, hv, r⟩ := I.imm i d e1
        exact ⟨v, hv, Rep.up upg d v r⟩
      · obtain ⟨a, xs, ds, h1, rfl, h2, h3, h4, h5, h6⟩ := I.own i d e1
        exact ⟨.ref a, h1, by rw [Rep]; exact ⟨a, xs, rfl, ⟨(s.keep a _ h2 h5 (fun _ z => by cases z)), s.fz a (.inr ⟨i, _, hm, e1, h1⟩)⟩, RepL.up upg ds xs h6⟩⟩
  · let g2 : G := { g' with fz := fun a => g'.fz a ∧ ¬ W a }
    have s2 : Step g H g2 H' := ⟨fun a h => ⟨s.fz a (.inl h), fun z => (hW a z).2.2.1 h⟩, fun a h => by
      rcases fzn a h.1 with z | z | z
      · exact .inl z
      · exact absurd z h.2
      · exact .inr z, s.rl, s.rln, s.rp, s.keep, s.there⟩
    have I2 : HInv S g2 H' := ⟨fun a h => I'.fz a h.1, fun a h z => I'.dis a h z.1, I'.rl, I'.tb.1, fun a o f e => I'.tb.2 a o f.1 e⟩
    have up2 : Up g H g2 H' := s2.up I.hi
    refine ⟨g2, ⟨I.st.trans s2, I2, I.len, fun i d e => ?_, I.inj, fun i d e => ?_⟩, rfl, rfl, fun a h => h.1⟩
    · obtain ⟨a, xs, ds, h1, rfl, h2, h3, h4, h5, h6⟩ := I.own i d e
      refine ⟨a, xs, ds, h1, rfl, s2.keep a _ h2 h5 (fun _ z => by cases z), h3, fun z => ?_, fun z => ?_, RepL.up up2 ds xs h6⟩
      · rcases fzn a z.1 with q | q | q
        · exact h4 q
        · exact z.2 q
        · rw [h2] at q; cases q
      · rcases s2.rln a z with q | q
        · exact h5 q
        · rw [h2] at q; cases q
    · obtain ⟨v, hv, r⟩ := I.imm i d e
      exact ⟨v, hv, Rep.up up2 d v r⟩
/-- an expression is evaluated in the midst of a body -/
theorem SInv.expr (I : SInv S g0 B g H ρ σ) (M : Nat → Bool) {u : UE} {te : TE} {Q : UK} {P : VK}
    (h : ∀ (ρ : DEnv) (σ : L2.St) (g : G) (H : Hp) (Q : UK) (P : VK), HInv S g H → RepS g H ρ σ → u ρ Q → (∀ v H', EPost S g H Q v H' → P v H') → te σ H P) (hu : u (vis M ρ) Q)
    (hP : ∀ v H' t d g', SInv S g0 B g' H' (settle M t d ρ) σ → RepT g' H' t d v → (t = true → ∀ a, v = .ref a → H a = none) → (∀ a o, H a = some o → ∃ o', H' a = some o') → Q t d → P v H') : te σ H P := by
  obtain ⟨gv, Iv, Rv, fin⟩ := I.view M
  refine h (vis M ρ) σ gv H Q P Iv Rv hu fun v H' e => ?_
  obtain ⟨g', t, d, s, I', r, f, q⟩ := e.ex
  obtain ⟨f1, g2, f2, e1, e2, e3⟩ := fin g' H' s I'
  by_cases hs : safe t d = true
  · refine hP v H' t d g2 ?_ ?_ f s.there q
    · rw [settle, if_pos hs]
      exact f2
    · cases t with
      | false => exact Rep.noLst (g := g') (g' := g2) e1 e2 d v hs r
      | true =>
        obtain ⟨a, xs, ds, rfl, rfl, h1, h2, h3, h4⟩ := r
        exact ⟨a, xs, ds, rfl, rfl, h1, fun z => h2 (e3 a z), by rw [e1]; exact h3, RepL.noLst (g := g') (g' := g2) e1 e2 ds xs hs h4⟩
  · refine hP v H' t d g' ?_ r f s.there q
    rw [settle, if_neg hs]
    exact f1
/-- a test is evaluated in the midst of a body -/
theorem SInv.test (I : SInv S g0 B g H ρ σ) {u : UT} {te : TT} {Q : Bool → Prop} {P : Bool → Hp → Prop}
    (h : ∀ (ρ : DEnv) (σ : L2.St) (g : G) (H : Hp) (Q : Bool → Prop) (P : Bool → Hp → Prop), HInv S g H → RepS g H ρ σ → u ρ Q → (∀ v H', TPost S g H Q v H' → P v H') → te σ H P) (hu : u ρ Q)
    (hP : ∀ b H' g', SInv S g0 B g' H' ρ σ → Q b → P b H') : te σ H P := by
  refine I.expr allM (u := fun ρ Q => u ρ fun k => Q false (.bl k)) (te := fun σ H P => te σ H fun k H' => P (.bl k) H') (Q := fun t d => t = false ∧ isB Q d) (P := fun v H' => match v with
    | .bl k => P k H'
    | _ => True) ?_ ?_ ?_
  · intro ρ σ g H Q P I R hu hP
    refine h ρ σ g H _ _ I R hu fun k H' e => ?_
    obtain ⟨g', s, I', q⟩ := e
    exact hP _ _ ⟨g', false, .bl k, s, I', by show Rep _ _ _ _; rw [Rep], fun z => (by cases z), q⟩
  · rw [vis_all]
    have e : (fun k => (fun t d => t = false ∧ isB Q d) false (D.bl k)) = Q := by
      funext k
      show (false = false ∧ Q k) = Q k
      simp
    rw [e]
    exact hu
  · intro v H' t d g' I' r _ _ q
    obtain ⟨rfl, q⟩ := q
    cases d with
    | bl k =>
      have r : Rep g' H' (.bl k) v := r
      rw [Rep] at r
      subst r
      exact hP k H' g' I' q
    | _ => exact (show False from q).elim
/-- a name is bound to a value -/
theorem SInv.set (I : SInv S g0 B g H ρ σ) {i : Nat} {t : Bool} {d : D} {v : V} (r : RepT g H t d v) (f : t = true → ∀ a, v = .ref a → B a = none ∧ ∀ j e, ρ[j]? = some (some (true, e)) → σ[j]? = some (some (.ref a)) → j = i) :
    SInv S g0 B g H (ρ.set i (some (t, d))) (σ.set i (some v)) := by
  have at_ : ∀ (j : Nat) (x : Bool × D), (ρ.set i (some (t, d)))[j]? = some (some x) → (j = i ∧ x = (t, d) ∧ (σ.set i (some v))[j]? = some (some v)) ∨ (j ≠ i ∧ ρ[j]? = some (some x) ∧ (σ.set i (some v))[j]? = σ[j]?) := fun j x e => by
    by_cases hj : i = j
    · subst hj
      have hl : i < ρ.length := by
        have := (List.getElem?_eq_some_iff.mp e).1
        rwa [List.length_set] at this
      rw [List.getElem?_set_self hl] at e
      cases e
      exact .inl ⟨rfl, rfl, List.getElem?_set_self (by rw [← I.len]; exact hl)⟩
    · rw [List.getElem?_set_ne hj] at e
      exact .inr ⟨Ne.symm hj, e, List.getElem?_set_ne hj⟩
  refine ⟨I.st, I.hi, by rw [List.length_set, List.length_set]; exact I.len, fun j e h => ?_, fun j k e e' a h1 h2 h3 h4 => ?_, fun j e h => ?_⟩
  · rcases at_ j _ h with ⟨rfl, h2, h3⟩ | ⟨hj, h2, h3⟩
    · cases h2
      obtain ⟨a, xs, ds, rfl, rfl, r1, r2, r3, r4⟩ := r
      exact ⟨a, xs, ds, h3, rfl, r1, (f rfl a rfl).1, r2, r3, r4⟩
    · rw [h3]
      exact I.own j e h2
  · rcases at_ j _ h1 with ⟨rfl, p2, p3⟩ | ⟨hj, p2, p3⟩
    · rcases at_ k _ h2 with ⟨rfl, q2, q3⟩ | ⟨hk, q2, q3⟩
      · rfl
      · cases p2
        rw [p3] at h3
        cases h3
        rw [q3] at h4
        exact ((f rfl a rfl).2 k _ q2 h4).symm
    · rcases at_ k _ h2 with ⟨rfl, q2, q3⟩ | ⟨hk, q2, q3⟩
      · cases q2
        rw [q3] at h4
        cases h4
        rw [p3] at h3
        exact (f rfl a rfl).2 j _ p2 h3
      · rw [p3] at h3
        rw [q3] at h4
        exact I.inj j k e e' a p2 q2 h3 h4
  · rcases at_ j _ h with ⟨rfl, h2, h3⟩ | ⟨hj, h2, h3⟩
    · cases h2
      exact ⟨v, h3, r⟩
    · rw [h3]
      exact I.imm j e h2

/-! ### statements -/
structure UEnds where
  nx : DEnv → Prop
  rt : UK
  bk : DEnv → Prop := fun _ => False
  ct : DEnv → Prop := fun _ => False
abbrev US := UEnds → DEnv → Prop
/-- what is wanted behind a statement, over data and over the heap -/
structure Glue (S : Src) (g0 : G) (B : Hp) (D : UEnds) (D' : Ends) : Prop where
  nx : ∀ g H ρ σ, SInv S g0 B g H ρ σ → D.nx ρ → D'.nx σ H
  rt : ∀ g H v t d, Step g0 B g H → HInv S g H → RepT g H t d v → (t = true → ∀ a, v = .ref a → B a = none) → D.rt t d → D'.rt v H
  bk : ∀ g H ρ σ, SInv S g0 B g H ρ σ → D.bk ρ → D'.bk σ H
  ct : ∀ g H ρ σ, SInv S g0 B g H ρ σ → D.ct ρ → D'.ct σ H
structure JS (S : Src) (X : Cx) (st : Stmt) (u : US) : Prop where
  ex : ∃ t : TS, PS X st t ∧ ∀ (g0 : G) (B : Hp) (g : G) (H : Hp) (ρ : DEnv) (σ : L2.St) (D : UEnds) (D' : Ends), SInv S g0 B g H ρ σ → u D ρ → Glue S g0 B D D' → t D' σ H
structure JSs (S : Src) (X : Cx) (st : List Stmt) (u : US) : Prop where
  ex : ∃ t : TS, PSs X st t ∧ ∀ (g0 : G) (B : Hp) (g : G) (H : Hp) (ρ : DEnv) (σ : L2.St) (D : UEnds) (D' : Ends), SInv S g0 B g H ρ σ → u D ρ → Glue S g0 B D D' → t D' σ H

@[simp] def sNext (D : UEnds) (ρ : DEnv) : Prop := D.nx ρ
@[simp] def sSeq (a b : US) (D : UEnds) (ρ : DEnv) : Prop := a { D with nx := b D } ρ
@[simp] def sBreak (D : UEnds) (ρ : DEnv) : Prop := D.bk ρ
@[simp] def sCont (D : UEnds) (ρ : DEnv) : Prop := D.ct ρ
@[simp] def sRet (u : UE) (D : UEnds) (ρ : DEnv) : Prop := u ρ D.rt
@[simp] def sRetN (D : UEnds) (_ : DEnv) : Prop := D.rt false .non
@[simp] def sIf (c : UT) (a b : US) (D : UEnds) (ρ : DEnv) : Prop := c ρ fun k => if k = true then a D ρ else b D ρ
@[simp] def sAsg (i : Nat) (u : UE) (D : UEnds) (ρ : DEnv) : Prop := u ρ fun t d => D.nx ((settle allM t d ρ).set i (some (t, d)))
@[simp] def sAsgM (M : List Nat) (i : Nat) (u : UE) (D : UEnds) (ρ : DEnv) : Prop := u (vis (fun j => M.contains j) ρ) fun t d => D.nx ((settle (fun j => M.contains j) t d ρ).set i (some (t, d)))
@[simp] def sExpr (u : UE) (D : UEnds) (ρ : DEnv) : Prop := u ρ fun t d => D.nx (settle allM t d ρ)
end
section
variable {S : Src} {X : Cx} {st : Stmt} {rest : List Stmt} {u ub : US} {e : Expr} {ue : UE} {uc : UT} {pos : Pos}
theorem jss_nil : JSs S X [] sNext := ⟨tNext, pss_nil, fun g0 B g H ρ σ D D' I h gl => gl.nx g H ρ σ I h⟩
theorem jss_cons (h1 : JS S X st u) (h2 : JSs S X rest ub) : JSs S X (st :: rest) (sSeq u ub) := by
  obtain ⟨t1, p1, h1⟩ := h1.ex
  obtain ⟨t2, p2, h2⟩ := h2.ex
  exact ⟨tSeq t1 t2, pss_cons p1 p2, fun g0 B g H ρ σ D D' I h gl => h1 g0 B g H ρ σ { D with nx := ub D } { D' with nx := t2 D' } I h
    ⟨fun g H ρ σ I h => h2 g0 B g H ρ σ D D' I h gl, gl.rt, gl.bk, gl.ct⟩⟩
theorem jss_one (h1 : JS S X st u) : JSs S X [st] u := by
  obtain ⟨t1, p1, h1⟩ := h1.ex
  exact ⟨t1, pss_one p1, h1⟩
theorem js_pass : JS S X (.Pass pos) sNext := ⟨tNext, ps_pass, fun g0 B g H ρ σ D D' I h gl => gl.nx g H ρ σ I h⟩
theorem js_break : JS S X (.Break pos) sBreak := ⟨tBreak, ps_break, fun g0 B g H ρ σ D D' I h gl => gl.bk g H ρ σ I h⟩
theorem js_continue : JS S X (.Continue pos) sCont := ⟨tCont, ps_continue, fun g0 B g H ρ σ D D' I h gl => gl.ct g H ρ σ I h⟩
theorem js_doc {x j pos pos'} : JS S X (.Expr (.Constant (.str x) j pos) pos') sNext := ⟨tNext, ps_doc, fun g0 B g H ρ σ D D' I h gl => gl.nx g H ρ σ I h⟩
theorem js_ret (he : JE S X e ue) : JS S X (.Return (some e) pos) (sRet ue) := by
  obtain ⟨t, p, h⟩ := he.ex
  refine ⟨_, ps_ret p, fun g0 B g H ρ σ D D' I hu gl => ?_⟩
  refine I.expr allM h (by rw [vis_all]; exact hu) fun v H' t d g' I' r f _ q => gl.rt g' H' v t d I'.st I'.hi r (fun z a ea => I.st.free (f z a ea)) q
theorem js_retN : JS S X (.Return none pos) sRetN := ⟨tRetN, ps_retN, fun g0 B g H ρ σ D D' I h gl => gl.rt g H .non false .non I.st I.hi (by show Rep _ _ _ _; rw [Rep]) (fun z => (by cases z)) h⟩
theorem js_if {c : Expr} {a b : List Stmt} {ua ub : US} (hc : JT S X c uc) (ha : JSs S X a ua) (hb : JSs S X b ub) : JS S X (.If c a b pos) (sIf uc ua ub) := by
  obtain ⟨tc, pc, hc⟩ := hc.ex
  obtain ⟨t1, p1, h1⟩ := ha.ex
  obtain ⟨t2, p2, h2⟩ := hb.ex
  refine ⟨_, ps_if pc p1 p2, fun g0 B g H ρ σ D D' I hu gl => I.test hc hu fun b H' g' I' q => ?_⟩
  cases b with
  | true => exact h1 g0 B g' H' ρ σ D D' I' q gl
  | false => exact h2 g0 B g' H' ρ σ D D' I' q gl
theorem settle_own {M : Nat → Bool} {t : Bool} {d : D} {ρ : DEnv} {j : Nat} {e : D} (h : (settle M t d ρ)[j]? = some (some (true, e))) : ρ[j]? = some (some (true, e)) := by
  unfold settle at h
  split at h
  · exact h
  · exact (freeze_own h).1
theorem asg_core {g0 g : G} {B H : Hp} {ρ : DEnv} {σ : L2.St} (I : SInv S g0 B g H ρ σ) (M : Nat → Bool) {i : Nat} {te : TE} {D : UEnds} {D' : Ends} (gl : Glue S g0 B D D')
    (h : ∀ (ρ : DEnv) (σ : L2.St) (g : G) (H : Hp) (Q : UK) (P : VK), HInv S g H → RepS g H ρ σ → ue ρ Q → (∀ v H', EPost S g H Q v H' → P v H') → te σ H P)
    (hu : ue (vis M ρ) fun t d => D.nx ((settle M t d ρ).set i (some (t, d)))) : tAsg te (gName i) D' σ H := by
  refine I.expr M h hu fun v H' t d g' I' r f _ q => gl.nx g' H' _ _ (I'.set r fun z a ea => ⟨I.st.free (f z a ea), fun j e h1 h2 => ?_⟩) q
  obtain ⟨a', xs, ds, e1, _, e2, _⟩ := I.own j e (settle_own h1)
  rw [h2] at e1
  cases e1
  rw [f z a ea] at e2
  cases e2
theorem js_asg {i : Nat} {x : Str} {pos' : Pos} (hN : X.N.Nodup) (he : JE S X e ue) (hi : X.N[i]? = some x := by rfl) (hx : Loc X.env.scope x := by first | exact Or.inl rfl | exact Or.inr rfl) (hs : swapsWith e (some (.Name x pos')) pos.line X.env = pure false := by rfl) (hf : X.fn x = true ∨ X.env.scope.names.lookup x = some .local := by first | exact .inl rfl | exact .inr rfl | assumption) :
    JS S X (.Assign [.Name x pos'] e pos) (sAsg i ue) := by
  obtain ⟨t, p, h⟩ := he.ex
  exact ⟨_, ps_set hN hi hx p hs hf, fun g0 B g H ρ σ D D' I hu gl => asg_core I allM gl h (by rw [vis_all]; exact hu)⟩
theorem js_asgM (M : List Nat) {i : Nat} {x : Str} {pos' : Pos} (hN : X.N.Nodup) (he : JE S X e ue) (hi : X.N[i]? = some x := by rfl) (hx : Loc X.env.scope x := by first | exact Or.inl rfl | exact Or.inr rfl) (hs : swapsWith e (some (.Name x pos')) pos.line X.env = pure false := by rfl) (hf : X.fn x = true ∨ X.env.scope.names.lookup x = some .local := by first | exact .inl rfl | exact .inr rfl | assumption) :
    JS S X (.Assign [.Name x pos'] e pos) (sAsgM M i ue) := by
  obtain ⟨t, p, h⟩ := he.ex
  exact ⟨_, ps_set hN hi hx p hs hf, fun g0 B g H ρ σ D D' I hu gl => asg_core I _ gl h hu⟩
theorem js_expr (he : JE S X e ue) (hs : swapsWith e none pos.line X.env = pure false := by rfl) : JS S X (.Expr e pos) (sExpr ue) := by
  obtain ⟨t, p, h⟩ := he.ex
  refine ⟨_, ps_expr p hs, fun g0 B g H ρ σ D D' I hu gl => ?_⟩
  exact I.expr allM h (by rw [vis_all]; exact hu) fun v H' t d g' I' r f _ q => gl.nx g' H' _ _ I' q
end
end DL

/-! DLLoop: what is walked; for, while, comprehensions; lists that change. -/
namespace DL
open PySem PySem.Spec PyProof.Rows L2

/-! ### targets -/
/-- which places a target sets, by the datum -/
abbrev UG := D → Option (List (Nat × D))
@[simp] def gN (i : Nat) : UG := fun d => some [(i, d)]
@[simp] def gTs : List UG → List D → Option (List (Nat × D))
  | [], [] => some []
  | t :: ts, d :: ds => match t d, gTs ts ds with
    | some a, some b => some (a ++ b)
    | _, _ => none
  | _, _ => none
@[simp] def gT (ts : List UG) : UG
  | .tup ds => gTs ts ds
  | _ => none
@[simp] def setAll {α : Type} (ρ : List α) : List (Nat × α) → List α
  | [] => ρ
  | p :: r => setAll (ρ.set p.1 p.2) r
theorem setAll_append {α : Type} : ∀ (a b : List (Nat × α)) (ρ : List α), setAll ρ (a ++ b) = setAll (setAll ρ a) b
  | [], _, _ => rfl
  | p :: a, b, ρ => setAll_append a b (ρ.set p.1 p.2)
@[simp] def dset (L : List (Nat × D)) : List (Nat × Option (Bool × D)) := L.map fun p => (p.1, some (false, p.2))
/-- the places set, value by value -/
inductive Sets (g : G) (H : Hp) : List (Nat × D) → List (Nat × Option V) → Prop
  | nil : Sets g H [] []
  | cons {i : Nat} {d : D} {v : V} {L : List (Nat × D)} {M : List (Nat × Option V)} (r : Rep g H d v) (t : Sets g H L M) : Sets g H ((i, d) :: L) ((i, some v) :: M)
theorem Sets.append {g : G} {H : Hp} {L L' : List (Nat × D)} {M M' : List (Nat × Option V)} (a : Sets g H L M) (b : Sets g H L' M') : Sets g H (L ++ L') (M ++ M') := by
  induction a with
  | nil => exact b
  | cons r _ ih => exact .cons r ih
theorem Sets.inv {S : Src} {g : G} {H : Hp} {L : List (Nat × D)} {M : List (Nat × Option V)} (a : Sets g H L M) : ∀ {g0 : G} {B : Hp} {ρ : DEnv} {σ : L2.St}, SInv S g0 B g H ρ σ → SInv S g0 B g H (setAll ρ (dset L)) (setAll σ M) := by
  induction a with
  | nil => intro _ _ _ _ I; exact I
  | cons r _ ih =>
    intro _ _ _ _ I
    exact ih (I.set (t := false) r (fun z => by cases z))
theorem Sets.reps {g : G} {H : Hp} {L : List (Nat × D)} {M : List (Nat × Option V)} (a : Sets g H L M) : ∀ {ρ : DEnv} {σ : L2.St}, RepS g H ρ σ → RepS g H (setAll ρ (dset L)) (setAll σ M) := by
  induction a with
  | nil => intro _ _ I; exact I
  | cons r _ ih =>
    intro _ _ I
    exact ih (I.set r)
theorem wipe_in {j : Nat} : ∀ {vs : List Nat} {σ : L2.St}, j ∈ vs → (wipe σ vs)[j]? = (σ[j]?).map fun _ => none
  | [], _, h => by cases h
  | k :: r, σ, h => by
    show ((wipe σ r).set k none)[j]? = _
    by_cases e : k = j
    · subst e
      by_cases hl : k < σ.length
      · rw [List.getElem?_set_self (by rw [wipe_length]; exact hl), List.getElem?_eq_getElem hl]; rfl
      · rw [List.getElem?_eq_none (by rw [List.length_set, wipe_length]; omega), List.getElem?_eq_none (by omega)]; rfl
    · rw [List.getElem?_set_ne e]
      rcases List.mem_cons.mp h with h | h
      · exact absurd h.symm e
      · exact wipe_in h
theorem wipe_set {x : Option V} {i : Nat} {vs : List Nat} {σ : L2.St} (h : i ∈ vs) : wipe (σ.set i x) vs = wipe σ vs := by
  apply List.ext_getElem?
  intro j
  by_cases hj : j ∈ vs
  · rw [wipe_in hj, wipe_in hj, List.getElem?_set]
    split
    · rename_i e
      subst e
      split
      · rename_i hl
        rw [List.getElem?_eq_getElem hl]; rfl
      · rename_i hl
        rw [List.getElem?_eq_none (by omega)]
    · rfl
  · have hne : i ≠ j := fun e => hj (by rw [← e]; exact h)
    rw [wipe_out hj, wipe_out hj, List.getElem?_set_ne hne]
theorem wipe_setAll {vs : List Nat} : ∀ {M : List (Nat × Option V)} {σ : L2.St}, (∀ p ∈ M, p.1 ∈ vs) → wipe (setAll σ M) vs = wipe σ vs
  | [], _, _ => rfl
  | p :: M, σ, h => by
    show wipe (setAll (σ.set p.1 p.2) M) vs = _
    rw [wipe_setAll fun q hq => h q (List.mem_cons_of_mem _ hq), wipe_set (h p (List.mem_cons_self ..))]
theorem Sets.on {g : G} {H : Hp} {L : List (Nat × D)} {M : List (Nat × Option V)} {vs : List Nat} (a : Sets g H L M) (h : ∀ p ∈ L, p.1 ∈ vs) : ∀ p ∈ M, p.1 ∈ vs := by
  induction a with
  | nil => intro p hp; cases hp
  | cons r _ ih =>
    intro p hp
    rcases List.mem_cons.mp hp with rfl | hp
    · exact h (_, _) (List.mem_cons_self ..)
    · exact ih (fun q hq => h q (List.mem_cons_of_mem _ hq)) p hp
structure JG (S : Src) (X : Cx) (tg : Expr) (u : UG) (vs : List Nat) : Prop where
  ex : ∃ t : TG, PG X tg t ∧ ∀ (g : G) (H : Hp) (σ : L2.St) (d : D) (v : V) (L : List (Nat × D)) (P : L2.St → Hp → Prop), Rep g H d v → u d = some L → (∀ M, Sets g H L M → P (setAll σ M) H) → t v σ H P
  on : ∀ d L, u d = some L → ∀ p ∈ L, p.1 ∈ vs
structure JGs (S : Src) (X : Cx) (es : List Expr) (us : List UG) (vs : List Nat) : Prop where
  ex : ∃ t : TGs, PGs X es t ∧ ∀ (g : G) (H : Hp) (σ : L2.St) (ds : List D) (xs : List V) (L : List (Nat × D)) (P : L2.St → Hp → Prop), RepL g H ds xs → gTs us ds = some L → (∀ M, Sets g H L M → P (setAll σ M) H) → t xs σ H P
  on : ∀ ds L, gTs us ds = some L → ∀ p ∈ L, p.1 ∈ vs
section
variable {S : Src} {X : Cx} {pos : Pos}
theorem jg_name {i : Nat} {x : Str} (vs : List Nat) (hN : X.N.Nodup) (hi : X.N[i]? = some x := by rfl) (hx : Loc X.env.scope x := by first | exact Or.inl rfl | exact Or.inr rfl) (hv : i ∈ vs := by decide) (hf : X.fn x = true ∨ X.env.scope.names.lookup x = some .local := by first | exact .inl rfl | exact .inr rfl | assumption) : JG S X (.Name x pos) (gN i) vs := by
  refine ⟨⟨gName i, pg_name hN hi hx hf, fun g H σ d v L P r e h => ?_⟩, fun d L e p hp => ?_⟩
  · cases e
    exact h _ (.cons r .nil)
  · cases e
    cases hp with
    | head => exact hv
    | tail _ h => cases h
theorem jgs_nil (vs : List Nat) : JGs S X [] [] vs := by
  refine ⟨⟨gNil, pgs_nil, fun g H σ ds xs L P r e h => ?_⟩, fun ds L e p hp => ?_⟩
  · cases ds with
    | nil =>
      rw [RepL] at r
      cases e
      exact ⟨r, h _ .nil⟩
    | cons _ _ => cases e
  · cases ds with
    | nil => cases e; cases hp
    | cons _ _ => cases e
theorem gTs_cons {t : UG} {ts : List UG} {ds : List D} {L : List (Nat × D)} (e : gTs (t :: ts) ds = some L) : ∃ d r a b, ds = d :: r ∧ t d = some a ∧ gTs ts r = some b ∧ L = a ++ b := by
  cases ds with
  | nil => cases e
  | cons d r =>
    rw [gTs] at e
    split at e
    · rename_i a b h1 h2
      cases e
      exact ⟨d, r, a, b, rfl, h1, h2, rfl⟩
    · cases e
theorem jgs_cons {e : Expr} {es : List Expr} {t : UG} {ts : List UG} {vs : List Nat} (h1 : JG S X e t vs) (h2 : JGs S X es ts vs) (hs : (assignEach (e :: es) X.env).map (·.2) = assign e X.env :: (assignEach es X.env).map (·.2) := by rfl) : JGs S X (e :: es) (t :: ts) vs := by
  obtain ⟨⟨t1, p1, q1⟩, o1⟩ := h1
  obtain ⟨⟨t2, p2, q2⟩, o2⟩ := h2
  refine ⟨⟨gCons t1 t2, pgs_cons p1 p2 hs, fun g H σ ds xs L P r e h => ?_⟩, fun ds L e p hp => ?_⟩
  · obtain ⟨d, r', a, b, rfl, e1, e2, rfl⟩ := gTs_cons e
    rw [RepL] at r
    obtain ⟨v, vr, rfl, r1, r2⟩ := r
    refine ⟨v, vr, rfl, q1 g H σ d v a _ r1 e1 fun M hM => q2 g H _ r' vr b _ r2 e2 fun M' hM' => ?_⟩
    have := h (M ++ M') (hM.append hM')
    rwa [setAll_append] at this
  · obtain ⟨d, r', a, b, rfl, e1, e2, rfl⟩ := gTs_cons e
    rcases List.mem_append.mp hp with h | h
    · exact o1 d a e1 p h
    · exact o2 r' b e2 p h
theorem gTs_len : ∀ {ts : List UG} {ds : List D} {L : List (Nat × D)}, gTs ts ds = some L → ds.length = ts.length
  | [], [], _, _ => rfl
  | [], _ :: _, _, e => by cases e
  | t :: ts, ds, L, e => by
    obtain ⟨d, r', a, b, rfl, e1, e2, rfl⟩ := gTs_cons e
    rw [List.length_cons, List.length_cons, gTs_len e2]
theorem jg_tup {es : List Expr} {k : Nat} {ts : List UG} {vs : List Nat} (hc : X.calm = true) (h : JGs S X es ts vs) (hn : (assignEach es X.env).length = ts.length := by rfl) (hst : (assignEach es X.env).findIdx? (·.1) = none := by rfl) : JG S X (.Tuple es k pos) (gT ts) vs := by
  obtain ⟨⟨t1, p1, q1⟩, o1⟩ := h
  refine ⟨⟨gTup X.K ts.length t1, pg_tup hc p1 hn hst, fun g H σ d v L P r e h => ?_⟩, fun d L e p hp => ?_⟩
  · cases d with
    | tup ds =>
      rw [Rep] at r
      obtain ⟨a, xs, rfl, ra, l⟩ := r
      exact ⟨a, xs, rfl, ra.sq, by rw [l.len]; exact gTs_len e, q1 g H σ ds xs L P l e h⟩
    | _ => cases e
  · cases d with
    | tup ds => exact o1 ds L e p hp
    | _ => cases e
end

/-! ### what is walked -/
abbrev UI := DEnv → (List D → Prop) → Prop
structure Walks (S : Src) (g : G) (H : Hp) (J : It) (ds : List D) : Prop where
  go : ∀ i g' H', Up g H g' H' → HInv S g' H' → i < ds.length → J.go i H'
  stop : ∀ i g' H', Up g H g' H' → HInv S g' H' → ds.length ≤ i → J.stop i H'
  yld : ∀ i g' H' x H'' d, Up g H g' H' → HInv S g' H' → ds[i]? = some d → J.yld i H' x H'' → ∃ g'', Step g' H' g'' H'' ∧ HInv S g'' H'' ∧ Rep g'' H'' d x
structure JI (S : Src) (X : Cx) (tg it : Expr) (u : UI) : Prop where
  ex : ∃ w : TI, PI X tg it w ∧ ∀ (ρ : DEnv) (σ : L2.St) (g : G) (H : Hp) (Q : List D → Prop) (R : It → Hp → Prop), HInv S g H → RepS g H ρ σ → u ρ Q →
    (∀ J H' g' ds, Step g H g' H' → HInv S g' H' → Walks S g' H' J ds → Q ds → R J H') → w σ H R
@[simp] def itemsOf (Q : List D → Prop) : D → Prop
  | .lst ds => Q ds
  | .tup ds => Q ds
  | .str x => Q (x.cps.toList.map fun c => .str ⟨#[c]⟩)
  | _ => False
@[simp] def uIter (u : UE) (ρ : DEnv) (Q : (List D → Prop)) : Prop := u ρ fun _ d => itemsOf Q d
/-- a list, a tuple or a text is walked -/
def iSeq (K : PySem.W.Frag) (tl : TE) : TI := fun σ H R => tl σ H fun x H1 => (∃ a, x = .ref a ∧ (∃ xs, SqL K H1 a xs) ∧ R (Itl K a) H1) ∨ (∃ a, x = .ref a ∧ (∃ xs, SqT K H1 a xs) ∧ R (Itt K a) H1) ∨ (∃ z, x = .str z ∧ R (Its z) H1)
theorem pi_seq {X : Cx} {tg l : Expr} {tl : TE} (hl : PE X l tl) : PI X tg l (iSeq X.K tl) := by
  refine ⟨fun pins s σ H R I h => ?_⟩
  refine thn (hl.run pins s σ H _ I h) fun v s1 ⟨x, H1, I1, r1, q1⟩ => ?_
  rcases q1 with ⟨a, e, ⟨xs, hq⟩, q⟩ | ⟨a, e, ⟨xs, hq⟩, q⟩ | ⟨z, e, q⟩
  · subst e
    cases r1
    obtain ⟨its, rv, p, hz⟩ := I1.list hq
    refine wpAny_pyIter_list p.isList ?_
    refine ⟨s1.heap.objs.size, [s1.heap.objs.size], _, _, H1, rfl, I1.kept (t' := s1.toks) fun b o e => Heap.get?_push_of_some _ e, turn_list a _, ⟨_, Heap.get?_push_size _ rfl, rfl, rfl⟩, fun b hb => ?_, q⟩
    have e : b = s1.heap.objs.size := by simpa using hb
    subst e
    exact I1.fpOk (Nat.le_refl _) (I1.hok.fresh (Nat.le_refl _))
  · subst e
    cases r1
    obtain ⟨its, rv, p, hz⟩ := I1.tuple hq
    refine wpAny_pyIter_tuple (show s1.heap.IsTuple a its.toArray from p) ?_
    refine ⟨s1.heap.objs.size, [s1.heap.objs.size], _, _, H1, rfl, I1.kept (t' := s1.toks) fun b o e => Heap.get?_push_of_some _ e, turn_tuple a _, ⟨_, Heap.get?_push_size _ rfl, rfl, rfl⟩, fun b hb => ?_, q⟩
    have e : b = s1.heap.objs.size := by simpa using hb
    subst e
    exact I1.fpOk (Nat.le_refl _) (I1.hok.fresh (Nat.le_refl _))
  · subst e
    obtain ⟨t, rfl⟩ := r1
    cases ha : z.cps.all (· < 128)
    · exact wpAny_pyIter_wide ha (pi_one (tk := s1.toks) I1 _ (turn_str _ z t "str_iterator" (.inr rfl)) ⟨_, Heap.get?_push_size _ rfl, rfl, rfl⟩ q)
    · exact wpAny_pyIter_ascii ha (pi_one (tk := s1.toks) I1 _ (turn_str _ z t "str_ascii_iterator" (.inl rfl)) ⟨_, Heap.get?_push_size _ rfl, rfl, rfl⟩ q)
theorem Walks.list {S : Src} {K : PySem.W.Frag} {g : G} {H : Hp} {a : Addr} {xs : List V} {ds : List D} (r : RdL g H a xs) (l : RepL g H ds xs) : Walks S g H (Itl K a) ds where
  go := fun i g' H' u I hi => by
    have hi' : i < xs.length := by rw [l.len]; exact hi
    exact ⟨xs, xs[i], (r.step u).sq, List.getElem?_eq_getElem hi'⟩
  stop := fun i g' H' u I hi => ⟨xs, (r.step u).sq, by rw [l.len]; exact hi⟩
  yld := fun i g' H' x H'' d u I hd y => by
    obtain ⟨e, y⟩ := y
    subst e
    obtain ⟨v, hv, rv⟩ := (RepL.up u ds xs l).get hd
    have := y xs (r.step u).sq
    rw [hv] at this
    cases this
    exact ⟨g', Step.refl _ _, I, rv⟩
theorem Walks.tup {S : Src} {K : PySem.W.Frag} {g : G} {H : Hp} {a : Addr} {xs : List V} {ds : List D} (r : RdT g H a xs) (l : RepL g H ds xs) : Walks S g H (Itt K a) ds where
  go := fun i g' H' u I hi => by
    have hi' : i < xs.length := by rw [l.len]; exact hi
    exact ⟨xs, xs[i], (r.step u).sq, List.getElem?_eq_getElem hi'⟩
  stop := fun i g' H' u I hi => ⟨xs, (r.step u).sq, by rw [l.len]; exact hi⟩
  yld := fun i g' H' x H'' d u I hd y => by
    obtain ⟨e, y⟩ := y
    subst e
    obtain ⟨v, hv, rv⟩ := (RepL.up u ds xs l).get hd
    have := y xs (r.step u).sq
    rw [hv] at this
    cases this
    exact ⟨g', Step.refl _ _, I, rv⟩
theorem Walks.text {S : Src} {g : G} {H : Hp} {z : Str} : Walks S g H (Its z) (z.cps.toList.map fun c => .str ⟨#[c]⟩) where
  go := fun i g' H' u I hi => by
    show i < z.cps.size
    simpa using hi
  stop := fun i g' H' u I hi => by
    show z.cps.size ≤ i
    simpa using hi
  yld := fun i g' H' x H'' d u I hd y => by
    obtain ⟨e, c, hc, hx⟩ := y
    subst e hx
    rw [List.getElem?_map] at hd
    rw [← Array.getElem?_toList] at hc
    rw [hc] at hd
    cases hd
    exact ⟨g', Step.refl _ _, I, by rw [Rep]⟩
theorem ji_seq {S : Src} {X : Cx} {tg l : Expr} {u : UE} (h : JE S X l u) : JI S X tg l (uIter u) := by
  obtain ⟨t, p, h⟩ := h.ex
  refine ⟨iSeq X.K t, pi_seq p, fun ρ σ g H Q R I RS hu hR => h ρ σ g H _ _ I RS hu fun v H1 e => ?_⟩
  obtain ⟨g1, d, s1, I1, r1, _, q1⟩ := e.rep
  cases d with
  | lst ds =>
    rw [Rep] at r1
    obtain ⟨a, xs, rfl, ra, l⟩ := r1
    exact .inl ⟨a, rfl, ⟨xs, ra.sq⟩, hR _ _ g1 ds s1 I1 (.list ra l) q1⟩
  | tup ds =>
    rw [Rep] at r1
    obtain ⟨a, xs, rfl, ra, l⟩ := r1
    exact .inr (.inl ⟨a, rfl, ⟨xs, ra.sq⟩, hR _ _ g1 ds s1 I1 (.tup ra l) q1⟩)
  | str z =>
    rw [Rep] at r1
    exact .inr (.inr ⟨z, r1, hR _ _ g1 _ s1 I1 .text q1⟩)
  | _ => exact (show False from q1).elim
/-- lo, lo + 1, .. -/
def rngD (lo : Int) (n : Nat) : List D := (List.range n).map fun k => .int (lo + (k : Nat))
theorem Walks.rng {S : Src} {g : G} {H : Hp} {lo : Int} {n : Nat} : Walks S g H (Itr lo n) (rngD lo n) where
  go := fun i g' H' u I hi => by
    show i < n
    simpa [rngD] using hi
  stop := fun i g' H' u I hi => by
    show n ≤ i
    simpa [rngD] using hi
  yld := fun i g' H' x H'' d u I hd y => by
    obtain ⟨e, hx⟩ := y
    subst e hx
    unfold rngD at hd
    rw [List.getElem?_map] at hd
    cases e : (List.range n)[i]? with
    | none => rw [e] at hd; cases hd
    | some k =>
      rw [e] at hd
      cases hd
      obtain ⟨h1, h2⟩ := List.getElem?_eq_some_iff.mp e
      rw [List.getElem_range] at h2
      subst h2
      exact ⟨g', Step.refl _ _, I, by rw [Rep]⟩
@[simp] def rng1 (Q : List D → Prop) : List D → Prop
  | [.int j] => (-(2 ^ 62) ≤ j ∧ j < 2 ^ 62) ∧ Q (rngD 0 j.toNat)
  | _ => False
@[simp] def rng2 (Q : List D → Prop) : List D → Prop
  | [.int i, .int j] => (-(2 ^ 62) ≤ i ∧ i < 2 ^ 62 ∧ -(2 ^ 62) ≤ j ∧ j < 2 ^ 62) ∧ Q (rngD i (j - i).toNat)
  | _ => False
@[simp] def uRng1 (u : UA) (ρ : DEnv) (Q : (List D → Prop)) : Prop := u ρ (rng1 Q)
@[simp] def uRng2 (u : UA) (ρ : DEnv) (Q : (List D → Prop)) : Prop := u ρ (rng2 Q)
theorem ji_range1 {S : Src} {X : Cx} {tg a : Expr} {u : UA} {p pos : Pos} (hg : Gl X "range") (hm : X.mg "range" = none) (ha : JA S X [a] u) (hs : starEach [a] X.env = [(false, eval a X.env)] := by rfl) : JI S X tg (.Call (.Name "range" p) [a] [] pos) (uRng1 u) := by
  obtain ⟨t, pa, h⟩ := ha.ex
  refine ⟨_, pi_range1 hg hm pa hs, fun ρ σ g H Q R I RS hu hR => h ρ σ g H _ _ I RS hu fun vs H1 e => ?_⟩
  obtain ⟨g1, ds, s1, I1, r1, q1⟩ := e
  unfold rng1 at q1
  split at q1
  · rename_i j
    simp only [RepL, Rep] at r1
    obtain ⟨v, r', rfl, rfl, rfl⟩ := r1
    exact ⟨j, rfl, q1.1.1, q1.1.2, hR _ _ g1 _ s1 I1 .rng q1.2⟩
  · exact q1.elim
theorem ji_range2 {S : Src} {X : Cx} {tg a b : Expr} {u : UA} {p pos : Pos} (hg : Gl X "range") (hm : X.mg "range" = none) (ha : JA S X [a, b] u) (hs : starEach [a, b] X.env = [(false, eval a X.env), (false, eval b X.env)] := by rfl) (hs2 : starEach [b] X.env = [(false, eval b X.env)] := by rfl) : JI S X tg (.Call (.Name "range" p) [a, b] [] pos) (uRng2 u) := by
  obtain ⟨t, pa, h⟩ := ha.ex
  refine ⟨_, pi_range2 hg hm pa hs hs2, fun ρ σ g H Q R I RS hu hR => h ρ σ g H _ _ I RS hu fun vs H1 e => ?_⟩
  obtain ⟨g1, ds, s1, I1, r1, q1⟩ := e
  unfold rng2 at q1
  split at q1
  · rename_i i j
    simp only [RepL, Rep] at r1
    obtain ⟨v, r', rfl, rfl, w, r2, rfl, rfl, rfl⟩ := r1
    exact ⟨i, j, rfl, q1.1, hR _ _ g1 _ s1 I1 .rng q1.2⟩
  · exact q1.elim

/-! ### for -/
def loopU (gt : UG) (ub : US) : List D → US
  | [] => fun D ρ => D.nx ρ
  | d :: r => fun D ρ => match gt d with
    | some L => ub { D with nx := loopU gt ub r D, ct := loopU gt ub r D, bk := D.nx } (setAll ρ (dset L))
    | none => False
def HoldL (x : UG × US × UEnds) (ds : List D) (ρ : DEnv) (_ : Tag x) : Prop := loopU x.1 x.2.1 ds x.2.2 ρ
theorem holdL {gt : UG} {ub : US} {E : UEnds} {ds : List D} {ρ : DEnv} {t : Tag (gt, ub, E)} (h : loopU gt ub ds E ρ) : HoldL (gt, ub, E) ds ρ t := h
/-- the loop over what an expression gives; own lists in M, which it may name, are shared from then on -/
@[simp] def sFor (M : List Nat) (ui : UI) (gt : UG) (ub : US) (D : UEnds) (ρ : DEnv) : Prop := ui (vis (fun j => M.contains j) ρ) fun ds => HoldL (gt, ub, D) ds (freeze (fun j => M.contains j) ρ) ⟨⟩
/-- the loop over numbers -/
@[simp] def sForR (ui : UI) (gt : UG) (ub : US) (D : UEnds) (ρ : DEnv) : Prop := ui ρ fun ds => HoldL (gt, ub, D) ds ρ ⟨⟩
section
variable {S : Src} {g0 g g1 : G} {B H H1 : Hp} {ρ : DEnv} {σ : L2.St}
/-- what may not change while the body runs: all but the own lists -/
noncomputable def based (ρ : DEnv) (σ : L2.St) (H : Hp) : Hp := fun a => open Classical in if ∃ (i : Nat) (d : D), ρ[i]? = some (some (true, d)) ∧ σ[i]? = some (some (V.ref a)) then none else H a
theorem based_some {a : Addr} {o : HO} (h : based ρ σ H a = some o) : H a = some o ∧ ¬ ∃ (i : Nat) (d : D), ρ[i]? = some (some (true, d)) ∧ σ[i]? = some (some (V.ref a)) := by
  unfold based at h
  split at h
  · cases h
  · rename_i n
    exact ⟨h, n⟩
theorem based_none {a : Addr} (h : based ρ σ H a = none) : H a = none ∨ ∃ (i : Nat) (d : D), ρ[i]? = some (some (true, d)) ∧ σ[i]? = some (some (V.ref a)) := by
  unfold based at h
  split at h
  · rename_i n
    exact .inr n
  · exact .inl h
theorem SInv.ownN (I : SInv S g0 B g H ρ σ) {a : Addr} (h : ∃ (i : Nat) (d : D), ρ[i]? = some (some (true, d)) ∧ σ[i]? = some (some (V.ref a))) : B a = none ∧ ¬ g.fz a ∧ ¬ g.rl a ∧ ∃ xs, H a = some (.lst xs) := by
  obtain ⟨i, d, h1, h2⟩ := h
  obtain ⟨a', xs, ds, e1, _, e2, e3, e4, e5, _⟩ := I.own i d h1
  rw [h2] at e1
  cases e1
  exact ⟨e3, e4, e5, xs, e2⟩
theorem SInv.step {g' : G} {H' : Hp} (I : SInv S g0 B g H ρ σ) (s : Step g H g' H') (I' : HInv S g' H') : SInv S g0 B g' H' ρ σ where
  st := I.st.trans s
  hi := I'
  len := I.len
  own := fun i d e => by
    obtain ⟨a, xs, ds, h1, rfl, h2, h3, h4, h5, h6⟩ := I.own i d e
    refine ⟨a, xs, ds, h1, rfl, s.keep a _ h2 h5 (fun _ z => by cases z), h3, fun z => ?_, fun z => ?_, h6.step I.hi s⟩
    · rcases s.fzn a z with q | q
      · exact h4 q
      · rw [h2] at q; cases q
    · rcases s.rln a z with q | q
      · exact h5 q
      · rw [h2] at q; cases q
  inj := I.inj
  imm := fun i d e => by
    obtain ⟨v, hv, r⟩ := I.imm i d e
    exact ⟨v, hv, r.step I.hi s⟩
/-- from here on, with the heap as it stands -/
theorem SInv.rebase (I : SInv S g0 B g H ρ σ) : SInv S g (based ρ σ H) g H ρ σ where
  st := ⟨fun _ h => h, fun _ h => .inl h, fun _ h => h, fun _ h => .inl h, fun _ => rfl, fun a o e _ _ => (based_some e).1, fun a o e => ⟨o, (based_some e).1⟩⟩
  hi := I.hi
  len := I.len
  own := fun i d e => by
    obtain ⟨a, xs, ds, h1, rfl, h2, h3, h4, h5, h6⟩ := I.own i d e
    refine ⟨a, xs, ds, h1, rfl, h2, ?_, h4, h5, h6⟩
    unfold based
    rw [if_pos ⟨i, _, e, h1⟩]
  inj := I.inj
  imm := I.imm
theorem SInv.based_hi (I : SInv S g0 B g H ρ σ) : HInv S g (based ρ σ H) where
  fz := fun a h => by
    obtain ⟨o, e⟩ := I.hi.fz a h
    refine ⟨o, ?_⟩
    unfold based
    rw [if_neg fun z => (I.ownN z).2.1 h]
    exact e
  dis := I.hi.dis
  rl := fun x => S.loc _ _ _ _ (fun a ha => by
    unfold based
    rw [if_neg fun z => (I.ownN z).2.2.1 ha]) (I.hi.rl x)
  tb := ⟨fun P hP => (I.hi.tb.1 P hP).keep fun a o e z => by
    unfold based
    rw [if_neg fun q => by
      obtain ⟨_, _, _, xs, q2⟩ := I.ownN q
      rw [q2] at e; cases e; exact z]
    exact e, fun a o f e => I.hi.tb.2 a o f (based_some e).1⟩
/-- .. and back -/
theorem SInv.unbase (I : SInv S g0 B g H ρ σ) {ρ' : DEnv} {σ' : L2.St} (J : SInv S g (based ρ σ H) g1 H1 ρ' σ') : SInv S g0 B g1 H1 ρ' σ' where
  st := by
    refine ⟨fun a h => J.st.fz a (I.st.fz a h), fun a h => ?_, fun a h => J.st.rl a (I.st.rl a h), fun a h => ?_, fun ⟨a, h⟩ => (J.st.rp ⟨a, I.st.rl a h⟩).trans (I.st.rp ⟨a, h⟩), fun a o e n nt => ?_, fun a o e => ?_⟩
    · rcases J.st.fzn a h with z | z
      · exact I.st.fzn a z
      · rcases based_none z with z | z
        · exact .inr (I.st.free z)
        · exact .inr (I.ownN z).1
    · rcases J.st.rln a h with z | z
      · exact I.st.rln a z
      · rcases based_none z with z | z
        · exact .inr (I.st.free z)
        · exact .inr (I.ownN z).1
    · have e1 := I.st.keep a o e n nt
      refine J.st.keep a o ?_ (fun z => ?_) nt
      · unfold based
        rw [if_neg fun z => by
          rw [(I.ownN z).1] at e
          cases e]
        exact e1
      · rcases I.st.rln a z with q | q
        · exact n q
        · rw [e] at q; cases q
    · obtain ⟨o1, e1⟩ := I.st.there a o e
      refine J.st.there a o1 ?_
      unfold based
      rw [if_neg fun z => by
        rw [(I.ownN z).1] at e
        cases e]
      exact e1
  hi := J.hi
  len := J.len
  own := fun i d e => by
    obtain ⟨a, xs, ds, h1, rfl, h2, h3, h4, h5, h6⟩ := J.own i d e
    refine ⟨a, xs, ds, h1, rfl, h2, ?_, h4, h5, h6⟩
    rcases based_none h3 with z | z
    · exact I.st.free z
    · exact (I.ownN z).1
  inj := J.inj
  imm := J.imm
/-- what stands while the body runs -/
theorem SInv.up (I : SInv S g0 B g H ρ σ) {ρ' : DEnv} {σ' : L2.St} (J : SInv S g (based ρ σ H) g1 H1 ρ' σ') : Up g H g1 H1 := by
  have u := J.st.up I.based_hi
  have bt : ∀ a xs, H a = some (.tup xs) → based ρ σ H a = some (.tup xs) := fun a xs e => by
    unfold based
    rw [if_neg fun z => by
      obtain ⟨_, _, _, ys, h3⟩ := I.ownN z
      rw [h3] at e
      cases e]
    exact e
  refine ⟨u.fz, u.rl, fun a xs e n => u.rt a xs (bt a xs e) n, u.rp, fun a xs e => u.kt a xs (bt a xs e), fun a o f e => u.kf a o f ?_⟩
  unfold based
  rw [if_neg fun z => (I.ownN z).2.1 f]
  exact e
end

section
variable {S : Src} {X : Cx} {pos : Pos}
theorem for_core {g0 g : G} {B H : Hp} {ρ : DEnv} {σ : L2.St} (I : SInv S g0 B g H ρ σ) {J : It} {ds : List D} (W : Walks S g H J ds) {gt : UG} {vs : List Nat} {t : TG} {tb : TS} {ub : US} {E : UEnds} {E' : Ends}
    (hg : ∀ (g : G) (H : Hp) (σ : L2.St) (d : D) (v : V) (L : List (Nat × D)) (P : L2.St → Hp → Prop), Rep g H d v → gt d = some L → (∀ M, Sets g H L M → P (setAll σ M) H) → t v σ H P)
    (hb : ∀ (g0 : G) (B : Hp) (g : G) (H : Hp) (ρ : DEnv) (σ : L2.St) (D : UEnds) (D' : Ends), SInv S g0 B g H ρ σ → ub D ρ → Glue S g0 B D D' → tb D' σ H)
    (hu : loopU gt ub ds E ρ) (gl : Glue S g0 B E E') :
    ∃ Wn : Nat → Nat → L2.St → Hp → Prop, (∃ m, Wn 0 m σ H) ∧ ∀ i m σ H, Wn i m σ H →
      (J.stop i H ∧ E'.nx σ H) ∨ (J.go i H ∧ ∃ N : L2.St → Hp → Prop, (∀ σ' H', N σ' H' → ∃ m', m' < m ∧ Wn (i + 1) m' σ' H') ∧ ∀ x H', J.yld i H x H' → t x σ H' fun σ2 H2 => tb { E' with nx := N, ct := N, bk := E'.nx } σ2 H2) := by
  have Ib := I.rebase
  refine ⟨fun i m σ' H' => m = ds.length - i ∧ i ≤ ds.length ∧ ∃ g' ρ', SInv S g (based ρ σ H) g' H' ρ' σ' ∧ loopU gt ub (ds.drop i) E ρ', ⟨ds.length, by simp, Nat.zero_le _, g, ρ, Ib, by simpa using hu⟩, ?_⟩
  rintro i m σ1 H1 ⟨rfl, hi, g1, ρ1, I1, hu1⟩
  have up := I.up I1
  by_cases hlt : i < ds.length
  · refine .inr ⟨W.go i g1 H1 up I1.hi hlt, fun σ' H' => ∃ g' ρ', SInv S g (based ρ σ H) g' H' ρ' σ' ∧ loopU gt ub (ds.drop (i + 1)) E ρ', fun σ' H' ⟨g', ρ', I', h'⟩ => ⟨ds.length - (i + 1), by omega, rfl, hlt, g', ρ', I', h'⟩, fun x H2 y => ?_⟩
    have hd : ds[i]? = some ds[i] := List.getElem?_eq_getElem hlt
    obtain ⟨g2, s2, I2, r2⟩ := W.yld i g1 H1 x H2 ds[i] up I1.hi hd y
    have I2' : SInv S g (based ρ σ H) g2 H2 ρ1 σ1 := I1.step s2 I2
    rw [List.drop_eq_getElem_cons hlt] at hu1
    unfold loopU at hu1
    cases e : gt ds[i] with
    | none => rw [e] at hu1; exact hu1.elim
    | some L =>
      rw [e] at hu1
      refine hg g2 H2 σ1 ds[i] x L _ r2 e fun M hM => ?_
      refine hb g (based ρ σ H) g2 H2 _ _ _ _ (hM.inv I2') hu1 ⟨fun g' H' ρ' σ' I' h' => ⟨g', ρ', I', h'⟩, fun g' H' v tt d st hi r f q => ?_, fun g' H' ρ' σ' I' h' => gl.nx g' H' ρ' σ' (I.unbase I') h', fun g' H' ρ' σ' I' h' => ⟨g', ρ', I', h'⟩⟩
      have J' : SInv S g (based ρ σ H) g' H' [] [] := ⟨st, hi, rfl, fun i d e => (by simp at e), fun i j d e a h => (by simp at h), fun i d e => (by simp at e)⟩
      have J0 := I.unbase J'
      refine gl.rt g' H' v tt d J0.st hi r (fun z a ea => ?_) q
      rcases based_none (f z a ea) with w | w
      · exact I.st.free w
      · exact (I.ownN w).1
  · have e : i = ds.length := by omega
    subst e
    refine .inl ⟨W.stop _ g1 H1 up I1.hi (Nat.le_refl _), gl.nx g1 H1 ρ1 σ1 (I.unbase I1) ?_⟩
    rw [List.drop_length] at hu1
    exact hu1
theorem js_for (M : List Nat) {tg it : Expr} {body : List Stmt} {ui : UI} {gt : UG} {vs : List Nat} {ub : US} (hp : PassesOwn (model X.prog X.w) X.A X.env X.xe) (hc : X.calm = true) (hi : JI S X tg it ui) (hg : JG S X tg gt vs) (hb : JSs S X body ub) 
    (hs : ∀ x, foldedSetIterable it X.env x = pure x := by intro _; rfl) : JS S X (.For tg it body [] pos) (sFor M ui gt ub) := by
  obtain ⟨w, pw, hi⟩ := hi.ex
  obtain ⟨⟨t, pt, hg⟩, _⟩ := hg
  obtain ⟨tb, pb, hb⟩ := hb.ex
  refine ⟨_, ps_for hp hc pw pt pb hs, fun g0 B g H ρ σ D D' I hu gl => ?_⟩
  obtain ⟨gv, Iv, Rv, fin⟩ := I.view fun j => M.contains j
  refine hi _ σ gv H _ _ Iv Rv hu fun J H' g' ds s I' W hq => ?_
  exact for_core (vs := vs) (fin g' H' s I').1 W hg hb hq gl
end
end DL

/-! DLComp: comprehensions over data. -/
namespace DL
open PySem PySem.Spec PyProof.Rows L2

/-! ### one reading for every context -/
def canE (S : Src) (u : UE) : TE := fun σ H P => ∃ ρ g Q, HInv S g H ∧ RepS g H ρ σ ∧ u ρ Q ∧ ∀ v H', EPost S g H Q v H' → P v H'
def canT (S : Src) (u : UT) : TT := fun σ H P => ∃ ρ g Q, HInv S g H ∧ RepS g H ρ σ ∧ u ρ Q ∧ ∀ v H', TPost S g H Q v H' → P v H'
def canI (S : Src) (u : UI) : TI := fun σ H R => ∃ (ρ : DEnv) (g : G) (Q : List D → Prop), HInv S g H ∧ RepS g H ρ σ ∧ u ρ Q ∧ ∀ J H' g' ds, Step g H g' H' → HInv S g' H' → Walks S g' H' J ds → Q ds → R J H'
def canG (u : UG) : TG := fun v σ H P => ∃ (g : G) (d : D) (L : List (Nat × D)), Rep g H d v ∧ u d = some L ∧ ∀ M, Sets g H L M → P (setAll σ M) H
section
variable {S : Src} {X : Cx}
theorem JE.can {e : Expr} {u : UE} (h : JE S X e u) : PE X e (canE S u) := by
  obtain ⟨t, p, h⟩ := h.ex
  exact ⟨fun pins s σ H Q I ⟨ρ, g, Q', hi, hr, hu, hp⟩ => p.run pins s σ H Q I (h ρ σ g H Q' Q hi hr hu hp)⟩
theorem JT.can {e : Expr} {u : UT} (h : JT S X e u) : PT X e (canT S u) := by
  obtain ⟨t, p, h⟩ := h.ex
  exact ⟨fun pins s σ H Q I ⟨ρ, g, Q', hi, hr, hu, hp⟩ => p.run pins s σ H Q I (h ρ σ g H Q' Q hi hr hu hp)⟩
theorem JI.can {tg e : Expr} {u : UI} (h : JI S X tg e u) : PI X tg e (canI S u) := by
  obtain ⟨t, p, h⟩ := h.ex
  exact ⟨fun pins s σ H Q I ⟨ρ, g, Q', hi, hr, hu, hp⟩ => p.run pins s σ H Q I (h ρ σ g H Q' Q hi hr hu hp)⟩
theorem JG.can {e : Expr} {u : UG} {vs : List Nat} (h : JG S X e u vs) : PG X e (canG u) := by
  obtain ⟨⟨t, p, h⟩, _⟩ := h
  exact ⟨fun pins s σ H v w Q I r ⟨g, d, L, hr, hu, hp⟩ => p.run pins s σ H v w Q I r (h g H σ d v L Q hr hu hp)⟩
/-- a clause's tests: none, or one -/
structure JTs (S : Src) (X : Cx) (ifs : List Expr) (u : UT) : Prop where
  ps : PTs X ifs (canT S u)
@[simp] def uYes (_ : DEnv) (Q : (Bool → Prop)) : Prop := Q true
theorem jts_nil : JTs S X [] uYes := ⟨⟨fun pins s σ H Q I ⟨ρ, g, Q', hi, hr, hu, hp⟩ => pts_nil.run pins s σ H Q I (hp true H ⟨g, Step.refl g H, hi, hu⟩)⟩⟩
theorem jts_one {c : Expr} {u : UT} (h : JT S X c u) : JTs S X [c] u := ⟨pts_one h.can⟩
end

/-! ### names of a comprehension's own -/
@[simp] def wipeD (ρ : DEnv) : List Nat → DEnv
  | [] => ρ
  | v :: vs => (wipeD ρ vs).set v none
theorem wipeD_len (ρ : DEnv) : ∀ vs : List Nat, (wipeD ρ vs).length = ρ.length
  | [] => rfl
  | v :: vs => by show ((wipeD ρ vs).set v none).length = _; rw [List.length_set, wipeD_len]
theorem wipeD_some {ρ : DEnv} {i : Nat} {x : Bool × D} : ∀ {vs : List Nat}, (wipeD ρ vs)[i]? = some (some x) → ρ[i]? = some (some x) ∧ i ∉ vs
  | [], h => ⟨h, fun z => by cases z⟩
  | v :: vs, h => by
    have h : ((wipeD ρ vs).set v none)[i]? = some (some x) := h
    by_cases e : v = i
    · subst e
      by_cases hl : v < (wipeD ρ vs).length
      · rw [List.getElem?_set_self hl] at h; cases h
      · rw [List.getElem?_eq_none (by rw [List.length_set]; omega)] at h; cases h
    · rw [List.getElem?_set_ne e] at h
      obtain ⟨h1, h2⟩ := wipeD_some h
      exact ⟨h1, fun z => by
        rcases List.mem_cons.mp z with z | z
        · exact e z.symm
        · exact h2 z⟩
theorem RepS.wipe {g : G} {H : Hp} {ρ : DEnv} {σ : L2.St} (R : RepS g H ρ σ) (vs : List Nat) : RepS g H (wipeD ρ vs) (L2.wipe σ vs) :=
  ⟨by rw [wipeD_len, wipe_length]; exact R.len, fun i t d e => by
    obtain ⟨h1, h2⟩ := wipeD_some e
    obtain ⟨v, hv, r⟩ := R.get i t d h1
    exact ⟨v, by rw [wipe_out h2]; exact hv, r⟩⟩

/-! ### [elt for target in iter if ..] -/
def lcU (ρ : DEnv) (gt : UG) (ut : UT) (ue : UE) : List D → List D → (List D → Prop) → Prop
  | [], ys, k => k ys
  | d :: r, ys, k => match gt d with
    | some L => ut (setAll ρ (dset L)) fun b => if b = true then ue (setAll ρ (dset L)) fun _ y => lcU ρ gt ut ue r (ys ++ [y]) k else lcU ρ gt ut ue r ys k
    | none => False
def HoldC (x : UG × UT × UE × (List D → Prop)) (ds : List D) (ρ : DEnv) (_ : Tag x) : Prop := lcU ρ x.1 x.2.1 x.2.2.1 ds [] x.2.2.2
theorem holdC {gt : UG} {ut : UT} {ue : UE} {K : List D → Prop} {ds : List D} {ρ : DEnv} {t : Tag (gt, ut, ue, K)} (h : lcU ρ gt ut ue ds [] K) : HoldC (gt, ut, ue, K) ds ρ t := h
@[simp] def uLc (ui : UI) (gt : UG) (ut : UT) (ue : UE) (vs : List Nat) (ρ : DEnv) (Q : UK) : Prop := ui ρ fun ds => ds.length ≤ sizeLine ∧ HoldC (gt, ut, ue, fun ys => Q true (.lst ys)) ds (wipeD ρ vs) ⟨⟩
theorem HInv.upd {S : Src} {g : G} {H : Hp} (I : HInv S g H) {a : Addr} {o : HO} (h1 : ¬ g.fz a) (h2 : ¬ g.rl a) {xs : List V} (h3 : H a = some (.lst xs)) : HInv S g (L2.upd H a o) where
  fz := fun b h => by
    obtain ⟨u, e⟩ := I.fz b h
    exact ⟨u, by rw [upd_ne (fun z => h1 (by rw [← z]; exact h))]; exact e⟩
  dis := I.dis
  rl := fun x => S.loc _ _ _ _ (fun b hb => by rw [upd_ne (fun z => h2 (by rw [← z]; exact hb))]) (I.rl x)
  tb := ⟨fun P hP => (I.tb.1 P hP).upd fun u e => (by rw [h3] at e; cases e; exact id), fun b u f e => by
    rw [upd_ne (fun z => h1 (by rw [← z]; exact f))] at e
    exact I.tb.2 b u f e⟩
theorem Up.upd {g : G} {H : Hp} {a : Addr} {o : HO} {xs : List V} (e : H a = some (.lst xs)) (h1 : ¬ g.fz a) : Up g H g (L2.upd H a o) :=
  ⟨fun _ h => h, fun _ h => h, fun _ _ _ n => n, fun _ => rfl, fun b ys h => by
    rw [upd_ne (fun z => by
      rw [z, e] at h
      cases h)]
    exact h, fun b u f h => by
    rw [upd_ne (fun z => h1 (by rw [← z]; exact f))]
    exact h⟩
/-- the new list of a comprehension: laid, filled -/
structure Fills (S : Src) (g1 : G) (H1 : Hp) (A : Addr) (g : G) (H : Hp) (ys : List D) : Prop where
  st : Step g1 H1 g H
  hi : HInv S g H
  at_ : ∃ acc, H A = some (.lst acc) ∧ RepL g H ys acc
  nf : ¬ g.fz A
  nr : ¬ g.rl A
theorem Fills.step {S : Src} {g1 : G} {H1 : Hp} {A : Addr} {g : G} {H : Hp} {ys : List D} (F : Fills S g1 H1 A g H ys) {g' : G} {H' : Hp} (s : Step g H g' H') (I : HInv S g' H') : Fills S g1 H1 A g' H' ys where
  st := F.st.trans s
  hi := I
  at_ := by
    obtain ⟨acc, e, l⟩ := F.at_
    exact ⟨acc, s.keep A _ e F.nr (fun _ z => by cases z), l.step F.hi s⟩
  nf := fun z => by
    obtain ⟨acc, e, l⟩ := F.at_
    rcases s.fzn A z with q | q
    · exact F.nf q
    · rw [e] at q; cases q
  nr := fun z => by
    obtain ⟨acc, e, l⟩ := F.at_
    rcases s.rln A z with q | q
    · exact F.nr q
    · rw [e] at q; cases q
theorem Fills.app {S : Src} {g1 : G} {H1 : Hp} {A : Addr} {g : G} {H : Hp} {ys : List D} (F : Fills S g1 H1 A g H ys) (hA : H1 A = none) {acc : List V} (e : H A = some (.lst acc)) {y : D} {v : V} (r : Rep g H y v) : Fills S g1 H1 A g (L2.upd H A (.lst (acc ++ [v]))) (ys ++ [y]) := by
  obtain ⟨acc', e', l⟩ := F.at_
  rw [e] at e'
  cases e'
  have u : Up g H g (L2.upd H A (.lst (acc ++ [v]))) := Up.upd e F.nf
  refine ⟨⟨F.st.fz, F.st.fzn, F.st.rl, F.st.rln, F.st.rp, fun a o h n nt => ?_, fun a o h => ?_⟩, F.hi.upd F.nf F.nr e, ⟨_, upd_same, RepL.append (RepL.up u _ _ l) (RepL.cons (Rep.up u _ _ r) RepL.nil)⟩, F.nf, F.nr⟩
  · rw [upd_ne (ne_of_none h hA)]
    exact F.st.keep a o h n nt
  · rw [upd_ne (ne_of_none h hA)]
    exact F.st.there a o h
section
variable {S : Src} {X : Cx}
theorem lift_lc {ui : UI} {gt : UG} {ut : UT} {ue : UE} {vs : List Nat} (hon : ∀ d L, gt d = some L → ∀ p ∈ L, p.1 ∈ vs) {ρ : DEnv} {σ : L2.St} {g : G} {H : Hp} {Q : UK} {P : VK} (I : HInv S g H) (R : RepS g H ρ σ) (hu : uLc ui gt ut ue vs ρ Q) (hP : ∀ v H', EPost S g H Q v H' → P v H') :
    tLc (canI S ui) (canG gt) (canT S ut) (canE S ue) vs σ H P := by
  refine ⟨ρ, g, _, I, R, hu, fun J H1 g1 ds s1 I1 W hq A hA => ?_⟩
  obtain ⟨hz, hq⟩ := hq
  refine ⟨fun i m H' => m = ds.length - i ∧ i ≤ ds.length ∧ ∃ g' ys, Fills S g1 H1 A g' H' ys ∧ ys.length ≤ i ∧ lcU (wipeD ρ vs) gt ut ue (ds.drop i) ys fun ys => Q true (.lst ys), ⟨ds.length, by simp, Nat.zero_le _, g1, [], ?_, Nat.zero_le _, hq⟩, ?_⟩
  · exact ⟨Step.laid g1 _ hA, I1.laid _ hA, ⟨[], upd_same, RepL.nil⟩, I1.nfz hA, I1.nrl hA⟩
  rintro i m H2 ⟨rfl, hi, g2, ys, F, hy, h2⟩
  by_cases hlt : i < ds.length
  · refine .inr ⟨W.go i g2 H2 (F.st.up I1) F.hi hlt, fun H' => ∃ g' ys, Fills S g1 H1 A g' H' ys ∧ ys.length ≤ i + 1 ∧ lcU (wipeD ρ vs) gt ut ue (ds.drop (i + 1)) ys fun ys => Q true (.lst ys), fun H' ⟨g', ys, F', h3, h4⟩ => ⟨ds.length - (i + 1), by omega, rfl, hlt, g', ys, F', h3, h4⟩, fun x H3 y => ?_⟩
    have hd : ds[i]? = some ds[i] := List.getElem?_eq_getElem hlt
    obtain ⟨g3, s3, I3, r3⟩ := W.yld i g2 H2 x H3 ds[i] (F.st.up I1) F.hi hd y
    have F3 := F.step s3 I3
    rw [List.drop_eq_getElem_cons hlt] at h2
    unfold lcU at h2
    cases e : gt ds[i] with
    | none => rw [e] at h2; exact h2.elim
    | some L =>
      rw [e] at h2
      refine ⟨g3, ds[i], L, r3, e, fun M hM => ⟨wipe_setAll (hM.on (hon _ _ e)) |>.trans ?_, ?_⟩⟩
      · exact (List.ext_getElem? fun j => by
          by_cases hj : j ∈ vs
          · rw [wipe_in hj, wipe_in hj]
            cases (σ[j]?) <;> rfl
          · rw [wipe_out hj])
      have Rw : RepS g3 H3 (wipeD ρ vs) (L2.wipe σ vs) := ((R.step I (s1.trans F3.st)).wipe vs)
      have Rs := hM.reps Rw
      refine ⟨_, g3, _, I3, Rs, h2, fun b H4 tp => ?_⟩
      obtain ⟨g4, s4, I4, q4⟩ := tp
      have F4 := F3.step s4 I4
      cases b with
      | false =>
        simp only [Bool.false_eq_true, if_false] at q4 ⊢
        exact ⟨g4, ys, F4, by omega, q4⟩
      | true =>
        simp only [if_true] at q4 ⊢
        refine ⟨_, g4, _, I4, Rs.step I3 s4, q4, fun v H5 e5 => ?_⟩
        obtain ⟨g5, yd, s5, I5, r5, _, q5⟩ := e5.rep
        have F5 := F4.step s5 I5
        obtain ⟨acc, ea, la⟩ := F5.at_
        refine ⟨acc, ea, by rw [la.len]; omega, g5, ys ++ [yd], F5.app hA ea r5, by rw [List.length_append]; show ys.length + 1 ≤ i + 1; omega, q5⟩
  · have e : i = ds.length := by omega
    subst e
    refine .inl ⟨W.stop _ g2 H2 (F.st.up I1) F.hi (Nat.le_refl _), hP _ _ ?_⟩
    rw [List.drop_length] at h2
    obtain ⟨acc, ea, la⟩ := F.at_
    exact ⟨g2, true, .lst ys, s1.trans F.st, F.hi, ⟨A, acc, ys, rfl, rfl, ea, F.nf, F.nr, la⟩, fun _ a e => by cases e; exact s1.free hA, h2⟩
theorem je_lc {elt tg iter : Expr} {ifs : List Expr} {scope : Scope} {own : List (Str × Nat)} {pos : Pos} {ui : UI} {gt : UG} {ut : UT} {ue : UE} (hc : X.calm = true) (hN : X.N.Nodup) (hi : JI S X tg iter ui) (ok : BlkOk X.N X.env.scope scope own)
    (hg : ∀ (s : Shared) (H : Hp) (C : Addr) (cl : List (Str × Addr)) (fp : List Addr), JG S (X.blk s H scope (compEnvC scope cl C X.env) fp) tg gt (own.map (·.2))) (ht : ∀ (s : Shared) (H : Hp) (C : Addr) (cl : List (Str × Addr)) (fp : List Addr), JTs S (X.blk s H scope (compEnvC scope cl C X.env) fp) ifs ut)
    (he : ∀ (s : Shared) (H : Hp) (C : Addr) (cl : List (Str × Addr)) (fp : List Addr), JE S (X.blk s H scope (compEnvC scope cl C X.env) fp) elt ue) (hs : ∀ x, foldedSetIterable iter X.env x = pure x := by intro _; rfl) :
    JE S X (.ListComp elt [⟨tg, iter, ifs, 0⟩] scope pos) (uLc ui gt ut ue (own.map (·.2))) :=
  ⟨_, pe_lc hc hN hi.can ok (fun s H C cl fp => (hg s H C cl fp).can) (fun s H C cl fp => (ht s H C cl fp).ps) (fun s H C cl fp => (he s H C cl fp).can) hs,
    fun ρ σ g H Q P I R hu hP => lift_lc ((hg X.s_0 H 0 [] []).on) I R hu hP⟩
/-- name = [..] on one line -/
theorem js_setLc {i : Nat} {y : Str} {py : Pos} {elt tg iter : Expr} {ifs : List Expr} {scope : Scope} {own : List (Str × Nat)} {pos spos : Pos} {ui : UI} {gt : UG} {ut : UT} {ue : UE} (hc : X.calm = true) (hN : X.N.Nodup) (hy : X.N[i]? = some y) (hyl : X.env.scope.names.lookup y = some .local)
    (hsw : swapsWith (.ListComp elt [⟨tg, iter, ifs, 0⟩] scope pos) (some (.Name y py)) spos.line X.env = pure true) (hi : JI S X tg iter ui) (ok : BlkOk X.N X.env.scope scope own)
    (hg : ∀ (s : Shared) (H : Hp) (C : Addr) (cl : List (Str × Addr)) (fp : List Addr), JG S (X.blk s H scope (compEnvC scope cl C X.env) fp) tg gt (own.map (·.2))) (ht : ∀ (s : Shared) (H : Hp) (C : Addr) (cl : List (Str × Addr)) (fp : List Addr), JTs S (X.blk s H scope (compEnvC scope cl C X.env) fp) ifs ut)
    (he : ∀ (s : Shared) (H : Hp) (C : Addr) (cl : List (Str × Addr)) (fp : List Addr), JE S (X.blk s H scope (compEnvC scope cl C X.env) fp) elt ue) (hs : ∀ x, foldedSetIterable iter X.env x = pure x := by intro _; rfl) :
    JS S X (.Assign [.Name y py] (.ListComp elt [⟨tg, iter, ifs, 0⟩] scope pos) spos) (sAsg i (uLc ui gt ut ue (own.map (·.2)))) :=
  ⟨_, ps_setLc hc hN hy hyl hsw hi.can ok (fun s H C cl fp => (hg s H C cl fp).can) (fun s H C cl fp => (ht s H C cl fp).ps) (fun s H C cl fp => (he s H C cl fp).can) hs,
    fun g0 B g H ρ σ D D' I hu gl => asg_core I allM gl (fun ρ σ g H Q P I R hu hP => lift_lc ((hg X.s_0 H 0 [] []).on) I R hu hP) (by rw [vis_all]; exact hu)⟩
end
end DL

/-! DLMut: lists that change, other assignments, while, loops over numbers, defs. -/
namespace DL
open PySem PySem.Spec PyProof.Rows L2

section
variable {S : Src} {g0 g : G} {B H : Hp} {ρ : DEnv} {σ : L2.St}
/-- an own list is changed -/
theorem SInv.put (I : SInv S g0 B g H ρ σ) {i : Nat} {e : D} (h : ρ[i]? = some (some (true, e))) {p : Addr} (hp : σ[i]? = some (some (.ref p))) {ds : List D} {xs : List V} (l : RepL g H ds xs) :
    SInv S g0 B g (upd H p (.lst xs)) (ρ.set i (some (true, .lst ds))) σ := by
  obtain ⟨a, ys, es, h1, rfl, h2, h3, h4, h5, h6⟩ := I.own i e h
  rw [hp] at h1
  cases h1
  have u : Up g H g (upd H p (.lst xs)) := Up.upd h2 h4
  have hl : i < ρ.length := (List.getElem?_eq_some_iff.mp h).1
  have at_ : ∀ (j : Nat) (x : Bool × D), (ρ.set i (some (true, D.lst ds)))[j]? = some (some x) → (j = i ∧ x = (true, .lst ds)) ∨ (j ≠ i ∧ ρ[j]? = some (some x)) := fun j x e => by
    by_cases hj : i = j
    · subst hj
      rw [List.getElem?_set_self hl] at e
      cases e
      exact .inl ⟨rfl, rfl⟩
    · rw [List.getElem?_set_ne hj] at e
      exact .inr ⟨Ne.symm hj, e⟩
  refine ⟨⟨I.st.fz, I.st.fzn, I.st.rl, I.st.rln, I.st.rp, fun a o e n nt => ?_, fun a o e => ?_⟩, I.hi.upd h4 h5 h2, by rw [List.length_set]; exact I.len, fun j d e => ?_, fun j k d e a h1 h2' h3' h4' => ?_, fun j d e => ?_⟩
  · rw [upd_ne (ne_of_none e h3)]
    exact I.st.keep a o e n nt
  · rw [upd_ne (ne_of_none e h3)]
    exact I.st.there a o e
  · rcases at_ j _ e with ⟨rfl, e2⟩ | ⟨hj, e2⟩
    · cases e2
      exact ⟨p, xs, ds, hp, rfl, upd_same, h3, h4, h5, RepL.up u ds xs l⟩
    · obtain ⟨a, zs, fs, q1, rfl, q2, q3, q4, q5, q6⟩ := I.own j d e2
      refine ⟨a, zs, fs, q1, rfl, ?_, q3, q4, q5, RepL.up u fs zs q6⟩
      rw [upd_ne (fun z => hj (by
        rw [z] at q1
        exact I.inj j i _ _ p e2 h q1 hp))]
      exact q2
  · have f1 : ∃ d', ρ[j]? = some (some (true, d')) := by
      rcases at_ j _ h1 with ⟨rfl, _⟩ | ⟨_, e2⟩
      · exact ⟨_, h⟩
      · exact ⟨_, e2⟩
    have f2 : ∃ d', ρ[k]? = some (some (true, d')) := by
      rcases at_ k _ h2' with ⟨rfl, _⟩ | ⟨_, e2⟩
      · exact ⟨_, h⟩
      · exact ⟨_, e2⟩
    obtain ⟨d1, f1⟩ := f1
    obtain ⟨d2, f2⟩ := f2
    exact I.inj j k d1 d2 a f1 f2 h3' h4'
  · rcases at_ j _ e with ⟨rfl, e2⟩ | ⟨hj, e2⟩
    · cases e2
    · obtain ⟨v, hv, r⟩ := I.imm j d e2
      exact ⟨v, hv, Rep.up u d v r⟩
/-- a new list, held by no name, is shared -/
theorem SInv.frzNew (I : SInv S g0 B g H ρ σ) {a : Addr} {xs : List V} (e : H a = some (.lst xs)) (hB : B a = none) (hr : ¬ g.rl a) (ho : ∀ (j : Nat) (d : D), ρ[j]? = some (some (true, d)) → σ[j]? ≠ some (some (V.ref a))) :
    SInv S g0 B (frz g a) H ρ σ ∧ Up g H (frz g a) H := by
  have u : Up g H (frz g a) H := ⟨fun b h => .inl h, fun _ h => h, fun _ _ _ n => n, fun _ => rfl, fun _ _ h => h, fun _ _ _ h => h⟩
  refine ⟨⟨⟨fun b h => .inl (I.st.fz b h), fun b h => ?_, I.st.rl, I.st.rln, I.st.rp, I.st.keep, I.st.there⟩, ⟨fun b h => ?_, fun b h z => ?_, I.hi.rl, I.hi.tb.1, fun b u h q => ?_⟩, I.len, fun j d h => ?_, I.inj, fun j d h => ?_⟩, u⟩
  · rcases h with h | h
    · exact I.st.fzn b h
    · exact .inr (by rw [h]; exact hB)
  · rcases h with h | h
    · exact I.hi.fz b h
    · rw [h]; exact ⟨_, e⟩
  · rcases z with z | z
    · exact I.hi.dis b h z
    · rw [z] at h; exact hr h
  · rcases h with h | h
    · exact I.hi.tb.2 b u h q
    · rw [h, e] at q; cases q; exact id
  · obtain ⟨b, zs, fs, q1, rfl, q2, q3, q4, q5, q6⟩ := I.own j d h
    refine ⟨b, zs, fs, q1, rfl, q2, q3, fun z => ?_, q5, RepL.up u fs zs q6⟩
    rcases z with z | z
    · exact q4 z
    · exact ho j _ h (by rw [← z]; exact q1)
  · obtain ⟨v, hv, r⟩ := I.imm j d h
    exact ⟨v, hv, Rep.up u d v r⟩
/-- .. of a value at hand -/
theorem SInv.share (I : SInv S g0 B g H ρ σ) {t : Bool} {d : D} {v : V} (r : RepT g H t d v) (f : t = true → ∀ a, v = .ref a → B a = none ∧ ∀ (j : Nat) (e : D), ρ[j]? = some (some (true, e)) → σ[j]? ≠ some (some (V.ref a))) :
    ∃ g', SInv S g0 B g' H ρ σ ∧ Rep g' H d v ∧ g'.rl = g.rl := by
  cases t with
  | false => exact ⟨g, I, r, rfl⟩
  | true =>
    obtain ⟨a, xs, ds, rfl, rfl, h1, h2, h3, h4⟩ := r
    obtain ⟨f1, f2⟩ := f rfl a rfl
    obtain ⟨J, u⟩ := I.frzNew h1 f1 h3 f2
    exact ⟨frz g a, J, by rw [Rep]; exact ⟨a, xs, rfl, ⟨h1, .inr rfl⟩, RepL.up u ds xs h4⟩, rfl⟩
end

/-! ### x.append(e) and its kin -/
/-- an own list at the place i -/
@[simp] def ownAt (ρ : DEnv) (i : Nat) (Q : List D → Prop) : Prop := match ρ[i]? with
  | some (some (true, .lst ds)) => Q ds
  | _ => False
theorem ownAt_of {ρ : DEnv} {i : Nat} {Q : List D → Prop} (h : ownAt ρ i Q) : ∃ ds, ρ[i]? = some (some (true, .lst ds)) ∧ Q ds := by
  unfold ownAt at h
  split at h
  · rename_i ds e
    exact ⟨ds, e, h⟩
  · exact h.elim
@[simp] def settleL (M : Nat → Bool) (ds : List D) (ρ : DEnv) : DEnv := if noLstL ds = true then ρ else freeze M ρ
/-- a method that changes a list: the list ahead, the arguments, what is wanted of the list behind and of the value -/
abbrev MtF := List D → List D → (List D → D → Prop) → Prop
def LiftM (S : Src) (r : V → List V → Hp → VK → Prop) (f : MtF) : Prop :=
  ∀ (g : G) (H : Hp) (p : Addr) (xs : List V) (ds : List D) (vs : List V) (as : List D) (K : List D → D → Prop) (P : VK), H p = some (.lst xs) → RepL g H ds xs → RepL g H as vs → f ds as K →
    (∀ xs' ds' v d, RepL g H ds' xs' → Rep g H d v → K ds' d → P v (upd H p (.lst xs'))) → r (.ref p) vs H P
@[simp] def mAppend : MtF := fun ds as K => match as with
  | [d] => ds.length < sizeLine ∧ K (ds ++ [d]) .non
  | _ => False
theorem liftm_append {S : Src} : LiftM S rAppend mAppend := by
  intro g H p xs ds vs as K P e l la h hP
  unfold mAppend at h
  split at h
  · rename_i d
    rw [RepL] at la
    obtain ⟨v, r, rfl, r1, r2⟩ := la
    rw [RepL] at r2
    subst r2
    exact ⟨p, xs, v, rfl, rfl, e, by rw [l.len]; exact h.1, hP _ _ _ _ (l.append (RepL.cons r1 RepL.nil)) (by rw [Rep]) h.2⟩
  · exact h.elim
@[simp] def mPop : MtF := fun ds as K => match as with
  | [] => ∃ d, ds[ds.length - 1]? = some d ∧ K ds.dropLast d
  | _ => False
theorem RepL.dropLast {g : G} {H : Hp} {ds : List D} {vs : List V} (l : RepL g H ds vs) : RepL g H ds.dropLast vs.dropLast := by
  rw [List.dropLast_eq_take, List.dropLast_eq_take, l.len]
  exact l.take _
theorem liftm_pop {S : Src} : LiftM S rPop mPop := by
  intro g H p xs ds vs as K P e l la h hP
  unfold mPop at h
  split at h
  · rw [RepL] at la
    subst la
    obtain ⟨d, hd, hk⟩ := h
    obtain ⟨v, hv, rv⟩ := l.get hd
    refine ⟨p, xs, v, rfl, rfl, e, by rw [l.len]; exact hv, hP _ _ _ _ l.dropLast ?_ hk⟩
    exact rv
  · exact h.elim
theorem RepL.eraseIdx {g : G} {H : Hp} : ∀ {ds : List D} {vs : List V} (k : Nat), RepL g H ds vs → RepL g H (ds.eraseIdx k) (vs.eraseIdx k)
  | [], vs, k, l => by rw [RepL] at l; subst l; exact RepL.nil
  | d :: ds, vs, k, l => by
    rw [RepL] at l
    obtain ⟨v, r, rfl, r1, r2⟩ := l
    cases k with
    | zero => exact r2
    | succ k => exact RepL.cons r1 (RepL.eraseIdx k r2)
@[simp] def mPopAt : MtF := fun ds as K => match as with
  | [.int i] => (-(2 ^ 63) ≤ i ∧ i < 2 ^ 63) ∧ ∃ k d, ixN ds.length i = some k ∧ ds[k]? = some d ∧ K (ds.eraseIdx k) d
  | _ => False
theorem liftm_popAt {S : Src} : LiftM S rPopAt mPopAt := by
  intro g H p xs ds vs as K P e l la h hP
  unfold mPopAt at h
  split at h
  · rename_i i
    simp only [RepL, Rep] at la
    obtain ⟨v, r', rfl, rfl, rfl⟩ := la
    obtain ⟨hb, k, d, hk, hd, hq⟩ := h
    obtain ⟨w, hw, rw'⟩ := l.get hd
    refine ⟨p, xs, i, k, w, rfl, rfl, e, hb.1, hb.2, ?_, hw, hP _ _ _ _ (l.eraseIdx k) rw' hq⟩
    rw [l.len]
    exact (ixN_seq hk).1
  · exact h.elim
theorem RepL.reverse {g : G} {H : Hp} : ∀ {ds : List D} {vs : List V}, RepL g H ds vs → RepL g H ds.reverse vs.reverse
  | [], vs, l => by rw [RepL] at l; subst l; exact RepL.nil
  | d :: ds, vs, l => by
    rw [RepL] at l
    obtain ⟨v, r, rfl, r1, r2⟩ := l
    rw [List.reverse_cons, List.reverse_cons]
    exact (RepL.reverse r2).append (RepL.cons r1 RepL.nil)
@[simp] def mReverse : MtF := fun ds as K => match as with
  | [] => K ds.reverse .non
  | _ => False
theorem liftm_reverse {S : Src} : LiftM S rReverse mReverse := by
  intro g H p xs ds vs as K P e l la h hP
  unfold mReverse at h
  split at h
  · rw [RepL] at la
    subst la
    exact ⟨p, xs, rfl, rfl, e, hP _ _ _ _ l.reverse (by rw [Rep]) h⟩
  · exact h.elim

@[simp] def sMeth (M : Nat → Bool) (i : Nat) (f : MtF) (u : UA) (D : UEnds) (ρ : DEnv) : Prop := ownAt ρ i (fun _ => True) ∧ u (vis M ρ) fun as => ownAt (settleL M as ρ) i fun ds => f ds as fun ds' _ => D.nx ((settleL M as ρ).set i (some (true, .lst ds')))
/-- name = x.m(..), the value without lists -/
@[simp] def sMethV (M : Nat → Bool) (k i : Nat) (f : MtF) (u : UA) (D : UEnds) (ρ : DEnv) : Prop := ownAt ρ i (fun _ => True) ∧ u (vis M ρ) fun as => ownAt (settleL M as ρ) i fun ds => f ds as fun ds' d => D.nx (((settleL M as ρ).set i (some (true, .lst ds'))).set k (some (false, d)))
section
variable {S : Src} {X : Cx} {pos : Pos}
theorem settleL_own {M : Nat → Bool} {as : List D} {ρ : DEnv} {j : Nat} {e : D} (h : (settleL M as ρ)[j]? = some (some (true, e))) : ρ[j]? = some (some (true, e)) := by
  unfold settleL at h
  split at h
  · exact h
  · exact (freeze_own h).1
theorem meth_core {g0 g : G} {B H : Hp} {ρ : DEnv} {σ : L2.St} (I : SInv S g0 B g H ρ σ) (M : Nat → Bool) {i : Nat} {K : PySem.W.Frag} {r : V → List V → Hp → VK → Prop} {f : MtF} (hl : LiftM S r f) {ta : TA} {u : UA} {W : List D → List D → D → Prop} {P : VK}
    (h : ∀ (ρ : DEnv) (σ : L2.St) (g : G) (H : Hp) (Q : List D → Prop) (P : List V → Hp → Prop), HInv S g H → RepS g H ρ σ → u ρ Q → (∀ vs H', APost S g H Q vs H' → P vs H') → ta σ H P)
    (ho : ownAt ρ i (fun _ => True)) (hu : u (vis M ρ) fun as => ownAt (settleL M as ρ) i fun ds => f ds as fun ds' d => W as ds' d)
    (hP : ∀ v H' as ds' d g', SInv S g0 B g' H' ((settleL M as ρ).set i (some (true, .lst ds'))) σ → Rep g' H' d v → W as ds' d → P v H') : tBM K "list" r (tVar i) ta σ H P := by
  obtain ⟨ds, e1, _⟩ := ownAt_of ho
  obtain ⟨a, xs, ds', ea, e0, eh, _⟩ := I.own i _ e1
  refine ⟨.ref a, ea, .inl ⟨rfl, xs, .inl (.inl eh)⟩, ?_⟩
  obtain ⟨gv, Iv, Rv, fin⟩ := I.view M
  refine h (vis M ρ) σ gv H _ _ Iv Rv hu fun vs H' e => ?_
  obtain ⟨g', as, s, I', ra, q⟩ := e
  obtain ⟨f1, g2, f2, q1, q2, q3⟩ := fin g' H' s I'
  have fork : ∃ g3, SInv S g0 B g3 H' (settleL M as ρ) σ ∧ RepL g3 H' as vs := by
    unfold settleL
    by_cases hn : noLstL as = true
    · rw [if_pos hn]
      exact ⟨g2, f2, RepL.noLst (g := g') (g' := g2) q1 q2 as vs hn ra⟩
    · rw [if_neg hn]
      exact ⟨g', f1, ra⟩
  obtain ⟨g3, I3, ra3⟩ := fork
  obtain ⟨ds, e3, q⟩ := ownAt_of q
  obtain ⟨a', ys, ds2, h1, h0, h2, h3, h4, h5, h6⟩ := I3.own i _ e3
  cases h0
  rw [ea] at h1
  cases h1
  refine hl g3 H' a ys ds vs as _ P h2 h6 ra3 q fun xs' ds' v d l' rd w => ?_
  refine hP v _ as ds' d g3 (I3.put e3 ea l') ?_ w
  exact Rep.up (Up.upd h2 h4) d v rd
variable {e : Expr} {es : List Expr} {x name : Str} {id : String} {i : Nat} {p1 p2 p3 : Pos} {r : V → List V → Hp → VK → Prop} {f : MtF} {u : UA}
/-- x.m(e, ..) as a statement -/
theorem js_meth (M : Nat → Bool) (slot : Slot "list" name id) (hty : typeOf (.builtin id) = pure (.type "method_descriptor")) (hm : MtR X id r) (hl : LiftM S r f) (hi : X.N[i]? = some x) (ha : JA S X (e :: es) u)
    (hv : Vis X.env.scope x := by first | exact Or.inl rfl | exact Or.inr (Or.inl rfl) | exact Or.inr (Or.inr rfl)) (hd : (x == ("__debug__" : Str)) = false := by decide) (hcd : (x == ("__classdict__" : Str)) = false := by decide)
    (hbase : attributeBase (.Name x p1) name X.env (eval (.Name x p1) X.env) = eval (.Name x p1) X.env := by rfl)
    (hfew : ((backTo p3 (starEach (e :: es) X.env)).all (fun x => !x.1) && (backToKw p3 (keywordEach [] X.env)).all (fun x => x.1.isSome)
      && decide ((e :: es).length + ([] : List Keyword).length + (if ([] : List Keyword).isEmpty then 0 else 1) < 30)) = true := by rfl)
    (hline : (p2.endLine == p3.line) = true := by rfl) (hst : starEach (e :: es) X.env = (false, eval e X.env) :: starEach es X.env := by rfl) (hplain : (backTo p3 (starEach es X.env)).any (·.1) = false := by rfl)
    (hs : swapsWith (.Call (.Attribute (.Name x p1) name p2) (e :: es) [] p3) none pos.line X.env = pure false := by rfl) :
    JS S X (.Expr (.Call (.Attribute (.Name x p1) name p2) (e :: es) [] p3) pos) (sMeth M i f u) := by
  obtain ⟨t, p, h⟩ := ha.ex
  refine ⟨_, ps_expr (pe_bm PySem.F.plainAttrs_list slot hty hm (pv i hi hv hd hcd) p hbase hfew hline hst hplain) hs, fun g0 B g H ρ σ E E' I hu gl => ?_⟩
  exact meth_core I M hl h hu.1 hu.2 fun v H' as ds' d g' I' _ w => gl.nx g' H' _ _ I' w
/-- x.m() as a statement -/
theorem js_meth0 (slot : Slot "list" name id) (hty : typeOf (.builtin id) = pure (.type "method_descriptor")) (hm : MtR X id r) (hl : LiftM S r f) (hi : X.N[i]? = some x)
    (hv : Vis X.env.scope x := by first | exact Or.inl rfl | exact Or.inr (Or.inl rfl) | exact Or.inr (Or.inr rfl)) (hd : (x == ("__debug__" : Str)) = false := by decide) (hcd : (x == ("__classdict__" : Str)) = false := by decide)
    (hbase : attributeBase (.Name x p1) name X.env (eval (.Name x p1) X.env) = eval (.Name x p1) X.env := by rfl) (hline : (p2.endLine == p3.line) = true := by rfl)
    (hs : swapsWith (.Call (.Attribute (.Name x p1) name p2) [] [] p3) none pos.line X.env = pure false := by rfl) :
    JS S X (.Expr (.Call (.Attribute (.Name x p1) name p2) [] [] p3) pos) (sMeth allM i f uNil) := by
  refine ⟨_, ps_expr (pe_bm0 PySem.F.plainAttrs_list slot hty hm (pv i hi hv hd hcd) hbase hline) hs, fun g0 B g H ρ σ E E' I hu gl => ?_⟩
  exact meth_core (K := X.K) (ta := tNil) (u := uNil) I allM hl (fun ρ σ g H Q P I R hu hP => hP [] H ⟨g, [], Step.refl g H, I, RepL.nil, hu⟩) hu.1 hu.2 fun v H' as ds' d g' I' _ w => gl.nx g' H' _ _ I' w
/-- y = x.m(e, ..) -/
theorem js_methV (M : Nat → Bool) {k : Nat} {y : Str} {p4 : Pos} (hN : X.N.Nodup) (slot : Slot "list" name id) (hty : typeOf (.builtin id) = pure (.type "method_descriptor")) (hm : MtR X id r) (hl : LiftM S r f) (hi : X.N[i]? = some x) (ha : JA S X (e :: es) u) (hk : X.N[k]? = some y) (hx : Loc X.env.scope y := by first | exact Or.inl rfl | exact Or.inr rfl)
    (hf : X.fn y = true ∨ X.env.scope.names.lookup y = some .local := by first | exact .inl rfl | exact .inr rfl | assumption)
    (hv : Vis X.env.scope x := by first | exact Or.inl rfl | exact Or.inr (Or.inl rfl) | exact Or.inr (Or.inr rfl)) (hd : (x == ("__debug__" : Str)) = false := by decide) (hcd : (x == ("__classdict__" : Str)) = false := by decide)
    (hbase : attributeBase (.Name x p1) name X.env (eval (.Name x p1) X.env) = eval (.Name x p1) X.env := by rfl)
    (hfew : ((backTo p3 (starEach (e :: es) X.env)).all (fun x => !x.1) && (backToKw p3 (keywordEach [] X.env)).all (fun x => x.1.isSome)
      && decide ((e :: es).length + ([] : List Keyword).length + (if ([] : List Keyword).isEmpty then 0 else 1) < 30)) = true := by rfl)
    (hline : (p2.endLine == p3.line) = true := by rfl) (hst : starEach (e :: es) X.env = (false, eval e X.env) :: starEach es X.env := by rfl) (hplain : (backTo p3 (starEach es X.env)).any (·.1) = false := by rfl)
    (hs : swapsWith (.Call (.Attribute (.Name x p1) name p2) (e :: es) [] p3) (some (.Name y p4)) pos.line X.env = pure false := by rfl) :
    JS S X (.Assign [.Name y p4] (.Call (.Attribute (.Name x p1) name p2) (e :: es) [] p3) pos) (sMethV M k i f u) := by
  obtain ⟨t, p, h⟩ := ha.ex
  refine ⟨_, ps_set hN hk hx (pe_bm PySem.F.plainAttrs_list slot hty hm (pv i hi hv hd hcd) p hbase hfew hline hst hplain) hs hf, fun g0 B g H ρ σ E E' I hu gl => ?_⟩
  exact meth_core I M hl h hu.1 hu.2 fun v H' as ds' d g' I' r w => gl.nx g' H' _ _ (I'.set (t := false) r (fun z => (by cases z))) w
/-- y = x.m() -/
theorem js_methV0 {k : Nat} {y : Str} {p4 : Pos} (hN : X.N.Nodup) (slot : Slot "list" name id) (hty : typeOf (.builtin id) = pure (.type "method_descriptor")) (hm : MtR X id r) (hl : LiftM S r f) (hi : X.N[i]? = some x) (hk : X.N[k]? = some y) (hx : Loc X.env.scope y := by first | exact Or.inl rfl | exact Or.inr rfl)
    (hf : X.fn y = true ∨ X.env.scope.names.lookup y = some .local := by first | exact .inl rfl | exact .inr rfl | assumption)
    (hv : Vis X.env.scope x := by first | exact Or.inl rfl | exact Or.inr (Or.inl rfl) | exact Or.inr (Or.inr rfl)) (hd : (x == ("__debug__" : Str)) = false := by decide) (hcd : (x == ("__classdict__" : Str)) = false := by decide)
    (hbase : attributeBase (.Name x p1) name X.env (eval (.Name x p1) X.env) = eval (.Name x p1) X.env := by rfl) (hline : (p2.endLine == p3.line) = true := by rfl)
    (hs : swapsWith (.Call (.Attribute (.Name x p1) name p2) [] [] p3) (some (.Name y p4)) pos.line X.env = pure false := by rfl) :
    JS S X (.Assign [.Name y p4] (.Call (.Attribute (.Name x p1) name p2) [] [] p3) pos) (sMethV allM k i f uNil) := by
  refine ⟨_, ps_set hN hk hx (pe_bm0 PySem.F.plainAttrs_list slot hty hm (pv i hi hv hd hcd) hbase hline) hs hf, fun g0 B g H ρ σ E E' I hu gl => ?_⟩
  exact meth_core (K := X.K) (ta := tNil) (u := uNil) I allM hl (fun ρ σ g H Q P I R hu hP => hP [] H ⟨g, [], Step.refl g H, I, RepL.nil, hu⟩) hu.1 hu.2 fun v H' as ds' d g' I' r w => gl.nx g' H' _ _ (I'.set (t := false) r (fun z => (by cases z))) w

/-! ### x[k] = e -/
@[simp] def sSetIx (M : Nat → Bool) (i : Nat) (uk u : UE) (D : UEnds) (ρ : DEnv) : Prop := u (vis M ρ) fun t d => ownAt (settle M t d ρ) i (fun _ => True) ∧ uk (settle M t d ρ) fun _ k => isI (fun k => ownAt (settle M t d ρ) i fun ds => ∃ j, ixN ds.length k = some j ∧ D.nx ((settle M t d ρ).set i (some (true, .lst (ds.set j d))))) k
theorem settle_hold {g0 g : G} {B H : Hp} {ρ : DEnv} {σ : L2.St} (I : SInv S g0 B g H ρ σ) {M : Nat → Bool} {t : Bool} {d : D} {v : V} (f : t = true → ∀ a, v = .ref a → H a = none) :
    t = true → ∀ a, v = .ref a → B a = none ∧ ∀ (j : Nat) (e : D), (settle M t d ρ)[j]? = some (some (true, e)) → σ[j]? ≠ some (some (V.ref a)) := fun z a ea => by
  refine ⟨I.st.free (f z a ea), fun j e h1 h2 => ?_⟩
  obtain ⟨a', xs, ds, e1, _, e2, _⟩ := I.own j e (settle_own h1)
  rw [h2] at e1
  cases e1
  rw [f z a ea] at e2
  cases e2
/-- an expression whose value is an int, in the midst of a body, with another value at hand -/
theorem SInv.int {g0 g : G} {B H : Hp} {ρ : DEnv} {σ : L2.St} (I : SInv S g0 B g H ρ σ) {u : UE} {te : TE} {Q : Int → Prop} {P : VK} {d0 : D} {v0 : V} (r0 : Rep g H d0 v0)
    (h : ∀ (ρ : DEnv) (σ : L2.St) (g : G) (H : Hp) (Q : UK) (P : VK), HInv S g H → RepS g H ρ σ → u ρ Q → (∀ v H', EPost S g H Q v H' → P v H') → te σ H P) (hu : u ρ fun _ k => isI Q k)
    (hP : ∀ k H' g', SInv S g0 B g' H' ρ σ → Rep g' H' d0 v0 → Q k → P (.int k) H') : te σ H P := by
  -- the value at hand rides along as one more name
  have I1 : SInv S g0 B g H (ρ ++ [some (false, d0)]) (σ ++ [some v0]) := by
    have hl := I.len
    have at_ : ∀ (j : Nat) (x : Bool × D), (ρ ++ [some (false, d0)])[j]? = some (some x) → (j < ρ.length ∧ ρ[j]? = some (some x) ∧ (σ ++ [some v0])[j]? = σ[j]?) ∨ (j = ρ.length ∧ x = (false, d0) ∧ (σ ++ [some v0])[j]? = some (some v0)) := fun j x e => by
      by_cases hj : j < ρ.length
      · rw [List.getElem?_append_left hj] at e
        exact .inl ⟨hj, e, List.getElem?_append_left (by omega)⟩
      · have hj2 : j = ρ.length := by
          have := (List.getElem?_eq_some_iff.mp e).1
          rw [List.length_append, List.length_singleton] at this
          omega
        subst hj2
        rw [List.getElem?_append_right (Nat.le_refl _), Nat.sub_self] at e
        cases e
        refine .inr ⟨rfl, rfl, ?_⟩
        rw [hl, List.getElem?_append_right (Nat.le_refl _), Nat.sub_self]
        rfl
    refine ⟨I.st, I.hi, by rw [List.length_append, List.length_append, hl]; rfl, fun j d e => ?_, fun j k d e a h1 h2 h3 h4 => ?_, fun j d e => ?_⟩
    · rcases at_ j _ e with ⟨_, e1, e2⟩ | ⟨_, e1, _⟩
      · rw [e2]; exact I.own j d e1
      · cases e1
    · rcases at_ j _ h1 with ⟨_, e1, e2⟩ | ⟨_, e1, _⟩
      · rcases at_ k _ h2 with ⟨_, e3, e4⟩ | ⟨_, e3, _⟩
        · rw [e2] at h3
          rw [e4] at h4
          exact I.inj j k d e a e1 e3 h3 h4
        · cases e3
      · cases e1
    · rcases at_ j _ e with ⟨_, e1, e2⟩ | ⟨_, e1, e2⟩
      · rw [e2]; exact I.imm j d e1
      · cases e1
        exact ⟨v0, e2, r0⟩
  obtain ⟨gv, Iv, Rv, fin⟩ := I1.view allM
  have Rv' : RepS gv H ρ σ := by
    rw [vis_all] at Rv
    refine ⟨I.len, fun j t d e => ?_⟩
    have hj : j < ρ.length := (List.getElem?_eq_some_iff.mp e).1
    obtain ⟨v, hv, r⟩ := Rv.get j t d (by rw [List.getElem?_append_left hj]; exact e)
    rw [List.getElem?_append_left (by rw [← I.len]; exact hj)] at hv
    exact ⟨v, hv, r⟩
  refine h ρ σ gv H _ _ Iv Rv' hu fun v H' e => ?_
  obtain ⟨g', d, s, I', r, _, q⟩ := e.rep
  obtain ⟨_, g2, f2, q1, q2, q3⟩ := fin g' H' s I'
  cases d with
  | int k =>
    rw [Rep] at r
    subst r
    have e0 : (ρ ++ [some (false, d0)])[ρ.length]? = some (some (false, d0)) := by rw [List.getElem?_append_right (Nat.le_refl _), Nat.sub_self]; rfl
    obtain ⟨w, hw, rw'⟩ := f2.imm ρ.length d0 e0
    rw [I.len, List.getElem?_append_right (Nat.le_refl _), Nat.sub_self] at hw
    cases hw
    refine hP k H' g2 ⟨f2.st, f2.hi, I.len, fun j d e => ?_, fun j k d e a h1 h2 h3 h4 => ?_, fun j d e => ?_⟩ rw' q
    · have hj : j < ρ.length := (List.getElem?_eq_some_iff.mp e).1
      have := f2.own j d (by rw [List.getElem?_append_left hj]; exact e)
      rwa [List.getElem?_append_left (by rw [← I.len]; exact hj)] at this
    · have hj : j < ρ.length := (List.getElem?_eq_some_iff.mp h1).1
      have hk : k < ρ.length := (List.getElem?_eq_some_iff.mp h2).1
      exact f2.inj j k d e a (by rw [List.getElem?_append_left hj]; exact h1) (by rw [List.getElem?_append_left hk]; exact h2) (by rw [List.getElem?_append_left (by rw [← I.len]; exact hj)]; exact h3) (by rw [List.getElem?_append_left (by rw [← I.len]; exact hk)]; exact h4)
    · have hj : j < ρ.length := (List.getElem?_eq_some_iff.mp e).1
      have := f2.imm j d (by rw [List.getElem?_append_left hj]; exact e)
      rwa [List.getElem?_append_left (by rw [← I.len]; exact hj)] at this
  | _ => exact (show False from q).elim
theorem js_setIx (M : Nat → Bool) {a ek : Expr} {ua uk : UE} {pt : Pos} (he : JE S X a ua) (hk : JE S X ek uk) (hi : X.N[i]? = some x)
    (hv : Vis X.env.scope x := by first | exact Or.inl rfl | exact Or.inr (Or.inl rfl) | exact Or.inr (Or.inr rfl)) (hd : (x == ("__debug__" : Str)) = false := by decide) (hcd : (x == ("__classdict__" : Str)) = false := by decide)
    (hs : swapsWithSole [.Subscript (.Name x p1) ek pt] a pos.line X.env = pure false := by rfl) (hw : swappedStores [.Subscript (.Name x p1) ek pt] a X.env = pure none := by rfl)
    (h1 : (assignEach [.Subscript (.Name x p1) ek pt] X.env).map (·.2) = [assign (.Subscript (.Name x p1) ek pt) X.env] := by rfl)
    (hsub : ∀ v, assign (.Subscript (.Name x p1) ek pt) X.env v = (do
      let ov ← holding [v] (eval (.Name x p1) X.env)
      let iv ← holding [v, ov] (eval ek X.env)
      standAt pt
      holding [v, ov, iv] (setItem ov iv v)
      release [v, ov, iv] []) := by intro _; rfl) :
    JS S X (.Assign [.Subscript (.Name x p1) ek pt] a pos) (sSetIx M i uk ua) := by
  obtain ⟨t, p, h⟩ := he.ex
  obtain ⟨tk, pk, hk⟩ := hk.ex
  refine ⟨_, ps_asg p (pg_sub (pv i hi hv hd hcd) pk set_list hsub) hs hw h1, fun g0 B g H ρ σ E E' I hu gl => ?_⟩
  refine I.expr M h hu fun v H' t d g' I' r f hth q => ?_
  obtain ⟨g2, I2, r2, _⟩ := I'.share r (settle_hold I f)
  -- the list's place
  obtain ⟨q0, q⟩ := q
  obtain ⟨ds0, e0, _⟩ := ownAt_of q0
  obtain ⟨b, _, _, eb, _⟩ := I2.own i _ e0
  refine ⟨.ref b, eb, ?_⟩
  refine I2.int r2 hk q fun k H2 g3 I3 r3 q3 => ?_
  obtain ⟨ds, e3, j, hj, q3⟩ := ownAt_of q3
  obtain ⟨b', ys, ds2, h1, h0, h2, h3, h4, h5, h6⟩ := I3.own i _ e3
  cases h0
  rw [eb] at h1
  cases h1
  exact ⟨b, ys, k, j, rfl, rfl, h2, by rw [h6.len]; exact hj, gl.nx g3 _ _ _ (I3.put e3 eb (h6.set j r3)) q3⟩
end
end DL

/-! DLDef: further assignments, while, loops over numbers, defs, the law's end. -/
namespace DL
open PySem PySem.Spec PyProof.Rows L2

section
variable {S : Src} {X : Cx} {pos : Pos}
/-! ### x op= e over ints -/
@[simp] def sAugI (i : Nat) (k : Int → Int → Int) (u : UE) (D : UEnds) (ρ : DEnv) : Prop := match ρ[i]? with
  | some (some (_, .int a)) => u ρ fun _ y => isI (fun b => D.nx (ρ.set i (some (false, .int (k a b))))) y
  | _ => False
theorem js_augI {i : Nat} {x : Str} {e : Expr} {ue : UE} {op : Operator} {k : Int → Int → Int} {pos' : Pos} (hN : X.N.Nodup) (ho : PIp X op (ipI k)) (he : JE S X e ue) (hi : X.N[i]? = some x := by rfl) (hx : Loc X.env.scope x := by first | exact Or.inl rfl | exact Or.inr rfl) (hf : X.fn x = true ∨ X.env.scope.names.lookup x = some .local := by first | exact .inl rfl | exact .inr rfl | assumption) :
    JS S X (.AugAssign (.Name x pos') op e pos) (sAugI i k ue) := by
  obtain ⟨t, p, h⟩ := he.ex
  refine ⟨_, ps_aug hN hi hx p ho hf, fun g0 B g H ρ σ E E' I hu gl => ?_⟩
  unfold sAugI at hu
  split at hu
  · rename_i tt a e1
    cases tt with
    | true =>
      obtain ⟨_, _, _, _, h0, _⟩ := I.own i _ e1
      cases h0
    | false =>
      obtain ⟨v, hv, r⟩ := I.imm i _ e1
      rw [Rep] at r
      subst r
      refine ⟨.int a, hv, I.int (d0 := .non) (v0 := .non) (by rw [Rep]) h hu fun b H' g' I' _ q => ?_⟩
      exact ⟨a, b, rfl, rfl, gl.nx g' H' _ _ (I'.set (t := false) (d := .int (k a b)) (by show Rep _ _ _ _; rw [Rep]) (fun z => (by cases z))) q⟩
  · exact hu.elim

/-! ### targets of any form -/
@[simp] def sAsgG (gt : UG) (u : UE) (D : UEnds) (ρ : DEnv) : Prop := u ρ fun t d => match gt d with
  | some L => D.nx (setAll (settle allM t d ρ) (dset L))
  | none => False
theorem js_asgG {tg e : Expr} {ue : UE} {gt : UG} {vs : List Nat} (he : JE S X e ue) (hg : JG S X tg gt vs) (hs : swapsWithSole [tg] e pos.line X.env = pure false := by rfl) (hw : swappedStores [tg] e X.env = pure none := by rfl)
    (h1 : (assignEach [tg] X.env).map (·.2) = [assign tg X.env] := by rfl) : JS S X (.Assign [tg] e pos) (sAsgG gt ue) := by
  obtain ⟨t, p, h⟩ := he.ex
  obtain ⟨⟨tg', pg, hg⟩, _⟩ := hg
  refine ⟨_, ps_asg p pg hs hw h1, fun g0 B g H ρ σ E E' I hu gl => ?_⟩
  refine I.expr allM h (by rw [vis_all]; exact hu) fun v H' t d g' I' r f _ q => ?_
  obtain ⟨g2, I2, r2, _⟩ := I'.share r (settle_hold I f)
  cases e1 : gt d with
  | none => rw [e1] at q; exact q.elim
  | some L =>
    rw [e1] at q
    exact hg g2 H' σ d v L _ r2 e1 fun M hM => gl.nx g2 H' _ _ (hM.inv I2) q
/-- a, b = x, y (plain names) -/
@[simp] def sParA (i j : Nat) (u : UA) (D : UEnds) (ρ : DEnv) : Prop := u ρ fun ds => match ds with
  | [a, b] => D.nx (((settleL allM ds ρ).set i (some (false, a))).set j (some (false, b)))
  | _ => False
theorem SInv.args {g0 g : G} {B H : Hp} {ρ : DEnv} {σ : L2.St} (I : SInv S g0 B g H ρ σ) {u : UA} {ta : TA} {Q : List D → Prop} {P : List V → Hp → Prop}
    (h : ∀ (ρ : DEnv) (σ : L2.St) (g : G) (H : Hp) (Q : List D → Prop) (P : List V → Hp → Prop), HInv S g H → RepS g H ρ σ → u ρ Q → (∀ vs H', APost S g H Q vs H' → P vs H') → ta σ H P) (hu : u ρ Q)
    (hP : ∀ vs H' ds g', SInv S g0 B g' H' (settleL allM ds ρ) σ → RepL g' H' ds vs → Q ds → P vs H') : ta σ H P := by
  obtain ⟨gv, Iv, Rv, fin⟩ := I.view allM
  rw [vis_all] at Rv
  refine h ρ σ gv H _ _ Iv Rv hu fun vs H' e => ?_
  obtain ⟨g', as, s, I', ra, q⟩ := e
  obtain ⟨f1, g2, f2, q1, q2, q3⟩ := fin g' H' s I'
  by_cases hn : noLstL as = true
  · refine hP vs H' as g2 ?_ (RepL.noLst (g := g') (g' := g2) q1 q2 as vs hn ra) q
    unfold settleL
    rw [if_pos hn]
    exact f2
  · refine hP vs H' as g' ?_ ra q
    unfold settleL
    rw [if_neg hn]
    exact f1
theorem js_parA {i j : Nat} {x y : Str} {a b : Expr} {u : UA} {px py pt : Pos} {kt k2 pt2} (hc : X.calm = true) (hN : X.N.Nodup) (ha : JA S X [a, b] u) (hi : X.N[i]? = some x := by rfl) (hj : X.N[j]? = some y := by rfl) (hij : i ≠ j := by decide)
    (hx : X.env.scope.names.lookup x = some .local := by rfl) (hy : X.env.scope.names.lookup y = some .local := by rfl)
    (hw : swappedStores [.Tuple [.Name x px, .Name y py] kt pt] (.Tuple [a, b] k2 pt2) X.env = pure (some [x, y]) := by rfl)
    (hs : swapsWithSole [.Tuple [.Name x px, .Name y py] kt pt] (.Tuple [a, b] k2 pt2) pos.line X.env = pure false := by rfl) :
    JS S X (.Assign [.Tuple [.Name x px, .Name y py] kt pt] (.Tuple [a, b] k2 pt2) pos) (sParA i j u) := by
  obtain ⟨t, p, h⟩ := ha.ex
  refine ⟨_, ps_par hc hN hi hj hij hx hy p hw hs, fun g0 B g H ρ σ E E' I hu gl => I.args h hu fun vs H' ds g' I' r q => ?_⟩
  split at q
  · rename_i d1 d2
    simp only [RepL] at r
    obtain ⟨v, r', rfl, r1, w, r2, rfl, r3, rfl⟩ := r
    exact ⟨v, w, rfl, gl.nx g' H' _ _ ((I'.set (t := false) r1 (fun z => (by cases z))).set (t := false) r3 (fun z => (by cases z))) q⟩
  · exact q.elim
@[simp] def sParA3 (i j l : Nat) (u : UA) (D : UEnds) (ρ : DEnv) : Prop := u ρ fun ds => match ds with
  | [a, b, c] => D.nx ((((settleL allM ds ρ).set i (some (false, a))).set j (some (false, b))).set l (some (false, c)))
  | _ => False
theorem js_parA3 {i j l : Nat} {x y z : Str} {a b c : Expr} {u : UA} {px py pz pt : Pos} {kt k2 pt2} (hc : X.calm = true) (hN : X.N.Nodup) (ha : JA S X [a, b, c] u) (hi : X.N[i]? = some x := by rfl) (hj : X.N[j]? = some y := by rfl) (hl : X.N[l]? = some z := by rfl) (hij : i ≠ j := by decide) (hil : i ≠ l := by decide) (hjl : j ≠ l := by decide)
    (hx : X.env.scope.names.lookup x = some .local := by rfl) (hy : X.env.scope.names.lookup y = some .local := by rfl) (hz : X.env.scope.names.lookup z = some .local := by rfl)
    (hw : swappedStores [.Tuple [.Name x px, .Name y py, .Name z pz] kt pt] (.Tuple [a, b, c] k2 pt2) X.env = pure (some [x, y, z]) := by rfl)
    (hs : swapsWithSole [.Tuple [.Name x px, .Name y py, .Name z pz] kt pt] (.Tuple [a, b, c] k2 pt2) pos.line X.env = pure false := by rfl) :
    JS S X (.Assign [.Tuple [.Name x px, .Name y py, .Name z pz] kt pt] (.Tuple [a, b, c] k2 pt2) pos) (sParA3 i j l u) := by
  obtain ⟨t, p, h⟩ := ha.ex
  refine ⟨_, ps_par3 hc hN hi hj hl hij hil hjl hx hy hz p hw hs, fun g0 B g H ρ σ E E' I hu gl => I.args h hu fun vs H' ds g' I' r q => ?_⟩
  split at q
  · rename_i d1 d2 d3
    simp only [RepL] at r
    obtain ⟨v, r', rfl, r1, w, r2, rfl, r3, w2, r4, rfl, r5, rfl⟩ := r
    exact ⟨v, w, w2, rfl, gl.nx g' H' _ _ (((I'.set (t := false) r1 (fun z => (by cases z))).set (t := false) r3 (fun z => (by cases z))).set (t := false) r5 (fun z => (by cases z))) q⟩
  · exact q.elim
/-- a, b = x, y where new lists stay own; y does not speak of a -/
@[simp] def notI (i : Nat) : Nat → Bool := fun k => k != i
@[simp] def sPar (i j : Nat) (u1 u2 : UE) (D : UEnds) (ρ : DEnv) : Prop := u1 ρ fun t1 d1 => u2 ((vis (notI i) ((settle allM t1 d1 ρ).set i (some (t1, d1)))).set i none) fun t2 d2 =>
  D.nx ((settle (notI i) t2 d2 ((settle allM t1 d1 ρ).set i (some (t1, d1)))).set j (some (t2, d2)))
theorem SInv.settled {g0 gv : G} {B H : Hp} {ρ : DEnv} {σ : L2.St} {M : Nat → Bool} (fin : ∀ g' H', Step gv H g' H' → HInv S g' H' → SInv S g0 B g' H' (freeze M ρ) σ ∧ ∃ g2, SInv S g0 B g2 H' ρ σ ∧ g2.rl = g'.rl ∧ g2.rp = g'.rp ∧ (∀ a, g2.fz a → g'.fz a)) {Q : UK} {v : V} {H' : Hp} (e : EPost S gv H Q v H') :
    ∃ t d g', SInv S g0 B g' H' (settle M t d ρ) σ ∧ RepT g' H' t d v ∧ (t = true → ∀ a, v = .ref a → H a = none) ∧ Q t d := by
  obtain ⟨g', t, d, s, I', r, f, q⟩ := e.ex
  obtain ⟨f1, g2, f2, e1, e2, e3⟩ := fin g' H' s I'
  by_cases hs : safe t d = true
  · refine ⟨t, d, g2, ?_, ?_, f, q⟩
    · rw [settle, if_pos hs]
      exact f2
    · cases t with
      | false => exact Rep.noLst (g := g') (g' := g2) e1 e2 d v hs r
      | true =>
        obtain ⟨a, xs, ds, rfl, rfl, h1, h2, h3, h4⟩ := r
        exact ⟨a, xs, ds, rfl, rfl, h1, fun z => h2 (e3 a z), by rw [e1]; exact h3, RepL.noLst (g := g') (g' := g2) e1 e2 ds xs hs h4⟩
  · refine ⟨t, d, g', ?_, r, f, q⟩
    rw [settle, if_neg hs]
    exact f1
theorem js_par {i j : Nat} {x y : Str} {a b : Expr} {u1 u2 : UE} {px py pt : Pos} {kt k2 pt2} (hc : X.calm = true) (hN : X.N.Nodup) (ha : JE S X a u1) (hb : JE S X b u2) (hi : X.N[i]? = some x := by rfl) (hj : X.N[j]? = some y := by rfl) (hij : i ≠ j := by decide)
    (hx : X.env.scope.names.lookup x = some .local := by rfl) (hy : X.env.scope.names.lookup y = some .local := by rfl)
    (hs1 : starEach [a, b] X.env = (false, eval a X.env) :: starEach [b] X.env := by rfl) (hs2 : starEach [b] X.env = (false, eval b X.env) :: starEach [] X.env := by rfl)
    (hw : swappedStores [.Tuple [.Name x px, .Name y py] kt pt] (.Tuple [a, b] k2 pt2) X.env = pure (some [x, y]) := by rfl)
    (hs : swapsWithSole [.Tuple [.Name x px, .Name y py] kt pt] (.Tuple [a, b] k2 pt2) pos.line X.env = pure false := by rfl) :
    JS S X (.Assign [.Tuple [.Name x px, .Name y py] kt pt] (.Tuple [a, b] k2 pt2) pos) (sPar i j u1 u2) := by
  obtain ⟨t1, p1, h1⟩ := ha.ex
  obtain ⟨t2, p2, h2⟩ := hb.ex
  refine ⟨_, ps_par hc hN hi hj hij hx hy (pa_cons p1 (pa_cons p2 pa_nil hs2) hs1) hw hs, fun g0 B g H ρ σ E E' I hu gl => ?_⟩
  refine I.expr allM h1 (by rw [vis_all]; exact hu) fun v1 H1 tt1 d1 g1 I1 r1 f1 hth q1 => ?_
  have nw : ∀ (H' : Hp) (t : Bool) (v : V), (t = true → ∀ a, v = .ref a → H1 a = none) → ∀ (ρ' : DEnv) (σ' : L2.St) (g' : G) (k : Nat), SInv S g0 B g' H1 ρ' σ' → t = true → ∀ a, v = .ref a → B a = none ∧ ∀ (j' : Nat) (e : D), ρ'[j']? = some (some (true, e)) → σ'[j']? = some (some (V.ref a)) → j' = k := fun H' t v f ρ' σ' g' k I' z a ea => by
    refine ⟨I'.st.free (f z a ea), fun j' e h3 h4 => ?_⟩
    obtain ⟨a', xs, ds, e1, _, e2, _⟩ := I'.own j' e h3
    rw [h4] at e1
    cases e1
    rw [f z a ea] at e2
    cases e2
  have I1s : SInv S g0 B g1 H1 ((settle allM tt1 d1 ρ).set i (some (tt1, d1))) (σ.set i (some v1)) := I1.set r1 fun z a ea => by
    refine ⟨I.st.free (f1 z a ea), fun j' e h3 h4 => ?_⟩
    obtain ⟨a', xs, ds, e1, _, e2, _⟩ := I.own j' e (settle_own h3)
    rw [h4] at e1
    cases e1
    rw [f1 z a ea] at e2
    cases e2
  obtain ⟨gv, Iv, Rv, fin⟩ := I1s.view (notI i)
  have Rv' : RepS gv H1 ((vis (notI i) ((settle allM tt1 d1 ρ).set i (some (tt1, d1)))).set i none) σ := by
    refine ⟨?_, fun k t d e => ?_⟩
    · have := Rv.len
      rw [List.length_set] at this ⊢
      exact this
    · by_cases hk : i = k
      · subst hk
        exfalso
        by_cases hl : i < (vis (notI i) ((settle allM tt1 d1 ρ).set i (some (tt1, d1)))).length
        · rw [List.getElem?_set_self hl] at e; cases e
        · rw [List.getElem?_eq_none (by rw [List.length_set]; omega)] at e; cases e
      · rw [List.getElem?_set_ne hk] at e
        obtain ⟨w, hw, r⟩ := Rv.get k t d e
        rw [List.getElem?_set_ne hk] at hw
        exact ⟨w, hw, r⟩
  refine h2 _ σ gv H1 _ _ Iv Rv' q1 fun v2 H2 e2 => ?_
  obtain ⟨tt2, d2, g2, I2, r2, f2, q2⟩ := SInv.settled fin e2
  refine ⟨v1, v2, rfl, gl.nx g2 H2 _ _ (I2.set r2 fun z a ea => ?_) q2⟩
  refine ⟨I1s.st.free (f2 z a ea), fun j' e h3 h4 => ?_⟩
  obtain ⟨a', xs, ds, e1, _, e2', _⟩ := I1s.own j' e (settle_own h3)
  rw [h4] at e1
  cases e1
  rw [f2 z a ea] at e2'
  cases e2'

/-! ### while -/
/-- W: what holds, with what falls -/
def sWhile (c : UT) (ub : US) : US := fun D ρ => ∃ W : Nat → DEnv → Prop, (∃ m, W m ρ) ∧ ∀ m ρ, W m ρ → c ρ fun b => if b = true then ub { D with nx := fun ρ' => ∃ m', m' < m ∧ W m' ρ', ct := fun ρ' => ∃ m', m' < m ∧ W m' ρ', bk := D.nx } ρ else D.nx ρ
theorem js_while {c : Expr} {body : List Stmt} {uc : UT} {ub : US} (hp : PassesOwn (model X.prog X.w) X.A X.env X.xe) (hc : JT S X c uc) (hb : JSs S X body ub) : JS S X (.While c body [] pos) (sWhile uc ub) := by
  obtain ⟨tc, pc, hc⟩ := hc.ex
  obtain ⟨tb, pb, hb⟩ := hb.ex
  refine ⟨_, ps_while hp pc pb, fun g0 B g H ρ σ E E' I hu gl => ?_⟩
  obtain ⟨W, ⟨m0, w0⟩, turn⟩ := hu
  refine ⟨fun m σ' H' => ∃ g' ρ', SInv S g0 B g' H' ρ' σ' ∧ W m ρ', ⟨m0, g, ρ, I, w0⟩, fun m σ1 H1 ⟨g1, ρ1, I1, w1⟩ => ?_⟩
  refine I1.test hc (turn m ρ1 w1) fun b H2 g2 I2 q => ?_
  cases b with
  | false => exact gl.nx g2 H2 ρ1 σ1 I2 q
  | true =>
    refine ⟨fun σ' H' => ∃ m', m' < m ∧ ∃ g' ρ', SInv S g0 B g' H' ρ' σ' ∧ W m' ρ', fun σ' H' ⟨m', h, z⟩ => ⟨m', h, z⟩, ?_⟩
    exact hb g0 B g2 H2 ρ1 σ1 _ _ I2 q ⟨fun g' H' ρ' σ' I' ⟨m', h, w⟩ => ⟨m', h, g', ρ', I', w⟩, gl.rt, fun g' H' ρ' σ' I' h => gl.nx g' H' ρ' σ' I' h, fun g' H' ρ' σ' I' ⟨m', h, w⟩ => ⟨m', h, g', ρ', I', w⟩⟩

/-! ### for over numbers: own lists stay own -/
structure JR (S : Src) (X : Cx) (tg it : Expr) (u : UI) : Prop where
  ex : ∃ w : TI, PI X tg it w ∧ ∀ (ρ : DEnv) (σ : L2.St) (g : G) (H : Hp) (Q : List D → Prop) (R : It → Hp → Prop), HInv S g H → RepS g H ρ σ → u ρ Q →
    (∀ J H' g' ds, Step g H g' H' → HInv S g' H' → (∀ g H, Walks S g H J ds) → Q ds → R J H') → w σ H R
theorem JR.ji {tg it : Expr} {u : UI} (h : JR S X tg it u) : JI S X tg it u := by
  obtain ⟨w, p, h⟩ := h.ex
  exact ⟨w, p, fun ρ σ g H Q R I RS hu hR => h ρ σ g H Q R I RS hu fun J H' g' ds s I' W q => hR J H' g' ds s I' (W g' H') q⟩
theorem jr_range1 {tg a : Expr} {u : UA} {p : Pos} (hg : Gl X "range") (hm : X.mg "range" = none) (ha : JA S X [a] u) (hs : starEach [a] X.env = [(false, eval a X.env)] := by rfl) : JR S X tg (.Call (.Name "range" p) [a] [] pos) (uRng1 u) := by
  obtain ⟨t, pa, h⟩ := ha.ex
  refine ⟨_, pi_range1 hg hm pa hs, fun ρ σ g H Q R I RS hu hR => h ρ σ g H _ _ I RS hu fun vs H1 e => ?_⟩
  obtain ⟨g1, ds, s1, I1, r1, q1⟩ := e
  unfold rng1 at q1
  split at q1
  · rename_i j
    simp only [RepL, Rep] at r1
    obtain ⟨v, r', rfl, rfl, rfl⟩ := r1
    exact ⟨j, rfl, q1.1.1, q1.1.2, hR _ _ g1 _ s1 I1 (fun _ _ => .rng) q1.2⟩
  · exact q1.elim
theorem jr_range2 {tg a b : Expr} {u : UA} {p : Pos} (hg : Gl X "range") (hm : X.mg "range" = none) (ha : JA S X [a, b] u) (hs : starEach [a, b] X.env = [(false, eval a X.env), (false, eval b X.env)] := by rfl) (hs2 : starEach [b] X.env = [(false, eval b X.env)] := by rfl) : JR S X tg (.Call (.Name "range" p) [a, b] [] pos) (uRng2 u) := by
  obtain ⟨t, pa, h⟩ := ha.ex
  refine ⟨_, pi_range2 hg hm pa hs hs2, fun ρ σ g H Q R I RS hu hR => h ρ σ g H _ _ I RS hu fun vs H1 e => ?_⟩
  obtain ⟨g1, ds, s1, I1, r1, q1⟩ := e
  unfold rng2 at q1
  split at q1
  · rename_i i j
    simp only [RepL, Rep] at r1
    obtain ⟨v, r', rfl, rfl, w, r2, rfl, rfl, rfl⟩ := r1
    exact ⟨i, j, rfl, q1.1, hR _ _ g1 _ s1 I1 (fun _ _ => .rng) q1.2⟩
  · exact q1.elim
theorem js_forR {tg it : Expr} {body : List Stmt} {ui : UI} {gt : UG} {vs : List Nat} {ub : US} (hp : PassesOwn (model X.prog X.w) X.A X.env X.xe) (hc : X.calm = true) (hi : JR S X tg it ui) (hg : JG S X tg gt vs) (hb : JSs S X body ub) 
    (hs : ∀ x, foldedSetIterable it X.env x = pure x := by intro _; rfl) : JS S X (.For tg it body [] pos) (sForR ui gt ub) := by
  obtain ⟨w, pw, hi⟩ := hi.ex
  obtain ⟨⟨t, pt, hg⟩, _⟩ := hg
  obtain ⟨tb, pb, hb⟩ := hb.ex
  refine ⟨_, ps_for hp hc pw pt pb hs, fun g0 B g H ρ σ D D' I hu gl => ?_⟩
  obtain ⟨gv, Iv, Rv, fin⟩ := I.view allM
  rw [vis_all] at Rv
  refine hi _ σ gv H _ _ Iv Rv hu fun J H' g' ds s I' W hq => ?_
  obtain ⟨_, g2, f2, _⟩ := fin g' H' s I'
  exact for_core (vs := vs) f2 (W g2 H') hg hb hq gl
end

/-! ### defs -/
@[simp] def startD (N : List Str) (ds : List D) : DEnv := ds.map (fun d => some (false, d)) ++ List.replicate (N.length - ds.length) none
theorem start_inv {S : Src} {g : G} {H : Hp} {N : List Str} {ds : List D} {vs : List V} (I : HInv S g H) (l : RepL g H ds vs) : SInv S g H g H (startD N ds) (L2.start N vs) := by
  have hl := l.len
  have at_ : ∀ (j : Nat) (x : Bool × D), (startD N ds)[j]? = some (some x) → ∃ d, x = (false, d) ∧ ds[j]? = some d := fun j x e => by
    unfold startD at e
    by_cases hj : j < ds.length
    · rw [List.getElem?_append_left (by rw [List.length_map]; exact hj), List.getElem?_map, List.getElem?_eq_getElem hj] at e
      cases e
      exact ⟨_, rfl, List.getElem?_eq_getElem hj⟩
    · rw [List.getElem?_append_right (by rw [List.length_map]; omega), List.getElem?_replicate] at e
      split at e <;> cases e
  refine ⟨Step.refl g H, I, ?_, fun j d e => ?_, fun i j d e a h1 h2 h3 h4 => ?_, fun j d e => ?_⟩
  · unfold startD L2.start
    rw [List.length_append, List.length_append, List.length_map, List.length_map, List.length_replicate, List.length_replicate, hl]
  · obtain ⟨d', e1, _⟩ := at_ j _ e
    cases e1
  · obtain ⟨d', e1, _⟩ := at_ i _ h1
    cases e1
  · obtain ⟨d', e1, e2⟩ := at_ j _ e
    cases e1
    obtain ⟨v, hv, r⟩ := l.get e2
    refine ⟨v, ?_, r⟩
    unfold L2.start
    have hj : j < vs.length := (List.getElem?_eq_some_iff.mp hv).1
    rw [List.getElem?_append_left (by rw [List.length_map]; exact hj), List.getElem?_map, hv]
    rfl
section
variable {P : Program} {w : World} {K : PySem.W.Frag} {mg : Str → Option Value} {base : Heap}
/-- a def's rule, its code object known -/
theorem okC {CX : CXT} {N ps : List Str} {x qual : Str} {params : Arguments} {body : List Stmt} {scope : Scope} {dvs : List V} {kws : List (Str × V)} {f : Addr} {fd : FuncData} {k : Nat} {sp : Sp} (F : FunD K x qual params body scope dvs kws f fd) (S : FnScope N ps scope) (len : ∀ vs H Q E, sp vs H Q E → vs.length = ps.length)
    (hbody : ∀ (cdv : Value), fd.code = cdv → ∀ (A : Around) (outer : List Env) (s : Shared) (H : Hp) (vs : List V) (Q : VK) (E : XK), Room k (A.deeper (envOfC qual scope s.heap.objs.size f cdv)) → sp vs H Q E →
      ∃ t, PSs (cxOf CX P w K mg base N qual scope f cdv A outer s H E) body t ∧ t { nx := fun _ H' => Q .non H', rt := Q } (start N vs) H) : FnOk P w K mg base CX (k + 1) f fd ps sp := by
  obtain ⟨oc, od, dV, kV, doc, pm, an, cdv, ct, osl, rfl, lk, hcd, _, _⟩ := F.ex
  exact fn_of lk hcd S len fun A outer s H vs Q E hr hsp => hbody cdv rfl A outer s H vs Q E hr hsp
/-- THE RULE for a def: its body's reading keeps the contract -/
theorem def_okC {S : Src} {x qual : Str} {params : Arguments} {body : List Stmt} {scope : Scope} {f : Addr} {fd : FuncData} {N ps : List Str} {k : Nat} {C : Ctr} {u : US} (F : FunD K x qual params body scope [] [] f fd) (sc : FnScope N ps scope)
    (hlen : ∀ ds R, C ds R → ds.length = ps.length)
    (hbody : ∀ (cdv : Value), fd.code = cdv → ∀ (A : Around) (outer : List Env) (s : Shared) (H : Hp) (E : XK), Room k (A.deeper (envOfC qual scope s.heap.objs.size f cdv)) → JSs S (cxOf CX0 P w K mg base N qual scope f cdv A outer s H E).nox body u)
    (hC : ∀ ds R, C ds R → u { nx := fun _ => R false .non, rt := R } (startD N ds)) : FnOk P w K mg base CX0 (k + 1) f fd ps (SpOf S C) := by
  refine okC F sc (fun vs H Q E h => ?_) (fun cdv hcd A outer s H vs Q E hr h => ?_)
  · obtain ⟨ds, g, R, _, l, hc, _⟩ := h
    rw [l.len]
    exact hlen ds R hc
  · obtain ⟨ds, g, R, I, l, hc, hq⟩ := h
    obtain ⟨t, p, h2⟩ := (hbody cdv hcd A outer s H E hr).ex
    refine ⟨t, PSs.nox p, h2 g H g H _ _ _ _ (start_inv I l) (hC ds R hc) ⟨fun g' H' ρ' σ' I' q => ?_, fun g' H' v t d st hi r f q => ?_, fun _ _ _ _ _ q => q.elim, fun _ _ _ _ _ q => q.elim⟩⟩
    · exact hq _ _ ⟨g', false, .non, I'.st, I'.hi, by show Rep _ _ _ _; rw [Rep], fun z => (by cases z), q⟩
    · exact hq v H' ⟨g', t, d, st, hi, r, f, q⟩
theorem def_ok {S : Src} {x qual : Str} {params : Arguments} {body : List Stmt} {scope : Scope} {f : Addr} {fd : FuncData} {N ps : List Str} {k : Nat} {C : Ctr} {u : US} (F : FunD K x qual params body scope [] [] f fd) (sc : FnScope N ps scope)
    (hlen : ∀ ds R, C ds R → ds.length = ps.length)
    (hbody : ∀ (cdv : Value) (A : Around) (outer : List Env) (s : Shared) (H : Hp) (E : XK), Room k (A.deeper (envOfC qual scope s.heap.objs.size f cdv)) → JSs S (cxOf CX0 P w K mg base N qual scope f cdv A outer s H E).nox body u)
    (hC : ∀ ds R, C ds R → u { nx := fun _ => R false .non, rt := R } (startD N ds)) : FnOk P w K mg base CX0 (k + 1) f fd ps (SpOf S C) :=
  def_okC F sc hlen (fun cdv _ A outer s H E hr => hbody cdv A outer s H E hr) hC
end
end DL

/-! DLCall: defs by name; short words for generated texts. -/
namespace DL
open PySem PySem.Spec PyProof.Rows L2

/-- the def st of the text stands behind the top under its name, and keeps the contract -/
structure Cal (P : Program) (w : World) (K : PySem.W.Frag) (mg : Str → Option Value) (base : Heap) (S : Src) (st : Stmt) (x : Str) (k : Nat) (ps : List Str) (C : Ctr) : Prop where
  ex : ∃ f fd, FunD K x x (defArgs st) (defBody st) (defScope st) [] [] f fd ∧ mg x = some (.ref f) ∧ FnOk P w K mg base CX0 k f fd ps (SpOf S C)
theorem Cal.mono {P : Program} {w : World} {K : PySem.W.Frag} {mg : Str → Option Value} {base : Heap} {S : Src} {st : Stmt} {x : Str} {j k : Nat} {ps : List Str} {C : Ctr} (c : Cal P w K mg base S st x j ps C) (h : j ≤ k) : Cal P w K mg base S st x k ps C := by
  obtain ⟨f, fd, F, m, ok⟩ := c.ex
  exact ⟨f, fd, F, m, ok.mono h⟩
/-- a weaker contract -/
theorem Cal.imp {P : Program} {w : World} {K : PySem.W.Frag} {mg : Str → Option Value} {base : Heap} {S : Src} {st : Stmt} {x : Str} {k : Nat} {ps : List Str} {C C' : Ctr} (c : Cal P w K mg base S st x k ps C) (h : ∀ ds R, C' ds R → C ds R) : Cal P w K mg base S st x k ps C' := by
  obtain ⟨f, fd, F, m, ok⟩ := c.ex
  exact ⟨f, fd, F, m, ok.imp fun vs H Q E ⟨ds, g, R, I, l, hc, hq⟩ => ⟨ds, g, R, I, l, h ds R hc, hq⟩⟩
section
variable {S : Src} {X : Cx} {k n : Nat} {ps : List Str} {C : Ctr} {x : Str} {p pos : Pos} {e : Expr} {es : List Expr} {u uk : UA} {st : Stmt} {j : Nat}
abbrev BindN (x : Str) (st : Stmt) (ps : List Str) : Prop := ∀ (kV doc pm : Value) (an : Option Addr) (cdv ct : Value) (us : List Value), us.length = ps.length → bindArgs (PySem.W.fnOf x x (defArgs st) (defBody st) (defScope st) .none kV doc pm an cdv ct) ⟨us, []⟩ = pure (ps.zip us)
abbrev BindK (x : Str) (st : Stmt) (ps : List Str) (n : Nat) (ks : List Str) (ix : List Nat) : Prop := ∀ (kV doc pm : Value) (an : Option Addr) (cdv ct : Value) (us ws : List Value), us.length = n → ws.length = ks.length → bindArgs (PySem.W.fnOf x x (defArgs st) (defBody st) (defScope st) .none kV doc pm an cdv ct) ⟨us, ks.zip ws⟩ = pure (ps.zip (pick (us ++ ws) ix))
theorem kwB_of {K : PySem.W.Frag} {f : Addr} {fd : FuncData} {ks : List Str} {ix : List Nat} (F : FunD K x x (defArgs st) (defBody st) (defScope st) [] [] f fd) (h : BindK x st ps n ks ix) : KwB K fd ps n ks ix := by
  obtain ⟨oc, od, dV, kV, doc, pm, an, cdv, ct, osl, rfl, lk, hcd, hD, hK⟩ := F.ex
  rcases hD with ⟨_, rfl⟩ | ⟨e, _⟩
  · exact ⟨fun s us ws h1 h2 => .of_eq (h kV doc pm an cdv ct us ws h1 h2)⟩
  · exact absurd rfl e
theorem je_callC (c : Cal X.prog X.w X.K X.mg X.base S st x j ps C) (hr : Room k X.A) (hb : BindN x st ps) (ha : JA S X (e :: es) u) (hjk : j ≤ k := by decide) (hg : Gl X x := by rfl)
    (hdb : (x == ("__debug__" : Str)) = false := by decide) (he : starEach (e :: es) X.env = (false, eval e X.env) :: starEach es X.env := by rfl) (hpl : (backTo pos (starEach es X.env)).any (·.1) = false := by rfl) : JE S X (.Call (.Name x p) (e :: es) [] pos) (uCall C u) := by
  obtain ⟨f, fd, F, m, ok⟩ := c.ex
  exact je_call ok (hr.mono hjk) hg m F.kp (F.bindsN hb) ha hdb he hpl
theorem je_callC0 (c : Cal X.prog X.w X.K X.mg X.base S st x j ps C) (hr : Room k X.A) (hb : BindN x st ps) (hjk : j ≤ k := by decide) (hg : Gl X x := by rfl)
    (hdb : (x == ("__debug__" : Str)) = false := by decide) : JE S X (.Call (.Name x p) [] [] pos) (uCall C uNil) := by
  obtain ⟨f, fd, F, m, ok⟩ := c.ex
  exact je_call0 ok (hr.mono hjk) hg m F.kp (F.bindsN hb) hdb
theorem je_callCK {ks : List Str} {ix : List Nat} {kws : List Keyword} (c : Cal X.prog X.w X.K X.mg X.base S st x j ps C) (hr : Room k X.A) (hb : BindK x st ps n ks ix) (ha : JA S X (e :: es) u) (hkw : JK S X kws uk) (hjk : j ≤ k := by decide) (hg : Gl X x := by rfl)
    (hall : (backToKw pos (keywordEach kws X.env)).all (·.1.isSome) = true := by rfl) (hks : (backToKw pos (keywordEach kws X.env)).filterMap (·.1) = ks := by rfl)
    (hdb : (x == ("__debug__" : Str)) = false := by decide) (he : starEach (e :: es) X.env = (false, eval e X.env) :: starEach es X.env := by rfl)
    (hpl : ((backTo pos (starEach (e :: es) X.env)).any (·.1) || (backToKw pos (keywordEach kws X.env)).any (·.1.isNone)) = false := by rfl) : JE S X (.Call (.Name x p) (e :: es) kws pos) (uCallK C n ks.length ix u uk) := by
  obtain ⟨f, fd, F, m, ok⟩ := c.ex
  exact je_callK ok (hr.mono hjk) hg m F.kp (kwB_of F hb) ha hkw hall hks hdb he hpl
theorem je_callCK0 {ks : List Str} {ix : List Nat} {kws : List Keyword} (c : Cal X.prog X.w X.K X.mg X.base S st x j ps C) (hr : Room k X.A) (hb : BindK x st ps 0 ks ix) (hkw : JK S X kws uk) (hjk : j ≤ k := by decide) (hg : Gl X x := by rfl)
    (hall : (backToKw pos (keywordEach kws X.env)).all (·.1.isSome) = true := by rfl) (hks : (backToKw pos (keywordEach kws X.env)).filterMap (·.1) = ks := by rfl)
    (hdb : (x == ("__debug__" : Str)) = false := by decide)
    (hpl : ((backTo pos (starEach [] X.env)).any (·.1) || (backToKw pos (keywordEach kws X.env)).any (·.1.isNone)) = false := by rfl) : JE S X (.Call (.Name x p) [] kws pos) (uCallK C 0 ks.length ix uNil uk) := by
  obtain ⟨f, fd, F, m, ok⟩ := c.ex
  exact je_callK0 ok (hr.mono hjk) hg m F.kp (kwB_of F hb) hkw hall hks hdb hpl
end
/-- a def of the text, by its body's reading -/
theorem cal_of {P : Program} {w : World} {K : PySem.W.Frag} {mg : Str → Option Value} {base : Heap} {S : Src} {st : Stmt} {x : Str} {f : Addr} {fd : FuncData} {N ps : List Str} {k : Nat} {C : Ctr} {u : US} (F : FunD K x x (defArgs st) (defBody st) (defScope st) [] [] f fd) (m : mg x = some (.ref f)) (sc : FnScope N ps (defScope st))
    (hbody : ∀ (cdv : Value) (A : Around) (outer : List Env) (s : Shared) (H : Hp) (E : XK), Room k (A.deeper (envOfC x (defScope st) s.heap.objs.size f cdv)) → JSs S (cxOf CX0 P w K mg base N x (defScope st) f cdv A outer s H E).nox (defBody st) u)
    (hlen : ∀ ds R, C ds R → ds.length = ps.length) (hC : ∀ ds R, C ds R → u { nx := fun _ => R false .non, rt := R } (startD N ds)) : Cal P w K mg base S st x (k + 1) ps C :=
  ⟨f, fd, F, m, def_ok F sc hlen hbody hC⟩

/-- a def with generator expressions: its code object and its table are known -/
theorem cal_ofC {P : Program} {w : World} {K : PySem.W.Frag} {mg : Str → Option Value} {base : Heap} {S : Src} {st : Stmt} {x : Str} {f : Addr} {fd : FuncData} {N ps : List Str} {k : Nat} {C : Ctr} {u : US} (F : FunD K x x (defArgs st) (defBody st) (defScope st) [] [] f fd) (m : mg x = some (.ref f)) (sc : FnScope N ps (defScope st))
    (hT : ∃ c T, fd.code = .ref c ∧ GxR.TabB base mg c T ∧ S.tb T)
    (hbody : ∀ (cdv : Value) (A : Around) (outer : List Env) (s : Shared) (H : Hp) (E : XK), Room k (A.deeper (envOfC x (defScope st) s.heap.objs.size f cdv)) → GX.CodeUse S.tb (cxOf CX0 P w K mg base N x (defScope st) f cdv A outer s H E).nox → JSs S (cxOf CX0 P w K mg base N x (defScope st) f cdv A outer s H E).nox (defBody st) u)
    (hlen : ∀ ds R, C ds R → ds.length = ps.length) (hC : ∀ ds R, C ds R → u { nx := fun _ => R false .non, rt := R } (startD N ds)) : Cal P w K mg base S st x (k + 1) ps C := by
  obtain ⟨c, T, h1, h2, h3⟩ := hT
  exact ⟨f, fd, F, m, def_okC F sc hlen (fun cdv hcd A outer s H E hr => hbody cdv A outer s H E hr (GX.codeUse_base (X := (cxOf CX0 P w K mg base N x (defScope st) f cdv A outer s H E).nox) h2 (hcd.symm.trans h1) h3)) hC⟩

/-! ### short words -/
abbrev fSub : D → D → UK → Prop := fI (fun _ _ => True) fun i j => i - j
abbrev fDiv : D → D → UK → Prop := fI CDivW fun i j => i / j
abbrev fMod : D → D → UK → Prop := fI (fun _ j => 0 < j) fun i j => i % j
abbrev fPow : D → D → UK → Prop := fI CPow fun i j => i ^ j.toNat
abbrev fMulW : D → D → UK → Prop := fI CMulW fun i j => i * j
abbrev fLt : D → D → UK → Prop := fB fun i j => decide (i < j)
abbrev fLe : D → D → UK → Prop := fB fun i j => decide (i ≤ j)
abbrev fGt : D → D → UK → Prop := fB fun i j => decide (j < i)
abbrev fGe : D → D → UK → Prop := fB fun i j => decide (j ≤ i)
section
variable {S : Src} {X : Cx} {a b c : Expr} {ua ub uc : UE} {pos : Pos}
theorem je_add (ha : JE S X a ua) (hb : JE S X b ub) : JE S X (.BinOp a .Add b pos) (u2 fAdd ua ub) := je_op op_add4 lift_add ha hb
theorem je_sub (ha : JE S X a ua) (hb : JE S X b ub) : JE S X (.BinOp a .Sub b pos) (u2 fSub ua ub) := je_op op_sub lift_I0 ha hb
theorem je_mul (ha : JE S X a ua) (hb : JE S X b ub) : JE S X (.BinOp a .Mult b pos) (u2 fMul ua ub) := je_op op_mul4 lift_mul ha hb
theorem je_mulW (ha : JE S X a ua) (hb : JE S X b ub) : JE S X (.BinOp a .Mult b pos) (u2 fMulW ua ub) := je_op op_mulW lift_I ha hb
theorem je_div (ha : JE S X a ua) (hb : JE S X b ub) : JE S X (.BinOp a .FloorDiv b pos) (u2 fDiv ua ub) := je_op op_fdivW lift_I ha hb
theorem je_mod (ha : JE S X a ua) (hb : JE S X b ub) : JE S X (.BinOp a .Mod b pos) (u2 fMod ua ub) := je_op op_mod lift_I ha hb
theorem je_pow (ha : JE S X a ua) (hb : JE S X b ub) : JE S X (.BinOp a .Pow b pos) (u2 fPow ua ub) := je_op op_pow lift_I ha hb
theorem je_neg (ha : JE S X a ua) : JE S X (.UnaryOp .USub a pos) (u1 fNeg ua) := je_un un_neg lift_neg ha
theorem je_lt (ha : JE S X a ua) (hb : JE S X b ub) : JE S X (.Compare a [.Lt] [b] pos) (u2 fLt ua ub) := je_cmp op_lt lift_B ha hb (nomark _)
theorem je_le (ha : JE S X a ua) (hb : JE S X b ub) : JE S X (.Compare a [.LtE] [b] pos) (u2 fLe ua ub) := je_cmp op_le lift_B ha hb (nomark _)
theorem je_gt (ha : JE S X a ua) (hb : JE S X b ub) : JE S X (.Compare a [.Gt] [b] pos) (u2 fGt ua ub) := je_cmp op_gt lift_B ha hb (nomark _)
theorem je_ge (ha : JE S X a ua) (hb : JE S X b ub) : JE S X (.Compare a [.GtE] [b] pos) (u2 fGe ua ub) := je_cmp op_ge lift_B ha hb (nomark _)
theorem je_eq {k : Nat} (hr : Room k X.A) (ha : JE S X a ua) (hb : JE S X b ub) : JE S X (.Compare a [.Eq] [b] pos) (u2 fEq ua ub) := je_cmp (op_eqD hr.units) lift_eq ha hb (nomark _)
theorem je_ne {k : Nat} (hr : Room k X.A) (ha : JE S X a ua) (hb : JE S X b ub) : JE S X (.Compare a [.NotEq] [b] pos) (u2 fNe ua ub) := je_cmp (op_neD hr.units) lift_ne ha hb (nomark _)
theorem room65 {k : Nat} {A : Around} (r : Room k A) : A.units + 65 < cLine := by have := r.un; omega
theorem je_in {k : Nat} (hr : Room k X.A) (ha : JE S X a ua) (hb : JE S X b ub) (hm : behindInMarks .In b = false := by rfl) : JE S X (.Compare a [.In] [b] pos) (u2 (fIn false) ua ub) := je_cmp (op_inA (room65 hr)) lift_in ha hb hm
theorem je_notIn {k : Nat} (hr : Room k X.A) (ha : JE S X a ua) (hb : JE S X b ub) (hm : behindInMarks .NotIn b = false := by rfl) : JE S X (.Compare a [.NotIn] [b] pos) (u2 (fIn true) ua ub) := je_cmp (op_notInA (room65 hr)) lift_in ha hb hm
theorem je_isN (ha : JE S X a ua) (hb : JE S X b ub) : JE S X (.Compare a [.Is] [b] pos) (u2 (fIsN false) ua ub) := je_cmp op_isN lift_isN ha hb (nomark _)
theorem je_isNot (ha : JE S X a ua) (hb : JE S X b ub) : JE S X (.Compare a [.IsNot] [b] pos) (u2 (fIsN true) ua ub) := je_cmp op_notN lift_notN ha hb (nomark _)
theorem jt_lt (ha : JE S X a ua) (hb : JE S X b ub) : JT S X (.Compare a [.Lt] [b] pos) (uTest (u2 fLt ua ub)) := jt_cmp op_lt lift_B ha hb (nomark _)
theorem jt_le (ha : JE S X a ua) (hb : JE S X b ub) : JT S X (.Compare a [.LtE] [b] pos) (uTest (u2 fLe ua ub)) := jt_cmp op_le lift_B ha hb (nomark _)
theorem jt_gt (ha : JE S X a ua) (hb : JE S X b ub) : JT S X (.Compare a [.Gt] [b] pos) (uTest (u2 fGt ua ub)) := jt_cmp op_gt lift_B ha hb (nomark _)
theorem jt_ge (ha : JE S X a ua) (hb : JE S X b ub) : JT S X (.Compare a [.GtE] [b] pos) (uTest (u2 fGe ua ub)) := jt_cmp op_ge lift_B ha hb (nomark _)
theorem jt_eq {k : Nat} (hr : Room k X.A) (ha : JE S X a ua) (hb : JE S X b ub) : JT S X (.Compare a [.Eq] [b] pos) (uTest (u2 fEq ua ub)) := jt_cmp (op_eqD hr.units) lift_eq ha hb (nomark _)
theorem jt_ne {k : Nat} (hr : Room k X.A) (ha : JE S X a ua) (hb : JE S X b ub) : JT S X (.Compare a [.NotEq] [b] pos) (uTest (u2 fNe ua ub)) := jt_cmp (op_neD hr.units) lift_ne ha hb (nomark _)
theorem jt_in {k : Nat} (hr : Room k X.A) (ha : JE S X a ua) (hb : JE S X b ub) (hm : behindInMarks .In b = false := by rfl) : JT S X (.Compare a [.In] [b] pos) (uTest (u2 (fIn false) ua ub)) := jt_cmp (op_inA (room65 hr)) lift_in ha hb hm
theorem jt_notIn {k : Nat} (hr : Room k X.A) (ha : JE S X a ua) (hb : JE S X b ub) (hm : behindInMarks .NotIn b = false := by rfl) : JT S X (.Compare a [.NotIn] [b] pos) (uTest (u2 (fIn true) ua ub)) := jt_cmp (op_notInA (room65 hr)) lift_in ha hb hm
theorem jt_isN (ha : JE S X a ua) (hb : JE S X b ub) : JT S X (.Compare a [.Is] [b] pos) (uTest (u2 (fIsN false) ua ub)) := jt_cmp op_isN lift_isN ha hb (nomark _)
theorem jt_isNot (ha : JE S X a ua) (hb : JE S X b ub) : JT S X (.Compare a [.IsNot] [b] pos) (uTest (u2 (fIsN true) ua ub)) := jt_cmp op_notN lift_notN ha hb (nomark _)
/-- a < b < c over ints, the middle asked once -/
@[simp] def fCh (f g : D → D → UK → Prop) (a b c : UE) (ρ : DEnv) (Q : UK) : Prop := a ρ fun _ x => b ρ fun _ y => f x y fun _ k => isB (fun k => if k = true then c ρ fun _ z => g y z Q else Q false (.bl false)) k
theorem two3 {r r' : R2} {f f' : D → D → UK → Prop} (hl : Lift2 S r f) (hl' : Lift2 S r' f') (ha : JE S X a ua) (hb : JE S X b ub) (hc : JE S X c uc) : ∃ t1 t2 t3 : TE, PE X a t1 ∧ PE X b t2 ∧ PE X c t3 ∧ ∀ (ρ : DEnv) (σ : L2.St) (g : G) (H : Hp) (Q : UK) (P : VK), HInv S g H → RepS g H ρ σ → fCh f f' ua ub uc ρ Q → (∀ v H', EPost S g H Q v H' → P v H') → tChain r r' t1 t2 t3 σ H P := by
  obtain ⟨t1, p1, h1⟩ := ha.ex
  obtain ⟨t2, p2, h2⟩ := hb.ex
  obtain ⟨t3, p3, h3⟩ := hc.ex
  refine ⟨t1, t2, t3, p1, p2, p3, fun ρ σ g H Q P I R h hP => ?_⟩
  refine h1 ρ σ g H _ _ I R h fun x H1 e1 => ?_
  obtain ⟨g1, dx, s1, I1, r1, _, q1⟩ := e1.rep
  refine h2 ρ σ g1 H1 _ _ I1 (R.step I s1) q1 fun y H2 e2 => ?_
  obtain ⟨g2, dy, s2, I2, r2, _, q2⟩ := e2.rep
  refine hl g2 H2 x y dx dy _ _ I2 (r1.step I1 s2) r2 q2 fun v H3 e3 => ?_
  obtain ⟨k, rfl, g3, s3, I3, q3⟩ := e3.isB
  refine ⟨k, rfl, ?_⟩
  cases k with
  | false => exact hP _ _ ((EPost.val (d := .bl false) I3 (by rw [Rep]) q3).after ((s1.trans s2).trans s3))
  | true =>
    refine h3 ρ σ g3 H3 _ _ I3 (((R.step I s1).step I1 s2).step I2 s3) q3 fun z H4 e4 => ?_
    obtain ⟨g4, dz, s4, I4, r4, _, q4⟩ := e4.rep
    exact hl' g4 H4 y z dy dz Q P I4 ((r2.step I2 s3).step I3 s4) r4 q4 fun v H' e => hP v H' (e.after (((s1.trans s2).trans s3).trans s4))
theorem je_ch {op op' : CmpOp} {k k' : Int → Int → Bool} (ho : OpR X (compareOp op) (rI0 fun i j => .bl (k i j))) (ho' : OpR X (compareOp op') (rI0 fun i j => .bl (k' i j))) (ha : JE S X a ua) (hb : JE S X b ub) (hc : JE S X c uc) (hm : lastMarks [op, op'] [b, c] = false := by with_unfolding_all rfl) : JE S X (.Compare a [op, op'] [b, c] pos) (fCh (fB k) (fB k') ua ub uc) := by
  obtain ⟨t1, t2, t3, p1, p2, p3, h⟩ := two3 lift_B lift_B ha hb hc
  exact ⟨_, pe_chain ho ho' p1 p2 p3 hm, h⟩
theorem jt_ch {op op' : CmpOp} {k k' : Int → Int → Bool} (ho : OpR X (compareOp op) (rI0 fun i j => .bl (k i j))) (ho' : OpR X (compareOp op') (rI0 fun i j => .bl (k' i j))) (ha : JE S X a ua) (hb : JE S X b ub) (hc : JE S X c uc) (hm : lastMarks [op, op'] [b, c] = false := by with_unfolding_all rfl) : JT S X (.Compare a [op, op'] [b, c] pos) (uTest (fCh (fB k) (fB k') ua ub uc)) := by
  obtain ⟨t1, t2, t3, p1, p2, p3, h⟩ := two3 lift_B lift_B ha hb hc
  refine ⟨_, pt_chain ho ho' p1 p2 p3 hm, fun ρ σ g H Q P I R hu hP => h ρ σ g H _ _ I R hu fun v H' e => ?_⟩
  obtain ⟨k, rfl, tp⟩ := e.isB
  exact ⟨k, rfl, hP k H' tp⟩
/-! built-ins by name -/
variable {es : List Expr} {u : UA} {p : Pos}
theorem je_len (hm : X.mg "len" = none) (ha : JA S X [a] u) (hg : Gl X "len" := by rfl) (hs : starEach [a] X.env = (false, eval a X.env) :: starEach [] X.env := by rfl) (hp : (backTo pos (starEach [] X.env)).any (·.1) = false := by rfl) : JE S X (.Call (.Name "len" p) [a] [] pos) (uF (fA1 fLen) u) := je_callB call_len lift_len hg hm PySem.boot_len ha (by decide) (by decide) hs hp
theorem je_abs (hm : X.mg "abs" = none) (ha : JA S X [a] u) (hg : Gl X "abs" := by rfl) (hs : starEach [a] X.env = (false, eval a X.env) :: starEach [] X.env := by rfl) (hp : (backTo pos (starEach [] X.env)).any (·.1) = false := by rfl) : JE S X (.Call (.Name "abs" p) [a] [] pos) (uF (fA1 fAbs) u) := je_callB call_abs lift_abs hg hm (by decide +kernel) ha (by decide) (by decide) hs hp
theorem je_sum (hc : X.calm = true) (hm : X.mg "sum" = none) (ha : JA S X [a] u) (hg : Gl X "sum" := by rfl) (hs : starEach [a] X.env = (false, eval a X.env) :: starEach [] X.env := by rfl) (hp : (backTo pos (starEach [] X.env)).any (·.1) = false := by rfl) : JE S X (.Call (.Name "sum" p) [a] [] pos) (uF (fA1 fSum) u) := je_callB (cr_sum hc) lift_sum hg hm (by decide +kernel) ha (by decide) (by decide) hs hp
theorem je_max2 (hc : X.calm = true) (hm : X.mg "max" = none) (ha : JA S X [a, b] u) (hg : Gl X "max" := by rfl) (hs : starEach [a, b] X.env = (false, eval a X.env) :: starEach [b] X.env := by rfl) (hp : (backTo pos (starEach [b] X.env)).any (·.1) = false := by rfl) : JE S X (.Call (.Name "max" p) [a, b] [] pos) (uF (fA2 fMax2) u) := je_callB (call_max2 hc) lift_max2 hg hm (by decide +kernel) ha (by decide) (by decide) hs hp
theorem je_min2 (hc : X.calm = true) (hm : X.mg "min" = none) (ha : JA S X [a, b] u) (hg : Gl X "min" := by rfl) (hs : starEach [a, b] X.env = (false, eval a X.env) :: starEach [b] X.env := by rfl) (hp : (backTo pos (starEach [b] X.env)).any (·.1) = false := by rfl) : JE S X (.Call (.Name "min" p) [a, b] [] pos) (uF (fA2 fMin2) u) := je_callB (call_min2 hc) lift_min2 hg hm (by decide +kernel) ha (by decide) (by decide) hs hp
theorem je_max1 (hc : X.calm = true) (hm : X.mg "max" = none) (ha : JA S X [a] u) (hg : Gl X "max" := by rfl) (hs : starEach [a] X.env = (false, eval a X.env) :: starEach [] X.env := by rfl) (hp : (backTo pos (starEach [] X.env)).any (·.1) = false := by rfl) : JE S X (.Call (.Name "max" p) [a] [] pos) (uF (fA1 fMaxL) u) := je_callB (cr_max hc) lift_maxL hg hm (by decide +kernel) ha (by decide) (by decide) hs hp
theorem je_min1 (hc : X.calm = true) (hm : X.mg "min" = none) (ha : JA S X [a] u) (hg : Gl X "min" := by rfl) (hs : starEach [a] X.env = (false, eval a X.env) :: starEach [] X.env := by rfl) (hp : (backTo pos (starEach [] X.env)).any (·.1) = false := by rfl) : JE S X (.Call (.Name "min" p) [a] [] pos) (uF (fA1 fMinL) u) := je_callB (cr_min hc) lift_minL hg hm (by decide +kernel) ha (by decide) (by decide) hs hp
theorem je_sorted (hm : X.mg "sorted" = none) (ha : JA S X [a] u) (hg : Gl X "sorted" := by rfl) (hs : starEach [a] X.env = (false, eval a X.env) :: starEach [] X.env := by rfl) (hp : (backTo pos (starEach [] X.env)).any (·.1) = false := by rfl) : JE S X (.Call (.Name "sorted" p) [a] [] pos) (uF (fA1 fSorted) u) := je_callB cr_sortedI lift_sorted hg hm (by decide +kernel) ha (by decide) (by decide) hs hp
theorem je_tuple (hm : X.mg "tuple" = none) (ha : JA S X [a] u) (hg : Gl X "tuple" := by rfl) (hs : starEach [a] X.env = (false, eval a X.env) :: starEach [] X.env := by rfl) (hp : (backTo pos (starEach [] X.env)).any (·.1) = false := by rfl) : JE S X (.Call (.Name "tuple" p) [a] [] pos) (uF (fA1 fTuple) u) := je_callTy call_tuple_of lift_tuple hg hm (by decide +kernel) ha (by decide) (by decide) hs hp
theorem je_list (hm : X.mg "list" = none) (ha : JA S X [a] u) (hg : Gl X "list" := by rfl) (hs : starEach [a] X.env = (false, eval a X.env) :: starEach [] X.env := by rfl) (hp : (backTo pos (starEach [] X.env)).any (·.1) = false := by rfl) : JE S X (.Call (.Name "list" p) [a] [] pos) (uF (fA1 fList) u) := je_callTy call_list_of lift_list hg hm (by decide +kernel) ha (by decide) (by decide) hs hp
theorem je_intC (hm : X.mg "int" = none) (ha : JA S X [a] u) (hg : Gl X "int" := by rfl) (hs : starEach [a] X.env = (false, eval a X.env) :: starEach [] X.env := by rfl) (hp : (backTo pos (starEach [] X.env)).any (·.1) = false := by rfl) : JE S X (.Call (.Name "int" p) [a] [] pos) (uF (fA1 fInt) u) := je_callTy call_int1 lift_int hg hm (by decide +kernel) ha (by decide) (by decide) hs hp
theorem je_isI {p2 : Pos} (hm : X.mg "isinstance" = none) (hm2 : X.mg "int" = none) (ha : JE S X a ua) (hg : Gl X "isinstance" := by rfl) (hg2 : Gl X "int" := by rfl)
    (hs : starEach [a, .Name "int" p2] X.env = (false, eval a X.env) :: starEach [.Name "int" p2] X.env := by rfl) (hs2 : starEach [.Name "int" p2] X.env = (false, eval (.Name "int" p2) X.env) :: starEach [] X.env := by rfl) (hp : (backTo pos (starEach [.Name "int" p2] X.env)).any (·.1) = false := by rfl) : JE S X (.Call (.Name "isinstance" p) [a, .Name "int" p2] [] pos) (u1 (fIsi "int") ua) := je_isi kit_int hg hm (by decide +kernel) hg2 hm2 (by decide +kernel) ha (by decide) (by decide) (by decide) (by decide) hs hs2 hp
theorem je_isB {p2 : Pos} (hm : X.mg "isinstance" = none) (hm2 : X.mg "bool" = none) (ha : JE S X a ua) (hg : Gl X "isinstance" := by rfl) (hg2 : Gl X "bool" := by rfl)
    (hs : starEach [a, .Name "bool" p2] X.env = (false, eval a X.env) :: starEach [.Name "bool" p2] X.env := by rfl) (hs2 : starEach [.Name "bool" p2] X.env = (false, eval (.Name "bool" p2) X.env) :: starEach [] X.env := by rfl) (hp : (backTo pos (starEach [.Name "bool" p2] X.env)).any (·.1) = false := by rfl) : JE S X (.Call (.Name "isinstance" p) [a, .Name "bool" p2] [] pos) (u1 (fIsi "bool") ua) := je_isi kit_bool hg hm (by decide +kernel) hg2 hm2 (by decide +kernel) ha (by decide) (by decide) (by decide) (by decide) hs hs2 hp
theorem je_isT {p2 : Pos} (hm : X.mg "isinstance" = none) (hm2 : X.mg "tuple" = none) (ha : JE S X a ua) (hg : Gl X "isinstance" := by rfl) (hg2 : Gl X "tuple" := by rfl)
    (hs : starEach [a, .Name "tuple" p2] X.env = (false, eval a X.env) :: starEach [.Name "tuple" p2] X.env := by rfl) (hs2 : starEach [.Name "tuple" p2] X.env = (false, eval (.Name "tuple" p2) X.env) :: starEach [] X.env := by rfl) (hp : (backTo pos (starEach [.Name "tuple" p2] X.env)).any (·.1) = false := by rfl) : JE S X (.Call (.Name "isinstance" p) [a, .Name "tuple" p2] [] pos) (u1 (fIsi "tuple") ua) := je_isi kit_tuple hg hm (by decide +kernel) hg2 hm2 (by decide +kernel) ha (by decide) (by decide) (by decide) (by decide) hs hs2 hp
theorem je_isS {p2 : Pos} (hm : X.mg "isinstance" = none) (hm2 : X.mg "str" = none) (ha : JE S X a ua) (hg : Gl X "isinstance" := by rfl) (hg2 : Gl X "str" := by rfl)
    (hs : starEach [a, .Name "str" p2] X.env = (false, eval a X.env) :: starEach [.Name "str" p2] X.env := by rfl) (hs2 : starEach [.Name "str" p2] X.env = (false, eval (.Name "str" p2) X.env) :: starEach [] X.env := by rfl) (hp : (backTo pos (starEach [.Name "str" p2] X.env)).any (·.1) = false := by rfl) : JE S X (.Call (.Name "isinstance" p) [a, .Name "str" p2] [] pos) (u1 (fIsi "str") ua) := je_isi kit_str hg hm (by decide +kernel) hg2 hm2 (by decide +kernel) ha (by decide) (by decide) (by decide) (by decide) hs hs2 hp
theorem je_at (ha : JE S X a ua) (hb : JE S X b ub) (hs : PlainIx b := by exact fun _ _ => rfl) : JE S X (.Subscript a b pos) (u2 fIx ua ub) := je_ix ix_seq lift_ix ha hb hs
/-! methods -/
theorem js_app (M : Nat → Bool) {i : Nat} {x : Str} {p1 p2 p3 : Pos} (ha : JA S X [a] u) (hi : X.N[i]? = some x := by rfl)
    (hv : Vis X.env.scope x := by first | exact Or.inl rfl | exact Or.inr (Or.inl rfl) | exact Or.inr (Or.inr rfl)) (hd : (x == ("__debug__" : Str)) = false := by decide) (hcd : (x == ("__classdict__" : Str)) = false := by decide)
    (hbase : attributeBase (.Name x p1) "append" X.env (eval (.Name x p1) X.env) = eval (.Name x p1) X.env := by rfl)
    (hfew : ((backTo p3 (starEach [a] X.env)).all (fun x => !x.1) && (backToKw p3 (keywordEach [] X.env)).all (fun x => x.1.isSome)
      && decide ([a].length + ([] : List Keyword).length + (if ([] : List Keyword).isEmpty then 0 else 1) < 30)) = true := by rfl)
    (hline : (p2.endLine == p3.line) = true := by rfl) (hst : starEach [a] X.env = (false, eval a X.env) :: starEach [] X.env := by rfl) (hplain : (backTo p3 (starEach [] X.env)).any (·.1) = false := by rfl)
    (hs : swapsWith (.Call (.Attribute (.Name x p1) "append" p2) [a] [] p3) none pos.line X.env = pure false := by rfl) :
    JS S X (.Expr (.Call (.Attribute (.Name x p1) "append" p2) [a] [] p3) pos) (sMeth M i mAppend u) := js_meth M PySem.F.slot_list_append PySem.F.type_list_append mt_append liftm_append hi ha hv hd hcd hbase hfew hline hst hplain hs
end
end DL

/-! DLSrc: a second small layer for the laws' sources: a list at one place that holds ints and lists of ints, drawn from and written in place. -/
namespace DL
open PySem PySem.Spec PyProof.Rows L2

inductive SC where
  | int (i : Int) | il (l : List Int)
inductive XV where
  | int (i : Int) | bl (b : Bool) | self | inn (j : Nat)
abbrev XEnv := List (Option XV)
abbrev XQ := XV → List SC → Prop
abbrev UX := XEnv → List SC → XQ → Prop
abbrev UXT := XEnv → List SC → (Bool → List SC → Prop) → Prop
abbrev UXA := XEnv → List SC → (List XV → List SC → Prop) → Prop
def SCat (H : Hp) (pl : Nat → Option Addr) (xs : List V) (j : Nat) : SC → Prop
  | .int i => xs[j]? = some (.int i)
  | .il l => ∃ q, pl j = some q ∧ xs[j]? = some (.ref q) ∧ H q = some (.lst (l.map .int))
structure XI (J : Prop) (p : Addr) (pl : Nat → Option Addr) (B H : Hp) (c : List SC) : Prop where
  at_ : ∃ xs, H p = some (.lst xs) ∧ xs.length = c.length ∧ ∀ j k, c[j]? = some k → SCat H pl xs j k
  pl_ : ∀ j q, pl j = some q → ∃ l, c[j]? = some (.il l)
  inj : J → ∀ i j q, pl i = some q → pl j = some q → i = j
  np : ∀ j, pl j ≠ some p
  keep : ∀ a o, B a = some o → a ≠ p → (∀ j, pl j ≠ some a) → (∀ ps, o ≠ .tbl ps) → H a = some o
  tt : ∀ P, GX.Tab B P → GX.Tab H P
  th : ∀ a o, B a = some o → ∃ o', H a = some o'
theorem th_upd {B H : Hp} {q : Addr} {x : HO} (h : ∀ a o, B a = some o → ∃ o', H a = some o') : ∀ a o, B a = some o → ∃ o', upd H q x a = some o' := fun a o e => by
  by_cases z : a = q
  · exact ⟨x, by rw [z]; exact upd_same⟩
  · obtain ⟨o', e'⟩ := h a o e
    exact ⟨o', by rw [upd_ne z]; exact e'⟩
theorem tt_upd {B H : Hp} {q : Addr} {x : HO} {xs : List V} (h : ∀ P, GX.Tab B P → GX.Tab H P) (e : H q = some (.lst xs)) : ∀ P, GX.Tab B P → GX.Tab (upd H q x) P := fun P hP => (h P hP).upd fun u z => by
  rw [e] at z; cases z; exact id
theorem tab_none {P : Addr} (t : GX.Tab (fun _ => none) P) : False := by
  cases t with
  | mk P ps f h => cases h
def Vx (p : Addr) (pl : Nat → Option Addr) : XV → V → Prop
  | .int i, v => v = .int i
  | .bl b, v => v = .bl b
  | .self, v => v = .ref p
  | .inn j, v => ∃ q, pl j = some q ∧ v = .ref q
def RX (p : Addr) (pl : Nat → Option Addr) (ρ : XEnv) (σ : L2.St) : Prop := ρ.length = σ.length ∧ ∀ (j : Nat) (x : XV), ρ[j]? = some (some x) → ∃ v, σ[j]? = some (some v) ∧ Vx p pl x v
def XPost (J : Prop) (p : Addr) (pl : Nat → Option Addr) (B : Hp) (Q : XQ) (v : V) (H' : Hp) : Prop := ∃ x c', XI J p pl B H' c' ∧ Vx p pl x v ∧ Q x c'
def XTPost (J : Prop) (p : Addr) (pl : Nat → Option Addr) (B : Hp) (Q : Bool → List SC → Prop) (b : Bool) (H' : Hp) : Prop := ∃ c', XI J p pl B H' c' ∧ Q b c'
def VxL (p : Addr) (pl : Nat → Option Addr) : List XV → List V → Prop
  | [], vs => vs = []
  | x :: xs, vs => ∃ v r, vs = v :: r ∧ Vx p pl x v ∧ VxL p pl xs r
def XAPost (J : Prop) (p : Addr) (pl : Nat → Option Addr) (B : Hp) (Q : List XV → List SC → Prop) (vs : List V) (H' : Hp) : Prop := ∃ xs c', XI J p pl B H' c' ∧ VxL p pl xs vs ∧ Q xs c'
structure XE (J : Prop) (X : Cx) (e : Expr) (u : UX) : Prop where
  ex : ∃ t : TE, PE X e t ∧ ∀ (p : Addr) (pl : Nat → Option Addr) (B : Hp) (ρ : XEnv) (σ : L2.St) (H : Hp) (c : List SC) (Q : XQ) (P : VK), XI J p pl B H c → RX p pl ρ σ → u ρ c Q → (∀ v H', XPost J p pl B Q v H' → P v H') → t σ H P
structure XT (J : Prop) (X : Cx) (e : Expr) (u : UXT) : Prop where
  ex : ∃ t : TT, PT X e t ∧ ∀ (p : Addr) (pl : Nat → Option Addr) (B : Hp) (ρ : XEnv) (σ : L2.St) (H : Hp) (c : List SC) (Q : Bool → List SC → Prop) (P : Bool → Hp → Prop), XI J p pl B H c → RX p pl ρ σ → u ρ c Q → (∀ b H', XTPost J p pl B Q b H' → P b H') → t σ H P
structure XW (J : Prop) (X : Cx) (e : Expr) (u : UXT) : Prop where
  ex : ∃ t : TT, PW X e t ∧ ∀ (p : Addr) (pl : Nat → Option Addr) (B : Hp) (ρ : XEnv) (σ : L2.St) (H : Hp) (c : List SC) (Q : Bool → List SC → Prop) (P : Bool → Hp → Prop), XI J p pl B H c → RX p pl ρ σ → u ρ c Q → (∀ b H', XTPost J p pl B Q b H' → P b H') → t σ H P
structure XA (J : Prop) (X : Cx) (es : List Expr) (u : UXA) : Prop where
  ex : ∃ t : TA, PA X es t ∧ ∀ (p : Addr) (pl : Nat → Option Addr) (B : Hp) (ρ : XEnv) (σ : L2.St) (H : Hp) (c : List SC) (Q : List XV → List SC → Prop) (P : List V → Hp → Prop), XI J p pl B H c → RX p pl ρ σ → u ρ c Q → (∀ v H', XAPost J p pl B Q v H' → P v H') → t σ H P

/-! ### readings -/
@[simp] def xVar (i : Nat) (ρ : XEnv) (c : (List SC)) (Q : XQ) : Prop := match ρ[i]? with
  | some (some x) => Q x c
  | _ => False
@[simp] def xC (x : XV) (_ : XEnv) (c : (List SC)) (Q : XQ) : Prop := Q x c
@[simp] def xI (C : Int → Int → Prop) (k : Int → Int → Int) (a b : UX) (ρ : XEnv) (c : (List SC)) (Q : XQ) : Prop := a ρ c fun x c1 => b ρ c1 fun y c2 => match x, y with
  | .int i, .int j => C i j ∧ Q (.int (k i j)) c2
  | _, _ => False
@[simp] def xB (k : Int → Int → Bool) (a b : UX) (ρ : XEnv) (c : (List SC)) (Q : XQ) : Prop := a ρ c fun x c1 => b ρ c1 fun y c2 => match x, y with
  | .int i, .int j => Q (.bl (k i j)) c2
  | _, _ => False
@[simp] def xTest (a : UX) (ρ : XEnv) (c : (List SC)) (Q : (Bool → List SC → Prop)) : Prop := a ρ c fun x c1 => match x with
  | .bl b => Q b c1
  | _ => False
@[simp] def xAnd (a b : UXT) (ρ : XEnv) (c : (List SC)) (Q : (Bool → List SC → Prop)) : Prop := a ρ c fun k c1 => if k = true then b ρ c1 Q else Q false c1
@[simp] def xOr (a b : UXT) (ρ : XEnv) (c : (List SC)) (Q : (Bool → List SC → Prop)) : Prop := a ρ c fun k c1 => if k = true then Q true c1 else b ρ c1 Q
@[simp] def xIte (t : UXT) (a b : UX) (ρ : XEnv) (c : (List SC)) (Q : XQ) : Prop := t ρ c fun k c1 => if k = true then a ρ c1 Q else b ρ c1 Q
@[simp] def xInt (a : UX) (ρ : XEnv) (c : (List SC)) (Q : XQ) : Prop := a ρ c fun x c1 => match x with
  | .int i => Q (.int i) c1
  | .bl b => Q (.int (if b then 1 else 0)) c1
  | _ => False
@[simp] def xAbs (a : UX) (ρ : XEnv) (c : (List SC)) (Q : XQ) : Prop := a ρ c fun x c1 => match x with
  | .int i => Q (.int (if i < 0 then -i else i)) c1
  | _ => False
@[simp] def xLen (a : UX) (ρ : XEnv) (c : (List SC)) (Q : XQ) : Prop := a ρ c fun x c1 => match x with
  | .self => Q (.int c1.length) c1
  | .inn j => match c1[j]? with
    | some (.il l) => Q (.int l.length) c1
    | _ => False
  | _ => False
@[simp] def xIx (a b : UX) (ρ : XEnv) (c : (List SC)) (Q : XQ) : Prop := a ρ c fun x c1 => b ρ c1 fun y c2 => match x, y with
  | .self, .int k => ∃ m, ixN c2.length k = some m ∧ match c2[m]? with
    | some (.int i) => Q (.int i) c2
    | some (.il _) => Q (.inn m) c2
    | none => False
  | .inn j, .int k => match c2[j]? with
    | some (.il l) => ∃ m i, ixN l.length k = some m ∧ l[m]? = some i ∧ Q (.int i) c2
    | _ => False
  | _, _ => False
@[simp] def xPop0 (a : UX) (ρ : XEnv) (c : (List SC)) (Q : XQ) : Prop := a ρ c fun x c1 => match x with
  | .inn j => match c1[j]? with
    | some (.il (i :: l)) => Q (.int i) (c1.set j (.il l))
    | _ => False
  | _ => False
@[simp] def xPop (a : UX) (ρ : XEnv) (c : (List SC)) (Q : XQ) : Prop := a ρ c fun x c1 => match x with
  | .inn j => match c1[j]? with
    | some (.il l) => ∃ i, l[l.length - 1]? = some i ∧ Q (.int i) (c1.set j (.il l.dropLast))
    | _ => False
  | .self => match c1[c1.length - 1]? with
    | some (.int i) => Q (.int i) c1.dropLast
    | _ => False
  | _ => False
@[simp] def xNil (_ : XEnv) (c : (List SC)) (Q : (List XV → List SC → Prop)) : Prop := Q [] c
@[simp] def xCons (a : UX) (r : UXA) (ρ : XEnv) (c : (List SC)) (Q : (List XV → List SC → Prop)) : Prop := a ρ c fun x c1 => r ρ c1 fun xs c2 => Q (x :: xs) c2
@[simp] def xDs : List XV → Option (List D)
  | [] => some []
  | .int i :: r => (xDs r).map (.int i :: ·)
  | _ => none
@[simp] def xCall (C : Ctr) (a : UXA) (ρ : XEnv) (c : (List SC)) (Q : XQ) : Prop := a ρ c fun xs c1 => ∃ ds, xDs xs = some ds ∧ C ds fun t d => match d with
  | .int i => Q (.int i) c1
  | _ => False

section
variable {J : Prop} {X : Cx} {a b e : Expr} {pos : Pos} {ua ub u : UX} {ta tb : UXT}
theorem xe_var (i : Nat) {x : Str} (hN : X.N[i]? = some x := by rfl) (hv : Vis X.env.scope x := by first | exact Or.inl rfl | exact Or.inr (Or.inl rfl) | exact Or.inr (Or.inr rfl)) (hd : (x == ("__debug__" : Str)) = false := by decide)
    (hcd : (x == ("__classdict__" : Str)) = false := by decide) : XE J X (.Name x pos) (xVar i) := by
  refine ⟨tVar i, pv i hN hv hd hcd, fun p pl B ρ σ H c Q P I R h hP => ?_⟩
  unfold xVar at h
  split at h
  · rename_i x e
    obtain ⟨v, hv, r⟩ := R.2 i _ e
    exact ⟨v, hv, hP v H ⟨_, c, I, r, h⟩⟩
  · exact h.elim
theorem xe_int {i j pos} : XE J X (.Constant (.int i) j pos) (xC (.int i)) := ⟨_, pe_int, fun p pl B ρ σ H c Q P I R h hP => hP _ _ ⟨.int i, c, I, rfl, h⟩⟩
theorem two_x {r : R2} {f : XV → XV → List SC → XQ → Prop} (hl : ∀ p pl B H c x y dx dy Q P, XI J p pl B H c → Vx p pl dx x → Vx p pl dy y → f dx dy c Q → (∀ v H', XPost J p pl B Q v H' → P v H') → r x y H P) (ha : XE J X a ua) (hb : XE J X b ub) :
    ∃ t1 t2 : TE, PE X a t1 ∧ PE X b t2 ∧ ∀ (p : Addr) (pl : Nat → Option Addr) (B : Hp) (ρ : XEnv) (σ : L2.St) (H : Hp) (c : List SC) (Q : XQ) (P : VK), XI J p pl B H c → RX p pl ρ σ → (ua ρ c fun x c1 => ub ρ c1 fun y c2 => f x y c2 Q) → (∀ v H', XPost J p pl B Q v H' → P v H') → tOp r t1 t2 σ H P := by
  obtain ⟨t1, p1, h1⟩ := ha.ex
  obtain ⟨t2, p2, h2⟩ := hb.ex
  refine ⟨t1, t2, p1, p2, fun p pl B ρ σ H c Q P I R h hP => ?_⟩
  refine h1 p pl B ρ σ H c _ _ I R h fun v H1 ⟨x, c1, I1, r1, q1⟩ => ?_
  refine h2 p pl B ρ σ H1 c1 _ _ I1 R q1 fun v2 H2 ⟨y, c2, I2, r2, q2⟩ => ?_
  exact hl p pl B H2 c2 v v2 x y Q P I2 r1 r2 q2 hP
theorem lx_I {C : Int → Int → Prop} {k : Int → Int → Int} : ∀ p pl B H c x y dx dy Q P, XI J p pl B H c → Vx p pl dx x → Vx p pl dy y → (match dx, dy with
  | .int i, .int j => C i j ∧ Q (.int (k i j)) c
  | _, _ => False) → (∀ v H', XPost J p pl B Q v H' → P v H') → rI C (fun i j => .int (k i j)) x y H P := by
  intro p pl B H c x y dx dy Q P I r1 r2 h hP
  cases dx with
  | int i =>
    cases dy with
    | int j => exact ⟨i, j, r1, r2, h.1, hP _ _ ⟨.int (k i j), c, I, rfl, h.2⟩⟩
    | _ => exact h.elim
  | _ => exact h.elim
theorem lx_I0 {k : Int → Int → Int} : ∀ p pl B H c x y dx dy Q P, XI J p pl B H c → Vx p pl dx x → Vx p pl dy y → (match dx, dy with
  | .int i, .int j => True ∧ Q (.int (k i j)) c
  | _, _ => False) → (∀ v H', XPost J p pl B Q v H' → P v H') → rI0 (fun i j => .int (k i j)) x y H P := by
  intro p pl B H c x y dx dy Q P I r1 r2 h hP
  cases dx with
  | int i =>
    cases dy with
    | int j => exact ⟨i, j, r1, r2, hP _ _ ⟨.int (k i j), c, I, rfl, h.2⟩⟩
    | _ => exact h.elim
  | _ => exact h.elim
theorem lx_B {k : Int → Int → Bool} : ∀ p pl B H c x y dx dy Q P, XI J p pl B H c → Vx p pl dx x → Vx p pl dy y → (match dx, dy with
  | .int i, .int j => Q (.bl (k i j)) c
  | _, _ => False) → (∀ v H', XPost J p pl B Q v H' → P v H') → rI0 (fun i j => .bl (k i j)) x y H P := by
  intro p pl B H c x y dx dy Q P I r1 r2 h hP
  cases dx with
  | int i =>
    cases dy with
    | int j => exact ⟨i, j, r1, r2, hP _ _ ⟨.bl (k i j), c, I, rfl, h⟩⟩
    | _ => exact h.elim
  | _ => exact h.elim
theorem lx_eq : ∀ p pl B H c x y dx dy Q P, XI J p pl B H c → Vx p pl dx x → Vx p pl dy y → (match dx, dy with
  | .int i, .int j => Q (.bl (i == j)) c
  | _, _ => False) → (∀ v H', XPost J p pl B Q v H' → P v H') → rEq x y H P := by
  intro p pl B H c x y dx dy Q P I r1 r2 h hP
  cases dx with
  | int i =>
    cases dy with
    | int j =>
      cases r1; cases r2
      refine ⟨rfl, ?_⟩
      rw [dec_int]
      exact hP _ _ ⟨.bl (i == j), c, I, rfl, h⟩
    | _ => exact h.elim
  | _ => exact h.elim
theorem xe_opC {op : Operator} {C : Int → Int → Prop} {k : Int → Int → Int} (ho : OpR X (binaryOp op) (rI C fun i j => .int (k i j))) (ha : XE J X a ua) (hb : XE J X b ub) : XE J X (.BinOp a op b pos) (xI C k ua ub) := by
  obtain ⟨t1, t2, p1, p2, h⟩ := two_x lx_I ha hb
  exact ⟨tOp _ t1 t2, pe_op ho p1 p2, h⟩
theorem xe_op0 {op : Operator} {k : Int → Int → Int} (ho : OpR X (binaryOp op) (rI0 fun i j => .int (k i j))) (ha : XE J X a ua) (hb : XE J X b ub) : XE J X (.BinOp a op b pos) (xI (fun _ _ => True) k ua ub) := by
  obtain ⟨t1, t2, p1, p2, h⟩ := two_x lx_I0 ha hb
  exact ⟨tOp _ t1 t2, pe_op ho p1 p2, h⟩
theorem xe_add (ha : XE J X a ua) (hb : XE J X b ub) : XE J X (.BinOp a .Add b pos) (xI (fun _ _ => True) (fun i j => i + j) ua ub) := xe_op0 op_add ha hb
theorem xe_sub (ha : XE J X a ua) (hb : XE J X b ub) : XE J X (.BinOp a .Sub b pos) (xI (fun _ _ => True) (fun i j => i - j) ua ub) := xe_op0 op_sub ha hb
theorem xe_mul (ha : XE J X a ua) (hb : XE J X b ub) : XE J X (.BinOp a .Mult b pos) (xI CMul (fun i j => i * j) ua ub) := xe_opC op_mul ha hb
theorem xe_div (ha : XE J X a ua) (hb : XE J X b ub) : XE J X (.BinOp a .FloorDiv b pos) (xI CDivW (fun i j => i / j) ua ub) := xe_opC op_fdivW ha hb
theorem xe_mod (ha : XE J X a ua) (hb : XE J X b ub) : XE J X (.BinOp a .Mod b pos) (xI (fun _ j => 0 < j) (fun i j => i % j) ua ub) := xe_opC op_mod ha hb
theorem xe_pow (ha : XE J X a ua) (hb : XE J X b ub) : XE J X (.BinOp a .Pow b pos) (xI CPow (fun i j => i ^ j.toNat) ua ub) := xe_opC op_pow ha hb
theorem xe_cmp {op : CmpOp} {k : Int → Int → Bool} (ho : OpR X (compareOp op) (rI0 fun i j => .bl (k i j))) (ha : XE J X a ua) (hb : XE J X b ub) (hm : behindInMarks op b = false) : XE J X (.Compare a [op] [b] pos) (xB k ua ub) := by
  obtain ⟨t1, t2, p1, p2, h⟩ := two_x lx_B ha hb
  exact ⟨tOp _ t1 t2, pe_cmpR ho p1 p2 hm, h⟩
theorem xt_cmp {op : CmpOp} {k : Int → Int → Bool} (ho : OpR X (compareOp op) (rI0 fun i j => .bl (k i j))) (ha : XE J X a ua) (hb : XE J X b ub) (hm : behindInMarks op b = false) : XT J X (.Compare a [op] [b] pos) (xTest (xB k ua ub)) := by
  obtain ⟨t1, t2, p1, p2, h⟩ := two_x lx_B ha hb
  refine ⟨_, pt_cmpR ho p1 p2 hm, fun p pl B ρ σ H c Q P I R hu hP => h p pl B ρ σ H c (fun x c1 => match x with
    | .bl b => Q b c1
    | _ => False) _ I R hu fun v H' ⟨x, c', I', r, q⟩ => ?_⟩
  cases x with
  | bl k => exact ⟨k, r, hP k H' ⟨c', I', q⟩⟩
  | _ => exact q.elim
theorem xt_eq (ha : XE J X a ua) (hb : XE J X b ub) : XT J X (.Compare a [.Eq] [b] pos) (xTest (xB (fun i j => i == j) ua ub)) := by
  obtain ⟨t1, t2, p1, p2, h⟩ := two_x lx_eq ha hb
  refine ⟨_, pt_cmpR op_eq p1 p2 (nomark _), fun p pl B ρ σ H c Q P I R hu hP => h p pl B ρ σ H c (fun x c1 => match x with
    | .bl b => Q b c1
    | _ => False) _ I R hu fun v H' ⟨x, c', I', r, q⟩ => ?_⟩
  cases x with
  | bl k => exact ⟨k, r, hP k H' ⟨c', I', q⟩⟩
  | _ => exact q.elim
theorem xe_lt (ha : XE J X a ua) (hb : XE J X b ub) : XE J X (.Compare a [.Lt] [b] pos) (xB (fun i j => decide (i < j)) ua ub) := xe_cmp op_lt ha hb (nomark _)
theorem xe_gt (ha : XE J X a ua) (hb : XE J X b ub) : XE J X (.Compare a [.Gt] [b] pos) (xB (fun i j => decide (j < i)) ua ub) := xe_cmp op_gt ha hb (nomark _)
theorem xt_lt (ha : XE J X a ua) (hb : XE J X b ub) : XT J X (.Compare a [.Lt] [b] pos) (xTest (xB (fun i j => decide (i < j)) ua ub)) := xt_cmp op_lt ha hb (nomark _)
theorem xt_le (ha : XE J X a ua) (hb : XE J X b ub) : XT J X (.Compare a [.LtE] [b] pos) (xTest (xB (fun i j => decide (i ≤ j)) ua ub)) := xt_cmp op_le ha hb (nomark _)
theorem xt_gt (ha : XE J X a ua) (hb : XE J X b ub) : XT J X (.Compare a [.Gt] [b] pos) (xTest (xB (fun i j => decide (j < i)) ua ub)) := xt_cmp op_gt ha hb (nomark _)
theorem xt_ge (ha : XE J X a ua) (hb : XE J X b ub) : XT J X (.Compare a [.GtE] [b] pos) (xTest (xB (fun i j => decide (j ≤ i)) ua ub)) := xt_cmp op_ge ha hb (nomark _)
theorem XW.xt (h : XW J X e ta) : XT J X e ta := by
  obtain ⟨t, p, h⟩ := h.ex
  exact ⟨t, p.pt, h⟩
variable {rest : List Expr}
theorem xw_and1 (h : XT J X a ta) : XW J X (.BoolOp .And [a] pos) ta := by
  obtain ⟨t, p, h⟩ := h.ex
  exact ⟨t, pw_and1 p, h⟩
theorem xw_or1 (h : XT J X a ta) : XW J X (.BoolOp .Or [a] pos) ta := by
  obtain ⟨t, p, h⟩ := h.ex
  exact ⟨t, pw_or1 p, h⟩
theorem xw_and (ha : XT J X a ta) (hb : XW J X (.BoolOp .And (b :: rest) pos) tb) : XW J X (.BoolOp .And (a :: b :: rest) pos) (xAnd ta tb) := by
  obtain ⟨t, p, h⟩ := ha.ex
  obtain ⟨t2, p2, h2⟩ := hb.ex
  refine ⟨_, pw_and p p2, fun p pl B ρ σ H c Q P I R hu hP => h p pl B ρ σ H c _ _ I R hu fun k H1 ⟨c1, I1, q1⟩ => ?_⟩
  cases k with
  | true => exact h2 p pl B ρ σ H1 c1 Q P I1 R q1 hP
  | false => exact hP false H1 ⟨c1, I1, q1⟩
theorem xw_or (ha : XT J X a ta) (hb : XW J X (.BoolOp .Or (b :: rest) pos) tb) : XW J X (.BoolOp .Or (a :: b :: rest) pos) (xOr ta tb) := by
  obtain ⟨t, p, h⟩ := ha.ex
  obtain ⟨t2, p2, h2⟩ := hb.ex
  refine ⟨_, pw_or p p2, fun p pl B ρ σ H c Q P I R hu hP => h p pl B ρ σ H c _ _ I R hu fun k H1 ⟨c1, I1, q1⟩ => ?_⟩
  cases k with
  | false => exact h2 p pl B ρ σ H1 c1 Q P I1 R q1 hP
  | true => exact hP true H1 ⟨c1, I1, q1⟩
theorem xe_ifExp {c : Expr} (hc : XT J X c ta) (ha : XE J X a ua) (hb : XE J X b ub) : XE J X (.IfExp c a b pos) (xIte ta ua ub) := by
  obtain ⟨t, p, h⟩ := hc.ex
  obtain ⟨t1, p1, h1⟩ := ha.ex
  obtain ⟨t2, p2, h2⟩ := hb.ex
  refine ⟨_, pe_ifExp p p1 p2, fun p pl B ρ σ H c Q P I R hu hP => h p pl B ρ σ H c _ _ I R hu fun k H1 ⟨c1, I1, q1⟩ => ?_⟩
  cases k with
  | true => exact h1 p pl B ρ σ H1 c1 Q P I1 R q1 hP
  | false => exact h2 p pl B ρ σ H1 c1 Q P I1 R q1 hP
theorem xa_nil : XA J X [] xNil := ⟨tNil, pa_nil, fun p pl B ρ σ H c Q P I R hu hP => hP [] H ⟨[], c, I, by rw [VxL], hu⟩⟩
theorem xa_cons {es : List Expr} {ur : UXA} (ha : XE J X a ua) (hr : XA J X es ur) (hs : starEach (a :: es) X.env = (false, eval a X.env) :: starEach es X.env := by rfl) : XA J X (a :: es) (xCons ua ur) := by
  obtain ⟨t, p, h⟩ := ha.ex
  obtain ⟨t2, p2, h2⟩ := hr.ex
  refine ⟨_, pa_cons p p2 hs, fun p pl B ρ σ H c Q P I R hu hP => h p pl B ρ σ H c _ _ I R hu fun v H1 ⟨x, c1, I1, r1, q1⟩ => ?_⟩
  refine h2 p pl B ρ σ H1 c1 _ _ I1 R q1 fun vs H2 ⟨xs, c2, I2, r2, q2⟩ => ?_
  exact hP (v :: vs) H2 ⟨x :: xs, c2, I2, by rw [VxL]; exact ⟨v, vs, rfl, r1, r2⟩, q2⟩
/-! built-ins -/
variable {p : Pos}
theorem xe_intC (hm : X.mg "int" = none) (ha : XE J X a ua) (hg : Gl X "int" := by rfl) (hs : starEach [a] X.env = (false, eval a X.env) :: starEach [] X.env := by rfl) (hp : (backTo pos (starEach [] X.env)).any (·.1) = false := by rfl) : XE J X (.Call (.Name "int" p) [a] [] pos) (xInt ua) := by
  obtain ⟨t, q, h⟩ := ha.ex
  refine ⟨_, pe_callTy call_int1 hg hm (by decide +kernel) (pa_cons q pa_nil hs) (by decide) (by decide) hs hp, fun p pl B ρ σ H c Q P I R hu hP => h p pl B ρ σ H c _ _ I R hu fun v H1 ⟨x, c1, I1, r1, q1⟩ => ?_⟩
  cases x with
  | int i => exact .inl ⟨i, by rw [show v = .int i from r1], hP _ _ ⟨.int i, c1, I1, rfl, q1⟩⟩
  | bl k => exact .inr ⟨k, by rw [show v = .bl k from r1], hP _ _ ⟨.int (if k then 1 else 0), c1, I1, rfl, q1⟩⟩
  | _ => exact q1.elim
theorem xe_abs (hm : X.mg "abs" = none) (ha : XE J X a ua) (hg : Gl X "abs" := by rfl) (hs : starEach [a] X.env = (false, eval a X.env) :: starEach [] X.env := by rfl) (hp : (backTo pos (starEach [] X.env)).any (·.1) = false := by rfl) : XE J X (.Call (.Name "abs" p) [a] [] pos) (xAbs ua) := by
  obtain ⟨t, q, h⟩ := ha.ex
  refine ⟨_, pe_callB call_abs hg hm (by decide +kernel) (pa_cons q pa_nil hs) (by decide) (by decide) hs hp, fun p pl B ρ σ H c Q P I R hu hP => h p pl B ρ σ H c _ _ I R hu fun v H1 ⟨x, c1, I1, r1, q1⟩ => ?_⟩
  cases x with
  | int i => exact ⟨i, by rw [show v = .int i from r1], hP _ _ ⟨.int (if i < 0 then -i else i), c1, I1, rfl, q1⟩⟩
  | _ => exact q1.elim
theorem XI.inner {q : Addr} {pl : Nat → Option Addr} {B H : Hp} {c : List SC} {j : Nat} {l : List Int} {r : Addr} (I : XI J q pl B H c) (e : c[j]? = some (.il l)) (hr : pl j = some r) : H r = some (.lst (l.map .int)) := by
  obtain ⟨xs, _, _, h⟩ := I.at_
  obtain ⟨q', e1, _, e3⟩ := h j _ e
  rw [hr] at e1; cases e1
  exact e3
theorem xe_len (hm : X.mg "len" = none) (ha : XE J X a ua) (hg : Gl X "len" := by rfl) (hs : starEach [a] X.env = (false, eval a X.env) :: starEach [] X.env := by rfl) (hp : (backTo pos (starEach [] X.env)).any (·.1) = false := by rfl) : XE J X (.Call (.Name "len" p) [a] [] pos) (xLen ua) := by
  obtain ⟨t, q, h⟩ := ha.ex
  refine ⟨_, pe_callB call_len_seq hg hm PySem.boot_len (pa_cons q pa_nil hs) (by decide) (by decide) hs hp, fun p pl B ρ σ H c Q P I R hu hP => h p pl B ρ σ H c _ _ I R hu fun v H1 ⟨x, c1, I1, r1, q1⟩ => ?_⟩
  cases x with
  | self =>
    obtain ⟨xs, e1, e2, _⟩ := I1.at_
    refine ⟨p, xs, by rw [show v = .ref p from r1], .inl (.inl (.inl e1)), ?_⟩
    rw [e2]
    exact hP _ _ ⟨.int c1.length, c1, I1, rfl, q1⟩
  | inn j =>
    obtain ⟨r, hr, ev⟩ := r1
    dsimp only at q1
    split at q1
    · rename_i l e
      have := I1.inner e hr
      refine ⟨r, l.map .int, by rw [ev], .inl (.inl (.inl this)), ?_⟩
      rw [List.length_map]
      exact hP _ _ ⟨.int l.length, c1, I1, rfl, q1⟩
    · exact q1.elim
  | _ => exact q1.elim
theorem ixN_atI {α : Type} {xs : List α} {k : Int} {m : Nat} {v : α} (h : ixN xs.length k = some m) (e : xs[m]? = some v) : L2.atI xs k = some v := by
  unfold L2.atI
  rw [h]
  exact e
theorem xe_ix (ha : XE J X a ua) (hb : XE J X b ub) (hs : PlainIx b := by exact fun _ _ => rfl) : XE J X (.Subscript a b pos) (xIx ua ub) := by
  have hl : ∀ p pl B H c x y dx dy Q P, XI J p pl B H c → Vx p pl dx x → Vx p pl dy y → (match dx, dy with
    | .self, .int k => ∃ m, ixN c.length k = some m ∧ match c[m]? with
      | some (.int i) => Q (.int i) c
      | some (.il _) => Q (.inn m) c
      | none => False
    | .inn j, .int k => match c[j]? with
      | some (.il l) => ∃ m i, ixN l.length k = some m ∧ l[m]? = some i ∧ Q (.int i) c
      | _ => False
    | _, _ => False) → (∀ v H', XPost J p pl B Q v H' → P v H') → rIxL X.K x y H P := by
    intro p pl B H c x y dx dy Q P I r1 r2 h hP
    cases dx with
    | self =>
      cases dy with
      | int k =>
        obtain ⟨m, hm, h⟩ := h
        obtain ⟨xs, e1, e2, e3⟩ := I.at_
        split at h
        · rename_i i e
          exact ⟨p, xs, k, .int i, r1, r2, .inl (.inl e1), ixN_atI (by rw [e2]; exact hm) (e3 m _ e), hP _ _ ⟨.int i, c, I, rfl, h⟩⟩
        · rename_i l e
          obtain ⟨q, hq, ex, eh⟩ := e3 m _ e
          exact ⟨p, xs, k, .ref q, r1, r2, .inl (.inl e1), ixN_atI (by rw [e2]; exact hm) ex, hP _ _ ⟨.inn m, c, I, ⟨q, hq, rfl⟩, h⟩⟩
        · exact h.elim
      | _ => exact h.elim
    | inn j =>
      cases dy with
      | int k =>
        obtain ⟨r, hr, ev⟩ := r1
        dsimp only at h
        split at h
        · rename_i l e
          obtain ⟨m, i, hm, hi, h⟩ := h
          exact ⟨r, l.map .int, k, .int i, ev, r2, .inl (.inl (I.inner e hr)), ixN_atI (m := m) (by rw [List.length_map]; exact hm) (by rw [List.getElem?_map, hi]; rfl), hP _ _ ⟨.int i, c, I, rfl, h⟩⟩
        · exact h.elim
      | _ => exact h.elim
    | _ => exact h.elim
  obtain ⟨t1, t2, p1, p2, h⟩ := two_x hl ha hb
  exact ⟨tOp _ t1 t2, pe_ix ix_list p1 p2 hs, h⟩
/-- an inner list is written -/
theorem XI.inn {q : Addr} {pl : Nat → Option Addr} {B H : Hp} {c : List SC} {j : Nat} {l l' : List Int} {r : Addr} (hJ : J) (I : XI J q pl B H c) (e : c[j]? = some (.il l)) (hr : pl j = some r) : XI J q pl B (upd H r (.lst (l'.map .int))) (c.set j (.il l')) := by
  have hj : j < c.length := (List.getElem?_eq_some_iff.mp e).1
  have hne : q ≠ r := fun z => I.np j (by rw [z]; exact hr)
  obtain ⟨xs, e1, e2, e3⟩ := I.at_
  refine ⟨⟨xs, by rw [upd_ne hne]; exact e1, by rw [List.length_set]; exact e2, fun i k hk => ?_⟩, fun i q' hq' => ?_, I.inj, I.np, fun a o ho n1 n2 n3 => ?_, tt_upd I.tt (I.inner e hr), th_upd I.th⟩
  · by_cases hij : j = i
    · subst hij
      rw [List.getElem?_set_self hj] at hk
      cases hk
      obtain ⟨q', h1, h2, h3⟩ := e3 j _ e
      rw [hr] at h1; cases h1
      exact ⟨r, hr, h2, upd_same⟩
    · rw [List.getElem?_set_ne hij] at hk
      have := e3 i k hk
      cases k with
      | int z => exact this
      | il z =>
        obtain ⟨q', h1, h2, h3⟩ := this
        refine ⟨q', h1, h2, ?_⟩
        rw [upd_ne (fun z => hij (I.inj hJ j i r hr (by rw [h1, z])))]
        exact h3
  · obtain ⟨l2, h2⟩ := I.pl_ i q' hq'
    by_cases hij : j = i
    · subst hij
      exact ⟨l', List.getElem?_set_self hj⟩
    · exact ⟨l2, by rw [List.getElem?_set_ne hij]; exact h2⟩
  · rw [upd_ne (fun z => n2 j (by rw [z]; exact hr))]
    exact I.keep a o ho n1 n2 n3
theorem seqIx0 {n : Nat} (h : 0 < n) : seqIndex? 0 n = some 0 := by
  unfold seqIndex?
  simp [h]
theorem xe_pop0 {p2 p3 : Pos} {j0 : Nat} (hJ : J) (ha : XE J X a ua) (hbase : attributeBase a "pop" X.env (eval a X.env) = eval a X.env := by rfl)
    (hfew : ((backTo p3 (starEach [.Constant (.int 0) j0 p] X.env)).all (fun x => !x.1) && (backToKw p3 (keywordEach [] X.env)).all (fun x => x.1.isSome)
      && decide ([Expr.Constant (.int 0) j0 p].length + ([] : List Keyword).length + (if ([] : List Keyword).isEmpty then 0 else 1) < 30)) = true := by rfl)
    (hline : (p2.endLine == p3.line) = true := by rfl) (hst : starEach [.Constant (.int 0) j0 p] X.env = (false, eval (.Constant (.int 0) j0 p) X.env) :: starEach [] X.env := by rfl) (hplain : (backTo p3 (starEach [] X.env)).any (·.1) = false := by rfl) :
    XE J X (.Call (.Attribute a "pop" p2) [.Constant (.int 0) j0 p] [] p3) (xPop0 ua) := by
  obtain ⟨t, q, h⟩ := ha.ex
  refine ⟨_, pe_bm PySem.F.plainAttrs_list PySem.F.slot_list_pop PySem.F.type_list_pop mt_popAt q (pa_cons pe_int pa_nil hst) hbase hfew hline hst hplain, fun p pl B ρ σ H c Q P I R hu hP => h p pl B ρ σ H c _ _ I R hu fun v H1 ⟨x, c1, I1, r1, q1⟩ => ?_⟩
  cases x with
  | inn j =>
    obtain ⟨r, hr, ev⟩ := r1
    dsimp only at q1
    split at q1
    · rename_i i l e
      have hH := I1.inner e hr
      subst ev
      refine ⟨.inl ⟨rfl, _, .inl (.inl hH)⟩, ?_⟩
      refine ⟨r, _, 0, 0, .int i, rfl, rfl, hH, by omega, by omega, seqIx0 (by simp), rfl, ?_⟩
      exact hP _ _ ⟨.int i, _, I1.inn (l' := l) hJ e hr, rfl, q1⟩
    · exact q1.elim
  | _ => exact q1.elim
theorem xe_popI {p2 p3 : Pos} (hJ : J) (ha : XE J X a ua) (hbase : attributeBase a "pop" X.env (eval a X.env) = eval a X.env := by rfl) (hline : (p2.endLine == p3.line) = true := by rfl) :
    XE J X (.Call (.Attribute a "pop" p2) [] [] p3) (xPop ua) := by
  obtain ⟨t, q, h⟩ := ha.ex
  refine ⟨_, pe_bm0 PySem.F.plainAttrs_list PySem.F.slot_list_pop PySem.F.type_list_pop mt_pop q hbase hline, fun p pl B ρ σ H c Q P I R hu hP => h p pl B ρ σ H c _ _ I R hu fun v H1 ⟨x, c1, I1, r1, q1⟩ => ?_⟩
  cases x with
  | inn j =>
    obtain ⟨r, hr, ev⟩ := r1
    dsimp only at q1
    split at q1
    · rename_i l e
      obtain ⟨i, hi, q1⟩ := q1
      have hH := I1.inner e hr
      subst ev
      refine ⟨.inl ⟨rfl, _, .inl (.inl hH)⟩, ?_⟩
      refine ⟨r, _, .int i, rfl, rfl, hH, by rw [List.length_map, List.getElem?_map, hi]; rfl, ?_⟩
      rw [← List.map_dropLast]
      exact hP _ _ ⟨.int i, _, I1.inn (l' := l.dropLast) hJ e hr, rfl, q1⟩
    · exact q1.elim
  | self =>
    dsimp only at q1
    split at q1
    · rename_i i e
      obtain ⟨xs, e1, e2, e3⟩ := I1.at_
      have hv : v = .ref p := r1
      subst hv
      refine ⟨.inl ⟨rfl, _, .inl (.inl e1)⟩, ?_⟩
      have hlast := e3 _ _ e
      refine ⟨p, xs, .int i, rfl, rfl, e1, by rw [e2]; exact hlast, ?_⟩
      refine hP _ _ ⟨.int i, c1.dropLast, ⟨⟨xs.dropLast, upd_same, by rw [List.length_dropLast, List.length_dropLast, e2], fun j k hk => ?_⟩, fun j q' hq' => ?_, I1.inj, I1.np, fun a o ho n1 n2 n3 => ?_, tt_upd I1.tt e1, th_upd I1.th⟩, rfl, q1⟩
      · have hj : j < c1.dropLast.length := (List.getElem?_eq_some_iff.mp hk).1
        rw [List.length_dropLast] at hj
        rw [List.getElem?_dropLast, if_pos hj] at hk
        have := e3 j k hk
        cases k with
        | int z =>
          show xs.dropLast[j]? = _
          rw [List.getElem?_dropLast, if_pos (by rw [e2]; exact hj)]
          exact this
        | il z =>
          obtain ⟨q', h1, h2, h3⟩ := this
          refine ⟨q', h1, by rw [List.getElem?_dropLast, if_pos (by rw [e2]; exact hj)]; exact h2, ?_⟩
          rw [upd_ne (fun z => I1.np j (by rw [h1, z]))]
          exact h3
      · obtain ⟨l2, h2⟩ := I1.pl_ j q' hq'
        have hj : j < c1.length := (List.getElem?_eq_some_iff.mp h2).1
        refine ⟨l2, ?_⟩
        rw [List.getElem?_dropLast, if_pos]
        · exact h2
        · by_cases hjj : j = c1.length - 1
          · subst hjj
            rw [e] at h2; cases h2
          · omega
      · rw [upd_ne n1]
        exact I1.keep a o ho n1 n2 n3
    · exact q1.elim
  | _ => exact q1.elim

/-! calls of the text's defs over ints -/
theorem xDs_rep {g : G} {H : Hp} {p : Addr} {pl : Nat → Option Addr} : ∀ {xs : List XV} {vs : List V} {ds : List D}, VxL p pl xs vs → xDs xs = some ds → RepL g H ds vs
  | [], vs, ds, h, e => by
    rw [VxL] at h; subst h
    rw [xDs] at e; cases e
    exact RepL.nil
  | x :: xs, vs, ds, h, e => by
    rw [VxL] at h
    obtain ⟨v, r, rfl, h1, h2⟩ := h
    cases x with
    | int i =>
      rw [xDs] at e
      cases e2 : xDs xs with
      | none => rw [e2] at e; cases e
      | some es =>
        rw [e2] at e; cases e
        exact RepL.cons (by rw [Rep]; exact h1) (xDs_rep h2 e2)
    | _ => cases (show (none : Option (List D)) = some ds from e)

/-! calls of the text's defs over ints -/
/-- no source; the tables T -/
def srcT (T : Addr → Prop) : Src where
  tb := T
  ok := fun _ _ _ => False
  loc := fun _ _ _ _ _ h => h
  tr := fun _ _ _ _ h => h.elim
  nt := fun _ _ _ _ _ h => h.elim
  nb := fun _ _ _ _ _ h => h.elim
theorem xe_call {k j : Nat} {ps : List Str} {C : Ctr} {x : Str} {st : Stmt} {es : List Expr} {ua : UXA} (c : ∀ T, Cal X.prog X.w X.K X.mg X.base (srcT T) st x j ps C) (hr : Room k X.A) (hb : BindN x st ps) (ha : XA J X (e :: es) ua) (hjk : j ≤ k := by decide) (hg : Gl X x := by rfl)
    (hdb : (x == ("__debug__" : Str)) = false := by decide) (he : starEach (e :: es) X.env = (false, eval e X.env) :: starEach es X.env := by rfl) (hpl : (backTo pos (starEach es X.env)).any (·.1) = false := by rfl) : XE J X (.Call (.Name x p) (e :: es) [] pos) (xCall C ua) := by
  obtain ⟨f, fd, F, m, _⟩ := (c fun _ => False).ex
  have okT : ∀ T, FnOk X.prog X.w X.K X.mg X.base CX0 j f fd ps (SpOf (srcT T) C) := fun T => by
    obtain ⟨f', fd', F', m', ok'⟩ := (c T).ex
    have e1 : f' = f := by rw [m] at m'; cases m'; rfl
    subst e1
    have e2 : fd' = fd := by
      obtain ⟨_, _, _, _, _, _, _, _, _, _, _, l1, _⟩ := F.ex
      obtain ⟨_, _, _, _, _, _, _, _, _, _, _, l2, _⟩ := F'.ex
      rw [l1] at l2
      cases l2
      simp_all
    subst e2
    exact ok'
  obtain ⟨t, pa, h⟩ := ha.ex
  have ok : FnOk X.prog X.w X.K X.mg X.base CX0 j f fd ps (fun vs H P E => ∃ T, SpOf (srcT T) C vs H P E) := ⟨fun vs H Q E ⟨T, h⟩ => (okT T).len vs H Q E h, fun A outer s H args us vs Q E hr e0 hb r ⟨T, h⟩ => (okT T).run A outer s H args us vs Q E hr e0 hb r h⟩
  refine ⟨_, pe_call (E := E0) ok (hr.mono hjk) hg m F.kp (F.bindsN hb) .nil pass0 pa hdb he hpl, fun p pl B ρ σ H c Q P I R hu hP => h p pl B ρ σ H c _ _ I R hu fun vs H1 ⟨xs, c1, I1, r1, ds, hd, hC⟩ => ?_⟩
  show ∃ T, SpOf (srcT T) C (vs ++ []) H1 P E0
  rw [List.append_nil]
  refine ⟨fun T => GX.Tab H1 T, ds, ⟨fun _ => False, fun _ => False, p⟩, _, ⟨fun a h => h.elim, fun a h => h.elim, fun ⟨a, h⟩ => h.elim, fun P hP => hP, fun a o h => h.elim⟩, xDs_rep r1 hd, hC, fun v H' ⟨g', t, d, s, hi, r, f, q⟩ => ?_⟩
  cases d with
  | int i =>
    refine hP v H' ⟨.int i, c1, ?_, ?_, q⟩
    · have kp : ∀ a o, H1 a = some o → (∀ ps, o ≠ .tbl ps) → H' a = some o := fun a o e nt => s.keep a o e (fun z => z) nt
      obtain ⟨xs, e1, e2, e3⟩ := I1.at_
      refine ⟨⟨xs, kp _ _ e1 (fun ps z => by cases z), e2, fun j k hk => ?_⟩, I1.pl_, I1.inj, I1.np, fun a o ho n1 n2 n3 => kp a o (I1.keep a o ho n1 n2 n3) n3, fun P hP => hi.tb.1 P (I1.tt P hP), fun a o e => ?_⟩
      · have := e3 j k hk
        cases k with
        | int z => exact this
        | il z =>
          obtain ⟨q', h1, h2, h3⟩ := this
          exact ⟨q', h1, h2, kp _ _ h3 (fun ps z => by cases z)⟩
      · obtain ⟨o', e'⟩ := I1.th a o e
        exact s.there a o' e'
    · cases t with
      | false =>
        have r : Rep g' H' (.int i) v := r
        rw [Rep] at r
        exact r
      | true =>
        obtain ⟨_, _, _, _, z, _⟩ := r
        cases z
  | _ => exact (show False from q).elim
end

/-! ### statements -/
structure XEnds where
  nx : XEnv → List SC → Prop
  rt : XQ
abbrev UXS := XEnds → XEnv → List SC → Prop
structure XGlue (J : Prop) (p : Addr) (pl : Nat → Option Addr) (B : Hp) (D : XEnds) (D' : Ends) : Prop where
  nx : ∀ ρ σ H c, XI J p pl B H c → RX p pl ρ σ → D.nx ρ c → D'.nx σ H
  rt : ∀ v H, XPost J p pl B D.rt v H → D'.rt v H
structure XS (J : Prop) (X : Cx) (st : Stmt) (u : UXS) : Prop where
  ex : ∃ t : TS, PS X st t ∧ ∀ (p : Addr) (pl : Nat → Option Addr) (B : Hp) (D : XEnds) (D' : Ends) (ρ : XEnv) (σ : L2.St) (H : Hp) (c : List SC), XI J p pl B H c → RX p pl ρ σ → u D ρ c → XGlue J p pl B D D' → t D' σ H
structure XSs (J : Prop) (X : Cx) (st : List Stmt) (u : UXS) : Prop where
  ex : ∃ t : TS, PSs X st t ∧ ∀ (p : Addr) (pl : Nat → Option Addr) (B : Hp) (D : XEnds) (D' : Ends) (ρ : XEnv) (σ : L2.St) (H : Hp) (c : List SC), XI J p pl B H c → RX p pl ρ σ → u D ρ c → XGlue J p pl B D D' → t D' σ H
@[simp] def ysNext (D : XEnds) (ρ : XEnv) (c : (List SC)) : Prop := D.nx ρ c
@[simp] def ysSeq (a b : UXS) (D : XEnds) (ρ : XEnv) (c : (List SC)) : Prop := a { D with nx := b D } ρ c
@[simp] def ysRet (u : UX) (D : XEnds) (ρ : XEnv) (c : (List SC)) : Prop := u ρ c D.rt
@[simp] def ysIf (t : UXT) (a b : UXS) (D : XEnds) (ρ : XEnv) (c : (List SC)) : Prop := t ρ c fun k c1 => if k = true then a D ρ c1 else b D ρ c1
@[simp] def ysAsg (i : Nat) (u : UX) (D : XEnds) (ρ : XEnv) (c : (List SC)) : Prop := u ρ c fun x c1 => D.nx (ρ.set i (some x)) c1
/-- self[k] = an int, where an int stands -/
@[simp] def putX (o k x : XV) (c : List SC) (Q : List SC → Prop) : Prop := match o, k, x with
  | .self, .int k, .int v => ∃ m, ixN c.length k = some m ∧ (match c[m]? with
    | some (.int _) => True
    | _ => False) ∧ Q (c.set m (.int v))
  | _, _, _ => False
@[simp] def ysPut (uo uk u : UX) (D : XEnds) (ρ : XEnv) (c : (List SC)) : Prop := u ρ c fun x c1 => uo ρ c1 fun o c2 => uk ρ c2 fun k c3 => putX o k x c3 (D.nx ρ)
section
variable {J : Prop} {X : Cx} {a b e : Expr} {pos : Pos} {ua ub u : UX} {ta tb : UXT} {st : Stmt} {rest : List Stmt} {us vs : UXS}
theorem RX.set {p : Addr} {pl : Nat → Option Addr} {ρ : XEnv} {σ : L2.St} (R : RX p pl ρ σ) {i : Nat} {x : XV} {v : V} (r : Vx p pl x v) : RX p pl (ρ.set i (some x)) (σ.set i (some v)) := by
  refine ⟨by rw [List.length_set, List.length_set]; exact R.1, fun j y h => ?_⟩
  by_cases hij : i = j
  · subst hij
    by_cases hi : i < ρ.length
    · rw [List.getElem?_set_self hi] at h
      cases h
      exact ⟨v, List.getElem?_set_self (by rw [← R.1]; exact hi), r⟩
    · rw [List.getElem?_eq_none (by rw [List.length_set]; omega)] at h
      cases h
  · rw [List.getElem?_set_ne hij] at h ⊢
    exact R.2 j y h
theorem ys_nil : XSs J X [] ysNext := ⟨tNext, pss_nil, fun p pl B D D' ρ σ H c I R h gl => gl.nx ρ σ H c I R h⟩
theorem ys_cons (h1 : XS J X st us) (h2 : XSs J X rest vs) : XSs J X (st :: rest) (ysSeq us vs) := by
  obtain ⟨t1, p1, h1⟩ := h1.ex
  obtain ⟨t2, p2, h2⟩ := h2.ex
  exact ⟨tSeq t1 t2, pss_cons p1 p2, fun p pl B D D' ρ σ H c I R h gl => h1 p pl B { D with nx := vs D } { D' with nx := t2 D' } ρ σ H c I R h
    ⟨fun ρ σ H c I R h => h2 p pl B D D' ρ σ H c I R h gl, gl.rt⟩⟩
theorem ys_one (h1 : XS J X st us) : XSs J X [st] us := by
  obtain ⟨t1, p1, h1⟩ := h1.ex
  exact ⟨t1, pss_one p1, h1⟩
theorem ys_ret (he : XE J X e u) : XS J X (.Return (some e) pos) (ysRet u) := by
  obtain ⟨t, q, h⟩ := he.ex
  exact ⟨_, ps_ret q, fun p pl B D D' ρ σ H c I R hu gl => h p pl B ρ σ H c _ _ I R hu fun v H' e => gl.rt v H' e⟩
theorem ys_if {c : Expr} {x y : List Stmt} (hc : XT J X c ta) (h1 : XSs J X x us) (h2 : XSs J X y vs) : XS J X (.If c x y pos) (ysIf ta us vs) := by
  obtain ⟨t, q, h⟩ := hc.ex
  obtain ⟨t1, p1, h1⟩ := h1.ex
  obtain ⟨t2, p2, h2⟩ := h2.ex
  refine ⟨_, ps_if q p1 p2, fun p pl B D D' ρ σ H c I R hu gl => h p pl B ρ σ H c _ _ I R hu fun k H1 ⟨c1, I1, q1⟩ => ?_⟩
  cases k with
  | true => exact h1 p pl B D D' ρ σ H1 c1 I1 R q1 gl
  | false => exact h2 p pl B D D' ρ σ H1 c1 I1 R q1 gl
theorem ys_asg {i : Nat} {x : Str} {pos' : Pos} (hN : X.N.Nodup) (he : XE J X e u) (hi : X.N[i]? = some x := by rfl) (hx : Loc X.env.scope x := by first | exact Or.inl rfl | exact Or.inr rfl) (hs : swapsWith e (some (.Name x pos')) pos.line X.env = pure false := by rfl)
    (hf : X.fn x = true ∨ X.env.scope.names.lookup x = some .local := by first | exact .inl rfl | exact .inr rfl | assumption) : XS J X (.Assign [.Name x pos'] e pos) (ysAsg i u) := by
  obtain ⟨t, q, h⟩ := he.ex
  exact ⟨_, ps_set hN hi hx q hs hf, fun p pl B D D' ρ σ H c I R hu gl => h p pl B ρ σ H c _ _ I R hu fun v H' ⟨x, c1, I1, r1, q1⟩ => gl.nx _ _ H' c1 I1 (R.set r1) q1⟩
theorem put_ok {p : Addr} {pl : Nat → Option Addr} {B H : Hp} {c : List SC} {o k x : XV} {vo vk v : V} {Q : List SC → Prop} {P : Hp → Prop} (I : XI J p pl B H c) (ro : Vx p pl o vo) (rk : Vx p pl k vk) (rx : Vx p pl x v) (h : putX o k x c Q)
    (hP : ∀ H' c', XI J p pl B H' c' → Q c' → P H') : rSetL vo vk v H P := by
  cases o with
  | self =>
    cases k with
    | int k =>
      cases x with
      | int z =>
        obtain ⟨m, hm, hk, q⟩ := h
        obtain ⟨xs, e1, e2, e3⟩ := I.at_
        cases ro; cases rk; cases rx
        refine ⟨p, xs, k, m, rfl, rfl, e1, by rw [e2]; exact hm, hP _ _ ⟨⟨xs.set m (.int z), upd_same, by rw [List.length_set, List.length_set, e2], fun j y hy => ?_⟩, fun j q' hq' => ?_, I.inj, I.np, fun a o ho n1 n2 n3 => ?_, tt_upd I.tt e1, th_upd I.th⟩ q⟩
        · by_cases hj : m = j
          · subst hj
            by_cases hl : m < c.length
            · rw [List.getElem?_set_self hl] at hy
              cases hy
              show (xs.set m (.int z))[m]? = _
              rw [List.getElem?_set_self (by rw [e2]; exact hl)]
            · rw [List.getElem?_eq_none (by rw [List.length_set]; omega)] at hy
              cases hy
          · rw [List.getElem?_set_ne hj] at hy
            have := e3 j y hy
            cases y with
            | int w =>
              show (xs.set m (.int z))[j]? = _
              rw [List.getElem?_set_ne hj]
              exact this
            | il w =>
              obtain ⟨q', h1, h2, h3⟩ := this
              refine ⟨q', h1, by rw [List.getElem?_set_ne hj]; exact h2, ?_⟩
              rw [upd_ne (fun z => I.np j (by rw [h1, z]))]
              exact h3
        · obtain ⟨l, hl⟩ := I.pl_ j q' hq'
          refine ⟨l, ?_⟩
          rw [List.getElem?_set_ne]
          · exact hl
          · intro z
            subst z
            rw [hl] at hk
            exact hk
        · rw [upd_ne n1]
          exact I.keep a o ho n1 n2 n3
      | _ => exact h.elim
    | _ => exact (by cases x <;> exact h.elim)
  | _ => exact (by cases k <;> cases x <;> exact h.elim)
theorem ys_put {o ek : Expr} {uo uk : UX} {pt : Pos} (he : XE J X a u) (ho : XE J X o uo) (hk : XE J X ek uk)
    (hs : swapsWithSole [.Subscript o ek pt] a pos.line X.env = pure false := by rfl) (hw : swappedStores [.Subscript o ek pt] a X.env = pure none := by rfl)
    (h1 : (assignEach [.Subscript o ek pt] X.env).map (·.2) = [assign (.Subscript o ek pt) X.env] := by rfl)
    (hsub : ∀ v, assign (.Subscript o ek pt) X.env v = (do
      let ov ← holding [v] (eval o X.env)
      let iv ← holding [v, ov] (eval ek X.env)
      standAt pt
      holding [v, ov, iv] (setItem ov iv v)
      release [v, ov, iv] []) := by intro _; rfl) : XS J X (.Assign [.Subscript o ek pt] a pos) (ysPut uo uk u) := by
  obtain ⟨t, q, h⟩ := he.ex
  obtain ⟨tobj, qo, ho⟩ := ho.ex
  obtain ⟨tk, qk, hk⟩ := hk.ex
  refine ⟨_, ps_asg q (pg_sub qo qk set_list hsub) hs hw h1, fun p pl B D D' ρ σ H c I R hu gl => h p pl B ρ σ H c _ _ I R hu fun v H1 ⟨x, c1, I1, r1, q1⟩ => ?_⟩
  refine ho p pl B ρ σ H1 c1 _ _ I1 R q1 fun vo H2 ⟨ox, c2, I2, r2, q2⟩ => ?_
  refine hk p pl B ρ σ H2 c2 _ _ I2 R q2 fun vk H3 ⟨kx, c3, I3, r3, q3⟩ => ?_
  exact put_ok I3 r2 r3 r1 q3 fun H' c' I' q' => gl.nx ρ σ H' c' I' R q'
end

/-! ### the source as the data layer sees it -/
def srcOf (J : Prop) (Inv : List SC → Prop) (T : Addr → Prop) : Src where
  tb := T
  ok := fun H p F => ∃ pl c, XI J p pl (fun _ => none) H c ∧ (∀ a, F a ↔ a = p ∨ ∃ j, pl j = some a) ∧ Inv c
  loc := fun H H' p F hF ⟨pl, c, I, hf, hc⟩ => by
    have kp : ∀ a o, F a → H a = some o → H' a = some o := fun a o f e => by rw [← hF a f]; exact e
    obtain ⟨xs, e1, e2, e3⟩ := I.at_
    refine ⟨pl, c, ⟨⟨xs, kp _ _ ((hf p).mpr (.inl rfl)) e1, e2, fun j k hk => ?_⟩, I.pl_, I.inj, I.np, fun a o z => (by cases z), fun P t => (tab_none t).elim, fun a o z => (by cases z)⟩, hf, hc⟩
    have := e3 j k hk
    cases k with
    | int z => exact this
    | il z =>
      obtain ⟨q', h1, h2, h3⟩ := this
      exact ⟨q', h1, h2, kp _ _ ((hf q').mpr (.inr ⟨j, h1⟩)) h3⟩
  tr := fun H p F a ⟨pl, c, I, hf, hc⟩ fa => by
    obtain ⟨xs, e1, _, _⟩ := I.at_
    rcases (hf a).mp fa with h | ⟨j, h⟩
    · subst h; exact ⟨_, e1⟩
    · obtain ⟨l, hl⟩ := I.pl_ j a h
      exact ⟨_, I.inner hl h⟩
  nt := fun H p F a ys ⟨pl, c, I, hf, hc⟩ fa z => by
    obtain ⟨xs, e1, _, _⟩ := I.at_
    rcases (hf a).mp fa with h | ⟨j, h⟩
    · subst h; rw [e1] at z; cases z
    · obtain ⟨l, hl⟩ := I.pl_ j a h
      rw [I.inner hl h] at z; cases z
  nb := fun H p F a o ⟨pl, c, I, hf, hc⟩ fa z => by
    obtain ⟨xs, e1, _, _⟩ := I.at_
    rcases (hf a).mp fa with h | ⟨j, h⟩
    · subst h; rw [e1] at z; cases z; exact id
    · obtain ⟨l, hl⟩ := I.pl_ j a h
      rw [I.inner hl h] at z; cases z; exact id
/-- a draw: 0 < m, and what comes is from 0 to below m -/
def Draw : Ctr := fun ds R => ∃ m : Int, ds = [.src, .int m] ∧ 0 < m ∧ m.natAbs.log2 < 9000 ∧ ∀ k : Int, 0 ≤ k → k < m → R false (.int k)
theorem draw_of {J : Prop} {Inv : List SC → Prop} {T : Addr → Prop} {P : Program} {w : World} {K : PySem.W.Frag} {mg : Str → Option Value} {base : Heap} {st : Stmt} {x : Str} {f : Addr} {fd : FuncData} {N ps : List Str} {k : Nat} {u : UXS} (F : FunD K x x (defArgs st) (defBody st) (defScope st) [] [] f fd) (m : mg x = some (.ref f)) (sc : FnScope N ps (defScope st)) (h2 : ps.length = 2)
    (hbody : ∀ (cdv : Value) (A : Around) (outer : List Env) (s : Shared) (H : Hp) (E : XK), Room k (A.deeper (envOfC x (defScope st) s.heap.objs.size f cdv)) → XSs J (cxOf CX0 P w K mg base N x (defScope st) f cdv A outer s H E).nox (defBody st) u)
    (hC : ∀ (c : List SC) (m : Int), Inv c → 0 < m → m.natAbs.log2 < 9000 → u { nx := fun _ _ => False, rt := fun x c' => Inv c' ∧ ∃ k : Int, x = .int k ∧ 0 ≤ k ∧ k < m } ([some .self, some (.int m)] ++ List.replicate (N.length - 2) none) c) :
    Cal P w K mg base (srcOf J Inv T) st x (k + 1) ps Draw := by
  refine ⟨f, fd, F, m, F.ok sc (fun vs H Q E h => ?_) (fun cdv A outer s H vs Q E hr h => ?_)⟩
  · obtain ⟨ds, g, R, _, l, ⟨n, rfl, _⟩, _⟩ := h
    rw [l.len, h2]; rfl
  · obtain ⟨ds, g, R, I, l, ⟨n, rfl, hn, hn2, hR⟩, hq⟩ := h
    rw [RepL] at l
    obtain ⟨v, r, rfl, l1, l⟩ := l
    rw [RepL] at l
    obtain ⟨v2, r, rfl, l2, l⟩ := l
    rw [RepL] at l
    subst l
    rw [Rep] at l1
    rw [Rep] at l2
    obtain ⟨rfl, rl⟩ := l1
    subst l2
    obtain ⟨pl, c, XIc, hf, hc⟩ := I.rl ⟨_, rl⟩
    obtain ⟨t, pp, hs⟩ := (hbody cdv A outer s H E hr).ex
    refine ⟨t, PSs.nox pp, hs g.rp pl H _ _ _ _ H c ⟨XIc.at_, XIc.pl_, XIc.inj, XIc.np, fun a o e _ _ _ => e, fun P t => t, fun a o e => ⟨o, e⟩⟩ ⟨by unfold L2.start; simp, fun j y e => ?_⟩ (hC c n hc hn hn2) ⟨fun _ _ _ _ _ _ z => z.elim, fun v H' ⟨x, c', I', rx, hc', k, ek, hk1, hk2⟩ => ?_⟩⟩
    · match j, e with
      | 0, e => cases e; exact ⟨_, rfl, rfl⟩
      | 1, e => cases e; exact ⟨_, rfl, rfl⟩
      | j + 2, e =>
        have e : (List.replicate (N.length - 2) (none : Option XV))[j]? = some (some y) := e
        rw [List.getElem?_replicate] at e
        split at e <;> cases e
    · subst ek
      have ev : v = .int k := rx
      subst ev
      have fr : ∀ a, ¬ g.rl a → a ≠ g.rp ∧ ∀ j, pl j ≠ some a := fun a na => ⟨fun z => na ((hf a).mpr (.inl z)), fun j z => na ((hf a).mpr (.inr ⟨j, z⟩))⟩
      refine hq _ H' ⟨g, false, .int k, ⟨fun _ h => h, fun _ h => .inl h, fun _ h => h, fun _ h => .inl h, fun _ => rfl, fun a o e na nt => I'.keep a o e (fr a na).1 (fr a na).2 nt, I'.th⟩, ⟨fun a ha => ?_, I.dis, fun _ => ⟨pl, c', ⟨I'.at_, I'.pl_, I'.inj, I'.np, fun a o z => (by cases z), fun P t => (tab_none t).elim, fun a o z => (by cases z)⟩, hf, hc'⟩, ⟨fun P hP => I'.tt P (I.tb.1 P hP), fun a o f e => ?_⟩⟩, by show Rep _ _ _ _; rw [Rep], fun z => (by cases z), hR k hk1 hk2⟩
      · obtain ⟨o, e⟩ := I.fz a ha
        exact I'.th a o e
      · have na : ¬ g.rl a := fun q => I.dis a q f
        obtain ⟨o', e'⟩ := I.fz a f
        have nt := I.tb.2 a o' f e'
        have := I'.keep a o' e' (fr a na).1 (fr a na).2 (fun ps z => by rw [z] at nt; exact nt trivial)
        rw [e] at this
        cases this
        exact nt

/-! ### the script as a datum -/
theorem rep_scr {g : G} {H : Hp} {K : PySem.W.Frag} {a : Addr} {ns : List Int} {v : V} (h : Rep g H (.scr K a ns) v) : v = .ref a ∧ ∀ g' H', Up g H g' H' → SqL K H' a (ns.map .int) := by
  rw [Rep] at h
  exact ⟨h.1, fun g' H' u => h.2.elim (fun r => .inl (Rd.up u r.1 r.2)) fun r => r H'⟩
@[simp] def fListS (K : PySem.W.Frag) : D → UK → Prop
  | .scr K' _ ns, Q => K' = K ∧ Q true (.lst (ns.map .int))
  | _, _ => False
@[simp] def fLenS (K : PySem.W.Frag) : D → UK → Prop
  | .scr K' _ ns, Q => K' = K ∧ Q false (.int ns.length)
  | _, _ => False
@[simp] def fSlS (K : PySem.W.Frag) : D → Option Int → Option Int → UK → Prop
  | .scr K' _ ns, lo, hi, Q => K' = K ∧ Q true (.lst (cutD (ns.map .int) lo hi))
  | _, _, _, _ => False
@[simp] def uIterS (K : PySem.W.Frag) (u : UE) (ρ : DEnv) (Q : (List D → Prop)) : Prop := u ρ fun _ d => match d with
  | .scr K' _ ns => K' = K ∧ Q (ns.map .int)
  | _ => False
section
variable {S : Src} {X : Cx} {a e : Expr} {ua u : UE} {p pos : Pos} {us : UA}
theorem lift_listS {K : PySem.W.Frag} : LiftA S (fun xs H Q => ∃ p ys, xs = [.ref p] ∧ (SqL K H p ys ∨ SqT K H p ys) ∧ ∀ l, H l = none → Q (.ref l) (upd H l (.lst ys))) (fA1 (fListS K)) := by
  refine lift_A1 fun g H x dx Q P I rx h hP => ?_
  cases dx with
  | scr K' a ns =>
    obtain ⟨rfl, r⟩ := rep_scr rx
    obtain ⟨rfl, h⟩ := h
    exact ⟨a, _, rfl, .inl (r g H (Up.refl g H)), fun p hp => hP _ _ (EPost.newL I hp (RepL.ofInts ns) h)⟩
  | _ => exact (show False from h).elim
theorem lift_lenS {K : PySem.W.Frag} : LiftA S (fun xs H Q => ∃ x n, xs = [x] ∧ LenV K x H n ∧ Q (.int n) H) (fA1 (fLenS K)) := by
  refine lift_A1 fun g H x dx Q P I rx h hP => ?_
  cases dx with
  | scr K' a ns =>
    obtain ⟨rfl, r⟩ := rep_scr rx
    obtain ⟨rfl, h⟩ := h
    refine ⟨_, _, rfl, .inl ⟨_, r g H (Up.refl g H), rfl⟩, ?_⟩
    rw [List.length_map]
    exact hP _ _ (EPost.val (d := .int ns.length) I (by rw [Rep]) h)
  | _ => exact (show False from h).elim
theorem je_listS (hm : X.mg "list" = none) (ha : JA S X [a] us) (hg : Gl X "list" := by rfl) (hs : starEach [a] X.env = (false, eval a X.env) :: starEach [] X.env := by rfl) (hp : (backTo pos (starEach [] X.env)).any (·.1) = false := by rfl) : JE S X (.Call (.Name "list" p) [a] [] pos) (uF (fA1 (fListS X.K)) us) := je_callTy call_list_of lift_listS hg hm (by decide +kernel) ha (by decide) (by decide) hs hp
theorem je_lenS (hm : X.mg "len" = none) (ha : JA S X [a] us) (hg : Gl X "len" := by rfl) (hs : starEach [a] X.env = (false, eval a X.env) :: starEach [] X.env := by rfl) (hp : (backTo pos (starEach [] X.env)).any (·.1) = false := by rfl) : JE S X (.Call (.Name "len" p) [a] [] pos) (uF (fA1 (fLenS X.K)) us) := je_callB call_len lift_lenS hg hm PySem.boot_len ha (by decide) (by decide) hs hp
theorem je_sliceS {lo hi : Option Expr} {ul uh : UO} {p2 : Pos} (h : JE S X e u) (hl : JO S X lo ul) (hh : JO S X hi uh) : JE S X (.Subscript e (.Slice lo hi none p2) pos) (fun ρ Q => u ρ fun _ x => ul ρ fun lo => uh ρ fun hi => fSlS X.K x lo hi Q) := by
  obtain ⟨t, p, h⟩ := h.ex
  obtain ⟨tl, pl, hl⟩ := hl.ex
  obtain ⟨th, ph, hh⟩ := hh.ex
  refine ⟨_, pe_slice (sl_list.or sl_tupA) p pl ph, fun ρ σ g H Q P I R hu hP => h ρ σ g H _ _ I R hu fun v H1 e => ?_⟩
  obtain ⟨g1, d, s1, I1, r1, _, q1⟩ := e.rep
  refine hl ρ σ g1 H1 _ _ I1 (R.step I s1) q1 fun o H2 e2 => ?_
  obtain ⟨g2, s2, I2, q2⟩ := e2
  refine hh ρ σ g2 H2 _ _ I2 ((R.step I s1).step I1 s2) q2 fun o2 H3 e3 => ?_
  obtain ⟨g3, s3, I3, q3⟩ := e3
  have s13 : Step g H g3 H3 := (s1.trans s2).trans s3
  have r3 := (r1.step I1 s2).step I2 s3
  cases d with
  | scr K' a ns =>
    obtain ⟨rfl, r⟩ := rep_scr r3
    obtain ⟨rfl, q3⟩ := q3
    exact .inl ⟨a, _, rfl, r g3 H3 (Up.refl g3 H3), fun p hp => hP _ _ ((EPost.newL I3 hp ((RepL.ofInts ns).cut o o2) q3).after s13)⟩
  | _ => exact (show False from q3).elim
theorem ji_scr {tg : Expr} (h : JE S X e u) : JI S X tg e (uIterS X.K u) := by
  obtain ⟨t, p, h⟩ := h.ex
  refine ⟨iSeq X.K t, pi_seq p, fun ρ σ g H Q R I RS hu hR => h ρ σ g H _ _ I RS hu fun v H1 e => ?_⟩
  obtain ⟨g1, d, s1, I1, r1, _, q1⟩ := e.rep
  cases d with
  | scr K' a ns =>
    obtain ⟨rfl, r⟩ := rep_scr r1
    obtain ⟨rfl, q1⟩ := q1
    refine .inl ⟨a, rfl, ⟨_, r g1 H1 (Up.refl _ _)⟩, hR _ _ g1 _ s1 I1 ⟨fun i g' H' u I' hi => ?_, fun i g' H' u I' hi => ⟨_, r g' H' u, by simpa using hi⟩, fun i g' H' x H'' d u I' hd y => ?_⟩ q1⟩
    · have hi' : i < (ns.map V.int).length := by simpa using hi
      exact ⟨_, (ns.map V.int)[i], r g' H' u, List.getElem?_eq_getElem hi'⟩
    · obtain ⟨e, y⟩ := y
      have := y _ (r g' H' u)
      subst e
      rw [List.getElem?_map] at hd this
      cases hn : ns[i]? with
      | none => rw [hn] at hd; cases hd
      | some z =>
        rw [hn] at hd this
        cases hd; cases this
        exact ⟨g', Step.refl _ _, I', by rw [Rep]⟩
  | _ => exact (show False from q1).elim
end
end DL

/-! DLLaw: a law's def: its first statement lays the source from the script, the rest is read over data. -/
namespace DL
open PySem PySem.Spec PyProof.Rows L2
def scD : SC → D
  | .int i => .int i
  | .il l => .lst (l.map .int)
theorem RepL.sc {g : G} {H : Hp} : ∀ {c : List SC} {xs : List V}, RepL g H (c.map scD) xs → ∀ (j : Nat) (k : SC), c[j]? = some k → match k with
    | .int i => xs[j]? = some (.int i)
    | .il l => ∃ q, xs[j]? = some (.ref q) ∧ H q = some (.lst (l.map .int)) ∧ g.fz q := by
  intro c xs h j k hk
  obtain ⟨v, hv, r⟩ := h.get (i := j) (d := scD k) (by rw [List.getElem?_map, hk]; rfl)
  cases k with
  | int i =>
    have r : Rep g H (.int i) v := r
    rw [Rep] at r; subst r
    exact hv
  | il l =>
    have r : Rep g H (.lst (l.map .int)) v := r
    rw [Rep] at r
    obtain ⟨a, ys, rfl, ⟨h1, h2⟩, l1⟩ := r
    have := l1.ints
    subst this
    exact ⟨a, hv, h1, h2⟩
def plOf (c : List SC) (xs : List V) (j : Nat) : Option Addr := match c[j]?, xs[j]? with
  | some (.il _), some (.ref q) => some q
  | _, _ => none
theorem plOf_some {c : List SC} {xs : List V} {j : Nat} {q : Addr} (h : plOf c xs j = some q) : ∃ l, c[j]? = some (.il l) ∧ xs[j]? = some (.ref q) := by
  unfold plOf at h
  split at h
  · rename_i l q' e1 e2
    cases h
    exact ⟨l, e1, e2⟩
  · cases h
theorem xi_of {J : Prop} {g : G} {H : Hp} {p : Addr} {c : List SC} {xs : List V} (l : RepL g H (c.map scD) xs) (hp : H p = some (.lst xs)) (hn : ¬ g.fz p) (hJ : J → ∀ (i j : Nat) (l : List Int), c[i]? = some (SC.il l) → c[j]? = some (SC.il l) → i = j) : XI J p (plOf c xs) (fun _ => none) H c where
  at_ := ⟨xs, hp, by rw [l.len, List.length_map], fun j k hk => by
    have := l.sc j k hk
    cases k with
    | int i => exact this
    | il l =>
      obtain ⟨q, h1, h2, _⟩ := this
      exact ⟨q, by unfold plOf; rw [hk, h1], h1, h2⟩⟩
  pl_ := fun j q h => by
    obtain ⟨l, h1, _⟩ := plOf_some h
    exact ⟨l, h1⟩
  inj := fun z i j q h1 h2 => by
    obtain ⟨l1, a1, b1⟩ := plOf_some h1
    obtain ⟨l2, a2, b2⟩ := plOf_some h2
    obtain ⟨q1, c1, d1, _⟩ := l.sc i _ a1
    obtain ⟨q2, c2, d2, _⟩ := l.sc j _ a2
    rw [b1] at c1; cases c1
    rw [b2] at c2; cases c2
    rw [d1] at d2
    have d2 : l1.map V.int = l2.map V.int := by injection d2 with d2; injection d2
    have : l1 = l2 := List.map_inj_right (fun a b h => by cases h; rfl) |>.mp d2
    subst this
    exact hJ z i j l1 a1 a2
  np := fun j h => by
    obtain ⟨l1, a1, b1⟩ := plOf_some h
    obtain ⟨q1, c1, d1, f1⟩ := l.sc j _ a1
    rw [b1] at c1; cases c1
    exact hn f1
  keep := fun a o z => by cases z
  tt := fun P t => (tab_none t).elim
  th := fun a o z => by cases z
theorem only_src {n i j : Nat} {x : Bool × D} (e : ((List.replicate n (none : Option (Bool × D))).set i (some (false, .src)))[j]? = some (some x)) : i = j ∧ x = (false, .src) := by
  by_cases hij : i = j
  · subst hij
    by_cases hl : i < n
    · rw [List.getElem?_set_self (by simpa using hl)] at e; cases e; exact ⟨rfl, rfl⟩
    · rw [List.getElem?_eq_none (by simp; omega)] at e; cases e
  · rw [List.getElem?_set_ne hij, List.getElem?_replicate] at e
    split at e <;> cases e
theorem only_len {n i : Nat} {x : Option (Bool × D)} (e : ((List.replicate n (none : Option (Bool × D))).set i (some (false, .src)))[i]? = some x) : i < n := by
  have := (List.getElem?_eq_some_iff.mp e).1
  simpa using this
def law_rhs : List Stmt → Expr
  | .Assign _ e _ :: _ => e
  | _ => .Constant .none 0 ⟨0, 0, 0, 0⟩
def LawSp (n : Nat) (K : PySem.W.Frag) (T : Addr → Prop) : Sp := fun vs H Q _ => ∃ (a : Addr) (ns : List Int), vs = [.ref a] ∧ ns.length ≤ n ∧ SqL K H a (ns.map .int) ∧ (∀ P, T P → GX.Tab H P) ∧ ∀ H', Q (.bl true) H'
/-- THE RULE for a law's def: x = e lays the source, the rest is read over data and returns True -/
theorem law_okC {J : Prop} {Inv : List SC → Prop} {T : Addr → Prop} {P : Program} {w : World} {K : PySem.W.Frag} {mg : Str → Option Value} {base : Heap} {st : Stmt} {x : Str} {f : Addr} {fd : FuncData} {N : List Str} {sv : Str} {k i n : Nat} {st1 : Stmt} {e : Expr} {rest : List Stmt} {ue : UE} {ub : US} (F : FunD K x x (defArgs st) (defBody st) (defScope st) [] [] f fd) (sc : FnScope N [sv] (defScope st))
    (hb : defBody st = st1 :: rest)
    (hset : ∀ (cdv : Value) (A : Around) (outer : List Env) (s : Shared) (H : Hp) (E : XK) (t : TE), PE (cxOf CX0 P w K mg base N x (defScope st) f cdv A outer s H E).nox e t → PS (cxOf CX0 P w K mg base N x (defScope st) f cdv A outer s H E).nox st1 (tAsg t (gName i)))
    (hbody : ∀ (cdv : Value), fd.code = cdv → ∀ (A : Around) (outer : List Env) (s : Shared) (H : Hp) (E : XK), Room k (A.deeper (envOfC x (defScope st) s.heap.objs.size f cdv)) → JE (srcOf J Inv T) (cxOf CX0 P w K mg base N x (defScope st) f cdv A outer s H E).nox e ue ∧ JSs (srcOf J Inv T) (cxOf CX0 P w K mg base N x (defScope st) f cdv A outer s H E).nox rest ub)
    (hC : ∀ (a : Addr) (ns : List Int), ns.length ≤ n → ue (startD N [.scr K a ns]) fun t d => t = true ∧ ∃ c : List SC, d = .lst (c.map scD) ∧ Inv c ∧ (J → ∀ (i j : Nat) (l : List Int), c[i]? = some (SC.il l) → c[j]? = some (SC.il l) → i = j) ∧
      ub { nx := fun _ => False, rt := fun t d => t = false ∧ d = .bl true } ((List.replicate N.length none).set i (some (false, .src)))) (hN : 0 < N.length) :
    FnOk P w K mg base CX0 (k + 1) f fd [sv] (LawSp n K T) := by
  refine okC F sc (fun vs H Q E h => ?_) (fun cdv hcd A outer s H vs Q E hr h => ?_)
  · obtain ⟨a, ns, rfl, _⟩ := h
    rfl
  · obtain ⟨a, ns, rfl, hn, hS, hTab, hq⟩ := h
    obtain ⟨⟨te, pe, he⟩, ⟨tb, pb, hbd⟩⟩ := hbody cdv hcd A outer s H E hr
    have hs : PSs (cxOf CX0 P w K mg base N x (defScope st) f cdv A outer s H E).nox (defBody st) (tSeq (tAsg te (gName i)) tb) := by
      rw [hb]
      exact pss_cons (hset cdv A outer s H E te pe) pb
    refine ⟨_, PSs.nox hs, ?_⟩
    let g0 : G := ⟨fun b => b = a ∧ Rd H a (.lst (ns.map .int)), fun _ => False, a⟩
    have I0 : HInv (srcOf J Inv T) g0 H := ⟨fun b hb => by
      obtain ⟨rfl, h | ⟨o, h⟩⟩ := hb
      · exact ⟨_, h⟩
      · exact ⟨_, h⟩, fun b h => h.elim, fun ⟨b, h⟩ => h.elim, hTab, fun b o hb e => by
      obtain ⟨rfl, h | ⟨o', h⟩⟩ := hb
      · rw [h] at e; cases e; exact id
      · rw [h] at e; cases e; exact id⟩
    have rep0 : RepL g0 H [.scr K a ns] [.ref a] := RepL.cons (by
      rw [Rep]
      refine ⟨rfl, ?_⟩
      rcases hS with h | h
      · exact .inl ⟨h, rfl, h⟩
      · exact .inr fun H' => .inr h) RepL.nil
    have S0 := start_inv (N := N) I0 rep0
    show te _ H _
    refine he _ _ g0 H _ _ I0 ⟨S0.len, fun i t d e => ?_⟩ (hC a ns hn) fun v H1 ep => ?_
    · cases t with
      | false => exact S0.imm i d e
      | true =>
        obtain ⟨_, _, _, _, _, h, hn, _⟩ := S0.own i d e
        rw [h] at hn; cases hn
    obtain ⟨g', t, d, s1, I1, r1, f1, rfl, c, rfl, hc, hJ, hu⟩ := ep.ex
    obtain ⟨p, xs, ds, rfl, ed, hp, n1, n2, l⟩ := r1
    cases ed
    have xi := xi_of (J := J) l hp n1 hJ
    let g1 : G := ⟨fun _ => False, fun b => b = p ∨ ∃ j, plOf c xs j = some b, p⟩
    have I2 : HInv (srcOf J Inv T) g1 H1 := ⟨fun b h => h.elim, fun b _ h => h, fun _ => ⟨plOf c xs, c, xi, fun b => Iff.rfl, hc⟩, I1.tb.1, fun b o h => h.elim⟩
    refine hbd g1 H1 g1 H1 _ _ _ _ ⟨Step.refl _ _, I2, ?_, fun j d e => ?_, fun i j d e b h1 => ?_, fun j d e => ?_⟩ hu ⟨fun g' H' ρ' σ' I' q => q.elim, fun g' H' v t d st hi r f q => ?_, fun _ _ _ _ _ q => q.elim, fun _ _ _ _ _ q => q.elim⟩
    · unfold L2.start; simp; omega
    · obtain ⟨_, z⟩ := only_src e; cases z
    · obtain ⟨_, z⟩ := only_src h1; cases z
    · obtain ⟨rfl, z⟩ := only_src e
      cases z
      have hi := only_len e
      exact ⟨.ref p, List.getElem?_set_self (by unfold L2.start; simp; omega), by rw [Rep]; exact ⟨rfl, .inl rfl⟩⟩
    · obtain ⟨rfl, rfl⟩ := q
      have r : Rep g' H' (.bl true) v := r
      rw [Rep] at r
      subst r
      exact hq H'
theorem law_ok {J : Prop} {Inv : List SC → Prop} {T : Addr → Prop} {P : Program} {w : World} {K : PySem.W.Frag} {mg : Str → Option Value} {base : Heap} {st : Stmt} {x : Str} {f : Addr} {fd : FuncData} {N : List Str} {sv : Str} {k i n : Nat} {st1 : Stmt} {e : Expr} {rest : List Stmt} {ue : UE} {ub : US} (F : FunD K x x (defArgs st) (defBody st) (defScope st) [] [] f fd) (sc : FnScope N [sv] (defScope st))
    (hb : defBody st = st1 :: rest)
    (hset : ∀ (cdv : Value) (A : Around) (outer : List Env) (s : Shared) (H : Hp) (E : XK) (t : TE), PE (cxOf CX0 P w K mg base N x (defScope st) f cdv A outer s H E).nox e t → PS (cxOf CX0 P w K mg base N x (defScope st) f cdv A outer s H E).nox st1 (tAsg t (gName i)))
    (hbody : ∀ (cdv : Value) (A : Around) (outer : List Env) (s : Shared) (H : Hp) (E : XK), Room k (A.deeper (envOfC x (defScope st) s.heap.objs.size f cdv)) → JE (srcOf J Inv T) (cxOf CX0 P w K mg base N x (defScope st) f cdv A outer s H E).nox e ue ∧ JSs (srcOf J Inv T) (cxOf CX0 P w K mg base N x (defScope st) f cdv A outer s H E).nox rest ub)
    (hC : ∀ (a : Addr) (ns : List Int), ns.length ≤ n → ue (startD N [.scr K a ns]) fun t d => t = true ∧ ∃ c : List SC, d = .lst (c.map scD) ∧ Inv c ∧ (J → ∀ (i j : Nat) (l : List Int), c[i]? = some (SC.il l) → c[j]? = some (SC.il l) → i = j) ∧
      ub { nx := fun _ => False, rt := fun t d => t = false ∧ d = .bl true } ((List.replicate N.length none).set i (some (false, .src)))) (hN : 0 < N.length) :
    FnOk P w K mg base CX0 (k + 1) f fd [sv] (LawSp n K T) :=
  law_okC F sc hb hset (fun cdv _ A outer s H E hr => hbody cdv A outer s H E hr) hC hN
end DL

/-! DLAux: weaker readings (fewer names known, less wanted), loops by invariants, comprehensions by relations. -/
namespace DL
open PySem PySem.Spec PyProof.Rows L2

/-- fewer names known -/
@[simp] def Le : DEnv → DEnv → Prop
  | [], [] => True
  | none :: r, _ :: s => Le r s
  | some x :: r, y :: s => y = some x ∧ Le r s
  | _, _ => False
theorem Le.len : ∀ {ρ ρ' : DEnv}, Le ρ ρ' → ρ.length = ρ'.length
  | [], [], _ => rfl
  | none :: r, y :: s, h => by
    rw [Le] at h
    rw [List.length_cons, List.length_cons, Le.len h]
  | some x :: r, y :: s, h => by
    rw [Le] at h
    rw [List.length_cons, List.length_cons, Le.len h.2]
  | [], _ :: _, h => h.elim
  | _ :: _, [], h => by rename_i a _; cases a <;> exact h.elim
theorem Le.get : ∀ {ρ ρ' : DEnv} {i : Nat} {x : Bool × D}, Le ρ ρ' → ρ[i]? = some (some x) → ρ'[i]? = some (some x)
  | [], _, i, x, _, e => by simp at e
  | none :: r, [], i, x, h, e => h.elim
  | some _ :: r, [], i, x, h, e => h.elim
  | none :: r, y :: s, i, x, h, e => by
    rw [Le] at h
    cases i with
    | zero => simp at e
    | succ i => exact Le.get (i := i) h e
  | some z :: r, y :: s, i, x, h, e => by
    rw [Le] at h
    cases i with
    | zero => simp at e; subst e; rw [h.1]; rfl
    | succ i => exact Le.get (i := i) h.2 e
theorem Le.refl : ∀ ρ : DEnv, Le ρ ρ
  | [] => trivial
  | none :: r => Le.refl r
  | some x :: r => ⟨rfl, Le.refl r⟩
section
variable {S : Src} {X : Cx} {g0 g : G} {B H : Hp} {ρ ρ' : DEnv} {σ : L2.St}
theorem SInv.le (I : SInv S g0 B g H ρ σ) (h : Le ρ' ρ) : SInv S g0 B g H ρ' σ :=
  ⟨I.st, I.hi, h.len.trans I.len, fun i d e => I.own i d (h.get e), fun i j d e a h1 h2 => I.inj i j d e a (h.get h1) (h.get h2), fun i d e => I.imm i d (h.get e)⟩
/-- less wanted -/
structure ULe (D D' : UEnds) : Prop where
  nx : ∀ ρ, D.nx ρ → D'.nx ρ
  rt : ∀ t d, D.rt t d → D'.rt t d
  bk : ∀ ρ, D.bk ρ → D'.bk ρ
  ct : ∀ ρ, D.ct ρ → D'.ct ρ
theorem ULe.refl (D : UEnds) : ULe D D := ⟨fun _ h => h, fun _ _ h => h, fun _ h => h, fun _ h => h⟩
def sBody (u : US) : US := fun D ρ => ∃ D0 ρ1, Le ρ1 ρ ∧ ULe D0 D ∧ u D0 ρ1
theorem Glue.le {D0 D : UEnds} {D' : Ends} (gl : Glue S g0 B D D') (h : ULe D0 D) : Glue S g0 B D0 D' :=
  ⟨fun g H ρ σ I q => gl.nx g H ρ σ I (h.nx ρ q), fun g H v t d s i r f q => gl.rt g H v t d s i r f (h.rt t d q), fun g H ρ σ I q => gl.bk g H ρ σ I (h.bk ρ q), fun g H ρ σ I q => gl.ct g H ρ σ I (h.ct ρ q)⟩
theorem jss_body {st : List Stmt} {u : US} (h : JSs S X st u) : JSs S X st (sBody u) := by
  obtain ⟨t, p, h⟩ := h.ex
  refine ⟨t, p, fun g0 B g H ρ σ D D' I ⟨D0, ρ1, hl, hD, hu⟩ gl => ?_⟩
  exact h g0 B g H ρ1 σ D0 D' (I.le hl) hu (gl.le hD)
theorem js_body {st : Stmt} {u : US} (h : JS S X st u) : JS S X st (sBody u) := by
  obtain ⟨t, p, h⟩ := h.ex
  refine ⟨t, p, fun g0 B g H ρ σ D D' I ⟨D0, ρ1, hl, hD, hu⟩ gl => ?_⟩
  exact h g0 B g H ρ1 σ D0 D' (I.le hl) hu (gl.le hD)
def uMon (u : UE) : UE := fun ρ Q => ∃ Q0 : UK, (∀ t d, Q0 t d → Q t d) ∧ u ρ Q0
def tMon (u : UT) : UT := fun ρ Q => ∃ Q0 : Bool → Prop, (∀ b, Q0 b → Q b) ∧ u ρ Q0
theorem EPost.mono {Q Q' : UK} {v : V} {H' : Hp} (h : ∀ t d, Q t d → Q' t d) (e : EPost S g H Q v H') : EPost S g H Q' v H' := by
  obtain ⟨g', t, d, s, i, r, f, q⟩ := e
  exact ⟨g', t, d, s, i, r, f, h t d q⟩
theorem je_mon {e : Expr} {u : UE} (h : JE S X e u) : JE S X e (uMon u) := by
  obtain ⟨t, p, h⟩ := h.ex
  exact ⟨t, p, fun ρ σ g H Q P I R ⟨Q0, h0, hu⟩ hP => h ρ σ g H Q0 P I R hu fun v H' e => hP v H' (e.mono h0)⟩
theorem jt_mon {e : Expr} {u : UT} (h : JT S X e u) : JT S X e (tMon u) := by
  obtain ⟨t, p, h⟩ := h.ex
  exact ⟨t, p, fun ρ σ g H Q P I R ⟨Q0, h0, hu⟩ hP => h ρ σ g H Q0 P I R hu fun v H' ⟨g', s, i, q⟩ => hP v H' ⟨g', s, i, h0 v q⟩⟩
end
/-- THE RULE for a loop: an invariant over what must be known -/
theorem loop_inv {gt : UG} {ub : US} (I : Nat → DEnv → Prop) {ds : List D} {E : UEnds} {ρ : DEnv} (h0 : ∃ ρ1, Le ρ1 ρ ∧ I 0 ρ1)
    (hs : ∀ (n : Nat) (d : D) (ρ1 : DEnv), ds[n]? = some d → I n ρ1 → ∃ L, gt d = some L ∧ ∀ K : UEnds, (∀ ρ ρ2, Le ρ2 ρ → I (n + 1) ρ2 → K.nx ρ) → (∀ ρ ρ2, Le ρ2 ρ → I (n + 1) ρ2 → K.ct ρ) → K.rt = E.rt → K.bk = E.nx → ub K (setAll ρ1 (dset L)))
    (h1 : ∀ ρ ρ1, Le ρ1 ρ → I ds.length ρ1 → E.nx ρ) : loopU gt (sBody ub) ds E ρ := by
  have go : ∀ (r pre : List D) (ρ : DEnv), ds = pre ++ r → (∃ ρ1, Le ρ1 ρ ∧ I pre.length ρ1) → loopU gt (sBody ub) r E ρ := by
    intro r
    induction r with
    | nil =>
      intro pre ρ e ⟨ρ1, hl, hi⟩
      rw [List.append_nil] at e
      subst e
      exact h1 ρ ρ1 hl hi
    | cons d r ih =>
      intro pre ρ e ⟨ρ1, hl, hi⟩
      obtain ⟨L, hg, hb⟩ := hs pre.length d ρ1 (by rw [e]; simp) hi
      unfold loopU
      rw [hg]
      have ih' : ∀ ρ ρ2, Le ρ2 ρ → I (pre.length + 1) ρ2 → loopU gt (sBody ub) r E ρ := fun ρ ρ2 h2 i2 =>
        ih (pre ++ [d]) ρ (by rw [e, List.append_assoc]; rfl) ⟨ρ2, h2, by rw [List.length_append]; exact i2⟩
      refine ⟨_, setAll ρ1 (dset L), le_setAll L hl, ULe.refl _, hb _ (fun ρ ρ2 h2 i2 => ih' ρ ρ2 h2 i2) (fun ρ ρ2 h2 i2 => ih' ρ ρ2 h2 i2) rfl rfl⟩
  exact go ds [] ρ rfl h0
where
  le_set {ρ1 ρ : DEnv} (i : Nat) (x : Bool × D) (h : Le ρ1 ρ) : Le (ρ1.set i (some x)) (ρ.set i (some x)) := by
    induction ρ1 generalizing ρ i with
    | nil =>
      cases ρ with
      | nil => exact h
      | cons _ _ => exact h.elim
    | cons a r ih =>
      cases ρ with
      | nil => cases a <;> exact h.elim
      | cons b s =>
        cases i with
        | zero =>
          cases a with
          | none => rw [Le] at h; exact ⟨rfl, h⟩
          | some z => rw [Le] at h; exact ⟨rfl, h.2⟩
        | succ i =>
          cases a with
          | none => rw [Le] at h; exact ih i h
          | some z => rw [Le] at h; exact ⟨h.1, ih i h.2⟩
  le_setAll (L : List (Nat × D)) {ρ1 ρ : DEnv} (h : Le ρ1 ρ) : Le (setAll ρ1 (dset L)) (setAll ρ (dset L)) := by
    induction L generalizing ρ1 ρ with
    | nil => exact h
    | cons p L ih => exact ih (le_set p.1 (false, p.2) h)
/-- a comprehension that gives one thing for each -/
theorem lc_rel {ρ : DEnv} {gt : UG} {ut : UT} {ue : UE} {ds : List D} {K : List D → Prop} (p : D → Bool) (R : Nat → D → Prop)
    (hg : ∀ n d, ds[n]? = some d → ∃ L, gt d = some L ∧ (∀ Q : Bool → Prop, Q (p d) → ut (setAll ρ (dset L)) Q) ∧ (p d = true → ∀ Q : UK, (∀ t y, R n y → Q t y) → ue (setAll ρ (dset L)) Q))
    (hk : ∀ ys : List D, (∀ y ∈ ys, ∃ n d, ds[n]? = some d ∧ p d = true ∧ R n y) → ((∀ d ∈ ds, p d = true) → ys.length = ds.length ∧ ∀ n y, ys[n]? = some y → R n y) → K ys) : lcU ρ gt ut ue ds [] K := by
  have go : ∀ (r pre ys : List D), ds = pre ++ r → (∀ y ∈ ys, ∃ n d, ds[n]? = some d ∧ p d = true ∧ R n y) → ((∀ d ∈ pre, p d = true) → ys.length = pre.length ∧ ∀ n y, ys[n]? = some y → R n y) → lcU ρ gt ut ue r ys K := by
    intro r
    induction r with
    | nil =>
      intro pre ys e h1 h2
      rw [List.append_nil] at e
      subst e
      exact hk ys h1 h2
    | cons d r ih =>
      intro pre ys e h1 h2
      have hd : ds[pre.length]? = some d := by rw [e]; simp
      obtain ⟨L, hgd, ht, he⟩ := hg _ d hd
      unfold lcU
      rw [hgd]
      refine ht _ ?_
      cases hp : p d with
      | true =>
        rw [if_pos rfl]
        refine he hp _ fun t y hy => ih (pre ++ [d]) (ys ++ [y]) (by rw [e, List.append_assoc]; rfl) (fun z hz => ?_) (fun hall => ?_)
        · rcases List.mem_append.mp hz with hz | hz
          · exact h1 z hz
          · rw [List.mem_singleton] at hz; subst hz
            exact ⟨_, d, hd, hp, hy⟩
        · obtain ⟨q1, q2⟩ := h2 fun d hd => hall d (List.mem_append_left _ hd)
          refine ⟨by simp [q1], fun n z hz => ?_⟩
          by_cases hn : n < ys.length
          · rw [List.getElem?_append_left hn] at hz
            exact q2 n z hz
          · rw [List.getElem?_append_right (by omega)] at hz
            have : n - ys.length = 0 := by
              cases hh : n - ys.length with
              | zero => rfl
              | succ m => rw [hh] at hz; simp at hz
            rw [this] at hz
            simp at hz; subst hz
            have : n = pre.length := by omega
            rw [this]; exact hy
      | false =>
        rw [if_neg (by simp)]
        exact ih (pre ++ [d]) ys (by rw [e, List.append_assoc]; rfl) h1 (fun hall => by
          have := hall d (by simp)
          rw [hp] at this; cases this)
  exact go ds [] [] rfl (fun y hy => by simp at hy) (fun _ => ⟨rfl, fun n y hy => by simp at hy⟩)
/-- a comprehension over data that is computed -/
theorem lc_fun {ρ : DEnv} {gt : UG} {ut : UT} {ue : UE} {ds : List D} {K : List D → Prop} (p : D → Bool) (f : D → D)
    (hg : ∀ d ∈ ds, ∃ L, gt d = some L ∧ (∀ Q : Bool → Prop, Q (p d) → ut (setAll ρ (dset L)) Q) ∧ (p d = true → ∀ Q : UK, (∀ t, Q t (f d)) → ue (setAll ρ (dset L)) Q))
    (hk : K ((ds.filter p).map f)) : lcU ρ gt ut ue ds [] K := by
  have go : ∀ (r ys : List D), (∀ d ∈ r, d ∈ ds) → K (ys ++ (r.filter p).map f) → lcU ρ gt ut ue r ys K := by
    intro r
    induction r with
    | nil => intro ys _ h; simpa [lcU] using h
    | cons d r ih =>
      intro ys hm h
      obtain ⟨L, hgd, ht, he⟩ := hg d (hm d (by simp))
      unfold lcU
      rw [hgd]
      refine ht _ ?_
      cases hp : p d with
      | true =>
        rw [if_pos rfl]
        refine he hp _ fun t => ih _ (fun d hd => hm d (by simp [hd])) ?_
        rw [List.filter_cons, if_pos hp, List.map_cons] at h
        simpa using h
      | false =>
        rw [if_neg (by simp)]
        refine ih _ (fun d hd => hm d (by simp [hd])) ?_
        rw [List.filter_cons, if_neg (by simp [hp])] at h
        exact h
  exact go ds [] (fun _ h => h) (by simpa using hk)
/-- a contract that nothing meets -/
theorem cal_false {S : Src} {P : Program} {w : World} {K : PySem.W.Frag} {mg : Str → Option Value} {base : Heap} {st : Stmt} {x : Str} {f : Addr} {fd : FuncData} {N ps : List Str} {k : Nat} (F : FunD K x x (defArgs st) (defBody st) (defScope st) [] [] f fd) (m : mg x = some (.ref f)) (sc : FnScope N ps (defScope st)) {C : Ctr} (hC : ∀ ds R, ¬ C ds R) : Cal P w K mg base S st x (k + 1) ps C := by
  refine ⟨f, fd, F, m, F.ok sc (fun vs H Q E h => ?_) (fun cdv A outer s H vs Q E hr h => ?_)⟩
  · obtain ⟨ds, g, R, _, l, hc, _⟩ := h
    exact (hC _ _ hc).elim
  · obtain ⟨ds, g, R, _, l, hc, _⟩ := h
    exact (hC _ _ hc).elim
end DL

/-! DLAux2: loops by what is left. -/
namespace DL
open PySem PySem.Spec PyProof.Rows L2
theorem sz : sizeLine = 16777216 := by decide
/-- THE RULE for a loop: an invariant over what is left -/
theorem loop_map {α : Type} {gt : UG} {ub : US} (f : α → D) (I : List α → DEnv → Prop) {l : List α} {E : UEnds} {ρ : DEnv} (h0 : ∃ ρ1, Le ρ1 ρ ∧ I l ρ1)
    (hs : ∀ (a : α) (r : List α) (ρ1 : DEnv), a ∈ l → I (a :: r) ρ1 → ∃ L, gt (f a) = some L ∧ ∀ K : UEnds, (∀ ρ ρ2, Le ρ2 ρ → I r ρ2 → K.nx ρ) → (∀ ρ ρ2, Le ρ2 ρ → I r ρ2 → K.ct ρ) → K.rt = E.rt → K.bk = E.nx → ub K (setAll ρ1 (dset L)))
    (h1 : ∀ ρ ρ1, Le ρ1 ρ → I [] ρ1 → E.nx ρ) : loopU gt (sBody ub) (l.map f) E ρ := by
  have go : ∀ (r : List α) (ρ : DEnv), (∀ a ∈ r, a ∈ l) → (∃ ρ1, Le ρ1 ρ ∧ I r ρ1) → loopU gt (sBody ub) (r.map f) E ρ := by
    intro r
    induction r with
    | nil => intro ρ _ ⟨ρ1, hl, hi⟩; exact h1 ρ ρ1 hl hi
    | cons a r ih =>
      intro ρ hm ⟨ρ1, hl, hi⟩
      obtain ⟨L, hg, hb⟩ := hs a r ρ1 (hm a (by simp)) hi
      rw [List.map_cons]
      unfold loopU
      rw [hg]
      have ih' : ∀ ρ ρ2, Le ρ2 ρ → I r ρ2 → loopU gt (sBody ub) (r.map f) E ρ := fun ρ ρ2 h2 i2 => ih ρ (fun a ha => hm a (by simp [ha])) ⟨ρ2, h2, i2⟩
      exact ⟨_, setAll ρ1 (dset L), loop_inv.le_setAll L hl, ULe.refl _, hb _ ih' ih' rfl rfl⟩
  exact go l ρ (fun _ h => h) h0
theorem loop_list {gt : UG} {ub : US} (I : List D → DEnv → Prop) {l : List D} {E : UEnds} {ρ : DEnv} (h0 : ∃ ρ1, Le ρ1 ρ ∧ I l ρ1)
    (hs : ∀ (a : D) (r : List D) (ρ1 : DEnv), a ∈ l → I (a :: r) ρ1 → ∃ L, gt a = some L ∧ ∀ K : UEnds, (∀ ρ ρ2, Le ρ2 ρ → I r ρ2 → K.nx ρ) → (∀ ρ ρ2, Le ρ2 ρ → I r ρ2 → K.ct ρ) → K.rt = E.rt → K.bk = E.nx → ub K (setAll ρ1 (dset L)))
    (h1 : ∀ ρ ρ1, Le ρ1 ρ → I [] ρ1 → E.nx ρ) : loopU gt (sBody ub) l E ρ := by
  have := loop_map (fun d : D => d) I h0 hs h1
  rwa [List.map_id'] at this
/-- what comes behind a loop -/
theorem sBody_of {u : US} {E : UEnds} {ρ ρ1 : DEnv} (h : Le ρ1 ρ) (hu : u E ρ1) : sBody u E ρ := ⟨E, ρ1, h, ULe.refl E, hu⟩
/-! small facts -/
mutual
theorem eqD_refl : ∀ (d : D) (n : Nat), okD n d = true → eqD d d = true
  | .non, _, _ => by simp [eqD]
  | .bl _, _, _ => by simp [eqD]
  | .int _, _, _ => by simp [eqD]
  | .str _, _, _ => by simp [eqD]
  | .tup ds, n, h => by
    cases n with
    | zero => simp [okD] at h
    | succ n => rw [okD] at h; rw [eqD]; exact eqDL_refl ds n h
  | .lst ds, n, h => by
    cases n with
    | zero => simp [okD] at h
    | succ n => rw [okD] at h; rw [eqD]; exact eqDL_refl ds n h
  | .src, n, h => by cases n <;> simp [okD] at h
  | .scr _ _ _, n, h => by cases n <;> simp [okD] at h
theorem eqDL_refl : ∀ (ds : List D) (n : Nat), okDL n ds = true → eqDL ds ds = true
  | [], _, _ => by simp [eqDL]
  | d :: ds, n, h => by
    rw [okDL, Bool.and_eq_true] at h
    rw [eqDL, eqD_refl d n h.1, eqDL_refl ds n h.2]
    rfl
end
theorem okDL_mem {n : Nat} : ∀ {ds : List D}, okDL n ds = true → ∀ d ∈ ds, okD n d = true
  | [], _, d, hd => by simp at hd
  | x :: ds, h, d, hd => by
    rw [okDL, Bool.and_eq_true] at h
    rcases List.mem_cons.mp hd with rfl | hd
    · exact h.1
    · exact okDL_mem h.2 d hd
theorem okDL_of {n : Nat} : ∀ {ds : List D}, (∀ d ∈ ds, okD n d = true) → okDL n ds = true
  | [], _ => by simp [okDL]
  | x :: ds, h => by
    rw [okDL, h x (by simp), okDL_of fun d hd => h d (by simp [hd])]
    rfl
theorem okDL_map {α : Type} {n : Nat} {f : α → D} {l : List α} (h : ∀ a ∈ l, okD n (f a) = true) : okDL n (l.map f) = true := okDL_of fun d hd => by
  obtain ⟨a, ha, rfl⟩ := List.mem_map.mp hd
  exact h a ha
@[simp] theorem rngD_len (lo : Int) (n : Nat) : (rngD lo n).length = n := by unfold rngD; simp
theorem rngD_get {lo : Int} {n k : Nat} {d : D} (h : (rngD lo n)[k]? = some d) : k < n ∧ d = .int (lo + k) := by
  have hk : k < n := by
    have := (List.getElem?_eq_some_iff.mp h).1
    simpa using this
  refine ⟨hk, ?_⟩
  unfold rngD at h
  rw [List.getElem?_map, List.getElem?_range hk] at h
  cases h; rfl
theorem rngD_mem {lo : Int} {n : Nat} {d : D} (h : d ∈ rngD lo n) : ∃ k : Nat, k < n ∧ d = .int (lo + k) := by
  obtain ⟨k, hk⟩ := List.mem_iff_getElem?.mp h
  exact ⟨k, rngD_get hk⟩
/-- a comprehension over data that is computed, by what stands behind the data -/
theorem lc_map {α : Type} {ρ : DEnv} {gt : UG} {ut : UT} {ue : UE} {l : List α} {K : List D → Prop} (g : α → D) (p : α → Bool) (f : α → D)
    (hg : ∀ a ∈ l, ∃ L, gt (g a) = some L ∧ (∀ Q : Bool → Prop, Q (p a) → ut (setAll ρ (dset L)) Q) ∧ (p a = true → ∀ Q : UK, (∀ t, Q t (f a)) → ue (setAll ρ (dset L)) Q))
    (hk : K ((l.filter p).map f)) : lcU ρ gt ut ue (l.map g) [] K := by
  have go : ∀ (r : List α) (ys : List D), (∀ d ∈ r, d ∈ l) → K (ys ++ (r.filter p).map f) → lcU ρ gt ut ue (r.map g) ys K := by
    intro r
    induction r with
    | nil => intro ys _ h; simpa [lcU] using h
    | cons d r ih =>
      intro ys hm h
      obtain ⟨L, hgd, ht, he⟩ := hg d (hm d (by simp))
      rw [List.map_cons]
      unfold lcU
      rw [hgd]
      refine ht _ ?_
      cases hp : p d with
      | true =>
        rw [if_pos rfl]
        refine he hp _ fun t => ih _ (fun d hd => hm d (by simp [hd])) ?_
        rw [List.filter_cons, if_pos hp, List.map_cons] at h
        simpa using h
      | false =>
        rw [if_neg (by simp)]
        refine ih _ (fun d hd => hm d (by simp [hd])) ?_
        rw [List.filter_cons, if_neg (by simp [hp])] at h
        exact h
  exact go l [] (fun _ h => h) (by simpa using hk)
theorem le_trans : ∀ {a b c : DEnv}, Le a b → Le b c → Le a c
  | [], [], [], _, _ => trivial
  | none :: r, none :: s, z :: t, h1, h2 => le_trans (a := r) (b := s) h1 h2
  | none :: r, some y :: s, z :: t, h1, h2 => le_trans (a := r) (b := s) h1 h2.2
  | some x :: r, none :: s, z :: t, h1, h2 => by cases h1.1
  | some x :: r, some y :: s, z :: t, h1, h2 => ⟨h2.1.trans h1.1, le_trans (a := r) (b := s) h1.2 h2.2⟩
  | [], _ :: _, _, h1, _ => h1.elim
  | none :: _, [], _, h1, _ => h1.elim
  | some _ :: _, [], _, h1, _ => h1.elim
  | _, [], _ :: _, _, h2 => h2.elim
  | _, none :: _, [], _, h2 => h2.elim
  | _, some _ :: _, [], _, h2 => h2.elim
theorem atI_last {xs : List D} {d : D} (h : xs.getLast? = some d) : atI xs (-1) = some d := by
  cases xs with
  | nil => cases h
  | cons x xs =>
    unfold atI ixN
    rw [if_neg (by decide), if_pos (by simp; omega)]
    show (x :: xs)[(-1 + ((xs.length + 1 : Nat) : Int)).toNat]? = some d
    have e : (-1 + ((xs.length + 1 : Nat) : Int)).toNat = xs.length := by omega
    rw [e, ← h, List.getLast?_eq_getElem?]
    rfl
/-- a test whose answer does not matter -/
theorem sIf_both {c : UT} {a b : US} {E : UEnds} {ρ : DEnv} (hc : ∀ Q : Bool → Prop, (∀ k, Q k) → c ρ Q) (ha : a E ρ) (hb : b E ρ) : sIf c a b E ρ := hc _ fun k => by cases k <;> simp [ha, hb]
theorem sIf_true {c : UT} {a b : US} {E : UEnds} {ρ : DEnv} (hc : ∀ Q : Bool → Prop, Q true → c ρ Q) (ha : a E ρ) : sIf c a b E ρ := hc _ (by simpa using ha)
theorem sIf_false {c : UT} {a b : US} {E : UEnds} {ρ : DEnv} (hc : ∀ Q : Bool → Prop, Q false → c ρ Q) (hb : b E ρ) : sIf c a b E ρ := hc _ (by simpa using hb)
theorem noLstL_map {α : Type} {f : α → D} (h : ∀ a, noLst (f a) = true) : ∀ l : List α, noLstL (l.map f) = true
  | [] => by simp
  | a :: l => by rw [List.map_cons, noLstL, h a, noLstL_map h l]; rfl
@[simp] theorem noLstL_int (l : List Int) : noLstL (l.map D.int) = true := noLstL_map (fun _ => rfl) l
@[simp] theorem noLstL_rng (lo : Int) (n : Nat) : noLstL (rngD lo n) = true := noLstL_map (fun _ => rfl) _
@[simp] theorem noLstL_append : ∀ a b : List D, noLstL (a ++ b) = (noLstL a && noLstL b)
  | [], b => by simp
  | x :: a, b => by simp [noLstL_append a b, Bool.and_assoc]
@[simp] theorem okDL_append (n : Nat) : ∀ a b : List D, okDL n (a ++ b) = (okDL n a && okDL n b)
  | [], b => by simp
  | x :: a, b => by simp [okDL_append n a b, Bool.and_assoc]
@[simp] theorem okDL_int (n : Nat) (l : List Int) : okDL n (l.map D.int) = true := okDL_map fun _ _ => by cases n <;> rfl
theorem cmul_01 (z : Int) (p : Prop) [Decidable p] : CMul z (if p then 1 else 0) := by
  unfold CMul; right; split <;> omega
theorem cmul_r (z j : Int) (h : 0 ≤ j) (h2 : j < 2 ^ 64) : CMul z j := .inr ⟨by omega, h2⟩
theorem atI_nat {xs : List D} {k : Nat} {d : D} (h : xs[k]? = some d) : atI xs (k : Nat) = some d := by
  have hk := (List.getElem?_eq_some_iff.mp h).1
  unfold atI ixN
  rw [if_pos (by omega), if_pos (by omega)]
  exact h
theorem atI_mem {xs : List D} {i : Int} (h0 : 0 ≤ i) (h1 : i < xs.length) : ∃ d ∈ xs, atI xs i = some d := by
  have hk : i.toNat < xs.length := by omega
  refine ⟨xs[i.toNat], List.getElem_mem hk, ?_⟩
  unfold atI ixN
  rw [if_pos h0, if_pos h1]
  exact List.getElem?_eq_getElem hk
end DL

/-! DLWalk: enumerate, zip, insert, x[i] op= e, sorted of pairs. -/
namespace DL
open PySem PySem.Spec PyProof.Rows L2

/-! ### enumerate of a tuple -/
theorem meets_enum1 {vv : Value} {ob : Obj} {HH : Heap → Prop} (Bg : Begins vv ob HH) : Meets (Builtin.«enumerate.__new__» ⟨[.type "enumerate", vv], []⟩) (fun _ R s => HH s.heap ∧
    R (.ok (.ret (.ref (s.heap.push ob).objs.size))) { s with heap := (s.heap.push ob).push { cls := .type "enumerate", data := .fields #[.none, .bool false, .ref s.heap.objs.size, rawInt 0, .none, .none] } }) :=
  .of_wp fun prog w A R s hq => by
    obtain ⟨hpp, gg, dd, tkk, oss⟩ := s; obtain ⟨g1, hq⟩ := hq
    have hsubE := sub_enumerate
    have q9 : ∀ {A2 : Around} {E2 : Value → Shared → Prop} {Q2 : Value → Shared → Prop}, Q2 (.ref hpp.objs.size) ⟨hpp.push ob, gg, dd, tkk, oss⟩ → wpAny (model prog w) A2 (pyIter vv) Q2 E2 ⟨hpp, gg, dd, tkk, oss⟩ := fun q => Bg.iter prog w _ _ ⟨hpp, gg, dd, tkk, oss⟩ _ g1 q
    wp_walk using q9
    refine wpAny_stack_any fun stk => wpAny_pure ?_
    split
    · rename_i cc _ _ _ _ _; cases (cc == Value.type "enumerate") <;> (wp_walk using q9; exact ⟨_, rfl, hq⟩)
    · wp_walk using q9
      exact ⟨_, rfl, hq⟩
theorem call_enum_tup {prog : Program} {w : World} {A : Around} {E : Value → Shared → Prop} {s : Shared} {t : Addr} {items : Array Value} {Q : Value → Shared → Prop} (ht : s.heap.IsTuple t items)
    (hQ : ∀ h2, IsEnum h2 (s.heap.objs.size + 1) s.heap.objs.size 0 .none → h2.IsTupleIter s.heap.objs.size t 0 → h2.objs.size = s.heap.objs.size + 2 → (∀ b o, s.heap.get? b = some o → h2.get? b = some o) → Q (.ref (s.heap.objs.size + 1)) { s with heap := h2 }) :
    wpAny (model prog w) A (call (.type "enumerate") [.ref t]) Q E s := by
  refine callType_new F.called_enumerate (by decide) (F.typeCall_enumerate_1 _) (F.newCall_enumerate_1 _) (fun ob => F.args_object_init_2 ob _) F.entry_enumerate_new (meets_enum1 (begins_tuple t items)) ⟨ht, ?_⟩
  have hz : (s.heap.push { cls := .type "tuple_iterator", data := .fields #[.ref t, .int 0 0] }).objs.size = s.heap.objs.size + 1 := Heap.size_push ..
  show _ ∧ _
  rw [hz]
  have e1 := Heap.get?_push_size (s.heap.push { cls := .type "tuple_iterator", data := .fields #[.ref t, .int 0 0] }) (o := { cls := .type "enumerate", data := .fields #[.none, .bool false, .ref s.heap.objs.size, rawInt 0, .none, .none] }) rfl
  rw [hz] at e1
  exact ⟨⟨_, e1, rfl⟩, hQ _ e1 ⟨_, Heap.get?_push_of_some _ (Heap.get?_push_size _ rfl), rfl, rfl⟩ (by rw [Heap.size_push, hz]) fun b o x => Heap.get?_push_of_some _ (Heap.get?_push_of_some _ x)⟩
/-- the tuple at a, each item in a new pair with its place -/
def IteT (K : PySem.W.Frag) (a : Addr) : It :=
  ⟨fun i H => ∃ (xs : List V) (x : V), SqT K H a xs ∧ xs[i]? = some x, fun i H v H2 => ∃ T x, v = .ref T ∧ H T = none ∧ H2 = upd H T (.tup [.int (i : Nat), x]) ∧ ∀ xs, SqT K H a xs → xs[i]? = some x, fun i H => ∃ xs : List V, SqT K H a xs ∧ xs.length ≤ i⟩
theorem turn_enumT {P : Program} {w : World} {K : PySem.W.Frag} {elts : List Expr} {kk : Nat} {tpos : Pos} (a e it : Addr) (hai : a ≠ it) (hae : a ≠ e) :
    Turn P w K (.Tuple elts kk tpos) (IteT K a) [e, it] e (fun i h => (∃ old, IsEnum h e it ((i : Nat) : Int) old) ∧ h.IsTupleIter it a i ∧ e ≠ it) where
  mem := by simp
  obj := fun i h st b hb => by
    obtain ⟨⟨old, he⟩, ⟨o, ho, hc, hd⟩, _⟩ := st
    rcases List.mem_cons.mp hb with z | z
    · rw [z]; exact ⟨_, he, fun v q => nomatch q⟩
    · rw [List.mem_singleton.mp z]; exact ⟨o, ho, fun v q => by rw [hd] at q; cases q⟩
  keep := fun i h h2 st k => let ⟨⟨old, he⟩, hi, hne⟩ := st; ⟨⟨old, k e (by simp) _ he⟩, hi.at fun o q => k it (by simp) o q, hne⟩
  item := by
    intro X hP hw hK hc i pins s σ H E I hf st hg
    subst hP hw hK
    obtain ⟨⟨old, he⟩, hit, hne⟩ := st
    obtain ⟨xs, x, hq, hx⟩ := hg
    obtain ⟨its, rv, p, hz⟩ := I.tuple hq
    obtain ⟨u, hu, ru⟩ := rv.get hx
    have hel : e < s.heap.objs.size := Heap.lt_size he
    have hil : it < s.heap.objs.size := by obtain ⟨_, q, _⟩ := hit; exact Heap.lt_size q
    have pT : s.heap.IsTuple a its.toArray := p
    have hi : i < its.toArray.size := by
      have := (List.getElem?_eq_some_iff.mp hu).1
      simpa using this
    refine wpAny_pyNext_enum_itemD (Draws.tuple (by exact (I.ok.hd hc)) it a hai its.toArray) he ⟨hit, pT⟩ hi hne (by simp [hne, Ne.symm hae]) fun y h2 tk hy ho hst hT hsz hk => ?_
    have ey : y = u := by
      have e2 : its.toArray[i]? = some u := by simpa using hu
      rw [e2] at hy; exact (Option.some.inj hy).symm
    subst ey
    refine ⟨_, rfl, wpAny_letOwnedTupleGo_enum (s := { s with heap := h2, toks := tk + 1 }) ho fun h3 he3 sb => ?_⟩
    have hT2 : h3.get? s.heap.objs.size = some { cls := .type "tuple", data := .seq #[.int i tk, y] } := (sb.2 _ (Nat.ne_of_gt hel)).trans hT
    have new : ObjOk X.prog X.w (upd H s.heap.objs.size (.tup [.int (i : Nat), x])) h3 s.heap.objs.size (.tup [.int (i : Nat), x]) := ⟨by show 2 ≤ sizeLine; decide, [.int i tk, y], .cons ⟨_, rfl⟩ (.cons ru .nil), ⟨_, hT2, rfl, _, rfl⟩⟩
    have I1 : Inv X pins σ (upd H s.heap.objs.size (.tup [.int (i : Nat), x])) { s with heap := h3, toks := tk + 1 } :=
      I.turnedNew (ch := [e, it]) (fun b ob hb q => (sb.2 b (fun z => hb (by simp [z]))).trans (hk b ob (fun z => hb (by simp [z])) (fun z => hb (by simp [z])) q)) hf (Nat.le_refl _) new
    refine ⟨.ref s.heap.objs.size, _, I1, rfl, ⟨_, x, rfl, I.hok.fresh (Nat.le_refl _), rfl, fun ys hy2 => by rw [I.tuple_inj hy2 hq]; exact hx⟩, ⟨⟨y, ?_⟩, hst.1.at fun o q => (sb.2 it (Ne.symm hne)).trans q, hne⟩, fun b hb => ?_⟩
    · rw [show ((i + 1 : Nat) : Int) = (i : Int) + 1 by omega]; exact he3
    · have hb2 : b < s.heap.objs.size := by
        rcases List.mem_cons.mp hb with z | z
        · rw [z]; exact hel
        · rw [List.mem_singleton.mp z]; exact hil
      rw [upd_ne (Nat.ne_of_lt hb2)]
      exact (hf b hb).1
  done := by
    intro X hP hw hK hc i pins s σ H E I hf st hg
    subst hP hw hK
    obtain ⟨⟨old, he⟩, hit, hne⟩ := st
    obtain ⟨xs, hq, hx⟩ := hg
    obtain ⟨its, rv, p, hz⟩ := I.tuple hq
    obtain ⟨f0, f1, f2, f3, f4, f5⟩ := hf it (by simp)
    have hl := rv.length
    have pT : s.heap.IsTuple a its.toArray := p
    have D0 : Draws X.prog X.w X.A.in1 it [it, a] i (fun _ _ => False) (fun j h => j = i ∧ h.IsTupleIter it a i ∧ h.IsTuple a its.toArray) :=
      ⟨fun j h st => by obtain ⟨o, ho, _⟩ := st.2.1; exact ⟨o, ho⟩, fun j h h2 st hk => ⟨st.1, st.2.1.at fun o q => hk it (by simp) o q, st.2.2.at fun o q => hk a (by simp) o q⟩,
        fun j s2 Q2 E2 hj st _ => absurd st.1 (Nat.ne_of_lt hj), fun s2 Q2 E2 st hE => wpAny_nextOf_tuple_end (by exact (I.ok.hd hc)) st.2.1 st.2.2 (by simp; omega) hE⟩
    exact wpAny_pyNext_enum_endD D0 he ⟨rfl, hit, pT⟩ fun h2 eb => ⟨rfl, I.turned (t' := s.toks) (fun b o hb q => eb b o hb q) f0 f1 f3 f4 f5⟩
  self := fun A i s Q E st h => let ⟨⟨_, he⟩, _⟩ := st; wpAny_pyIter_enum he h

def iEnumT (K : PySem.W.Frag) (ta : TA) : TI := fun σ H R => ta σ H fun vs H1 => ∃ a xs, vs = [.ref a] ∧ ((SqL K H1 a xs ∧ R (Ite K a) H1) ∨ (SqT K H1 a xs ∧ R (IteT K a) H1))
theorem pi_enumA {X : Cx} {e : Expr} {ta : TA} {p pos tpos : Pos} {elts : List Expr} {kk : Nat} (hg : Gl X "enumerate") (hm : X.mg "enumerate" = none) (ha : PA X [e] ta) (hs : starEach [e] X.env = [(false, eval e X.env)] := by rfl) :
    PI X (.Tuple elts kk tpos) (.Call (.Name "enumerate" p) [e] [] pos) (iEnumT X.K ta) := by
  refine ⟨fun pins s σ H R I h => ?_⟩
  refine Call_ (ld_blt I hg hm boot_enumerate (PyProof.Rows.callWith_type1 (thn (ha.run pos pins s σ H _ I h) fun us s1 ⟨vs, H1, I1, r1, q1⟩ => ?_) hs rfl))
  obtain ⟨a, xs, ex, q1⟩ := q1
  subst ex
  have fr2 : ∀ b, b ∈ [s1.heap.objs.size + 1, s1.heap.objs.size] → FpOk X pins H1 b := fun b hb => by
    have hle : s1.heap.objs.size ≤ b := by
      rcases List.mem_cons.mp hb with z | z
      · rw [z]; exact Nat.le_add_right _ _
      · rw [List.mem_singleton.mp z]; exact Nat.le_refl _
    exact I1.fpOk hle (I1.hok.fresh hle)
  cases r1 with
  | cons r rr =>
    cases rr
    cases r
    rcases q1 with ⟨hq, q⟩ | ⟨hq, q⟩
    · obtain ⟨its, rv, p2, hz⟩ := I1.list hq
      refine call_enumerate_list p2.isList fun h2 he hit hsz hk => wpAny_pyIter_enum he ?_
      exact ⟨s1.heap.objs.size + 1, [s1.heap.objs.size + 1, s1.heap.objs.size], _, _, H1, rfl, I1.kept (t' := s1.toks) hk, turn_enum a (s1.heap.objs.size + 1) s1.heap.objs.size, ⟨⟨.none, he⟩, hit, Nat.succ_ne_self _⟩, fr2, q⟩
    · obtain ⟨its, rv, p2, hz⟩ := I1.tuple hq
      have lt : a < s1.heap.objs.size := by obtain ⟨_, ho, _⟩ := p2; exact Heap.lt_size ho
      refine call_enum_tup (show s1.heap.IsTuple a its.toArray from p2) fun h2 he hit hsz hk => wpAny_pyIter_enum he ?_
      exact ⟨s1.heap.objs.size + 1, [s1.heap.objs.size + 1, s1.heap.objs.size], _, _, H1, rfl, I1.kept (t' := s1.toks) hk, turn_enumT a (s1.heap.objs.size + 1) s1.heap.objs.size (Nat.ne_of_lt lt) (Nat.ne_of_lt (Nat.lt_succ_of_lt lt)), ⟨⟨.none, he⟩, hit, Nat.succ_ne_self _⟩, fr2, q⟩
/-- the data of enumerate -/
def enumD (ds : List D) : List D := ds.mapIdx fun i d => .tup [.int (i : Nat), d]
theorem enumD_get {ds : List D} {i : Nat} {d : D} (h : (enumD ds)[i]? = some d) : ∃ e, ds[i]? = some e ∧ d = .tup [.int (i : Nat), e] := by
  unfold enumD at h
  rw [List.getElem?_mapIdx] at h
  cases e : ds[i]? with
  | none => rw [e] at h; cases h
  | some x => rw [e] at h; cases h; exact ⟨x, rfl, rfl⟩
def seqOf (Q : List D → Prop) : D → Prop
  | .lst ds => Q ds
  | .tup ds => Q ds
  | _ => False
@[simp] theorem seqOf_lst (Q : List D → Prop) (ds : List D) : seqOf Q (.lst ds) = Q ds := rfl
@[simp] theorem seqOf_tup (Q : List D → Prop) (ds : List D) : seqOf Q (.tup ds) = Q ds := rfl
@[simp] def uEnum (u : UA) (ρ : DEnv) (Q : List D → Prop) : Prop := u ρ fun as => match as with
  | [d] => seqOf (fun ds => Q (enumD ds)) d
  | _ => False
section
variable {S : Src} {X : Cx}
theorem pair_new {g : G} {H : Hp} {T : Addr} {x y : V} {d e : D} (I : HInv S g H) (hT : H T = none) (r1 : Rep g H d x) (r2 : Rep g H e y) : ∃ g2, Step g H g2 (upd H T (.tup [x, y])) ∧ HInv S g2 (upd H T (.tup [x, y])) ∧ Rep g2 (upd H T (.tup [x, y])) (.tup [d, e]) (.ref T) := by
  have s := Step.laid g (.tup [x, y]) hT
  refine ⟨g, s, I.laid _ hT, ?_⟩
  rw [Rep]
  refine ⟨T, [x, y], rfl, ⟨upd_same, fun z => ?_⟩, (RepL.cons r1 (RepL.cons r2 RepL.nil)).step I s⟩
  obtain ⟨o, ho⟩ := I.trl z
  rw [hT] at ho; cases ho
theorem Walks.enumL {g : G} {H : Hp} {a : Addr} {xs : List V} {ds : List D} {K : PySem.W.Frag} (r : RdL g H a xs) (l : RepL g H ds xs) : Walks S g H (Ite K a) (enumD ds) where
  go := fun i g' H' u I hi => by
    have hi' : i < xs.length := by rw [l.len]; unfold enumD at hi; simpa using hi
    exact ⟨xs, xs[i], (r.step u).sq, List.getElem?_eq_getElem hi'⟩
  stop := fun i g' H' u I hi => ⟨xs, (r.step u).sq, by rw [l.len]; unfold enumD at hi; simpa using hi⟩
  yld := fun i g' H' x H'' d u I hd y => by
    obtain ⟨T, z, ex, hT, eH, hall⟩ := y
    subst ex eH
    obtain ⟨e, he, rfl⟩ := enumD_get hd
    obtain ⟨v, hv, rv⟩ := (RepL.up u ds xs l).get he
    have := hall xs (r.step u).sq
    rw [hv] at this
    cases this
    exact pair_new I hT (by rw [Rep]) rv
theorem Walks.enumT {g : G} {H : Hp} {a : Addr} {xs : List V} {ds : List D} {K : PySem.W.Frag} (r : RdT g H a xs) (l : RepL g H ds xs) : Walks S g H (IteT K a) (enumD ds) where
  go := fun i g' H' u I hi => by
    have hi' : i < xs.length := by rw [l.len]; unfold enumD at hi; simpa using hi
    exact ⟨xs, xs[i], (r.step u).sq, List.getElem?_eq_getElem hi'⟩
  stop := fun i g' H' u I hi => ⟨xs, (r.step u).sq, by rw [l.len]; unfold enumD at hi; simpa using hi⟩
  yld := fun i g' H' x H'' d u I hd y => by
    obtain ⟨T, z, ex, hT, eH, hall⟩ := y
    subst ex eH
    obtain ⟨e, he, rfl⟩ := enumD_get hd
    obtain ⟨v, hv, rv⟩ := (RepL.up u ds xs l).get he
    have := hall xs (r.step u).sq
    rw [hv] at this
    cases this
    exact pair_new I hT (by rw [Rep]) rv
theorem ji_enum {e : Expr} {u : UA} {p pos tpos : Pos} {elts : List Expr} {kk : Nat} (hg : Gl X "enumerate") (hm : X.mg "enumerate" = none) (ha : JA S X [e] u) (hs : starEach [e] X.env = [(false, eval e X.env)] := by rfl) :
    JI S X (.Tuple elts kk tpos) (.Call (.Name "enumerate" p) [e] [] pos) (uEnum u) := by
  obtain ⟨t, q, h⟩ := ha.ex
  refine ⟨_, pi_enumA hg hm q hs, fun ρ σ g H Q R I RS hu hR => h ρ σ g H _ _ I RS hu fun vs H1 e => ?_⟩
  obtain ⟨g1, ds, s1, I1, r1, q1⟩ := e
  match ds, r1, q1 with
  | [d], r1, q1 =>
    rw [RepL] at r1
    obtain ⟨v, r, rfl, rv, r2⟩ := r1
    rw [RepL] at r2
    subst r2
    cases d with
    | lst ds =>
      rw [Rep] at rv
      obtain ⟨a, xs, rfl, ra, l⟩ := rv
      exact ⟨a, xs, rfl, .inl ⟨ra.sq, hR _ _ g1 _ s1 I1 (.enumL ra l) q1⟩⟩
    | tup ds =>
      rw [Rep] at rv
      obtain ⟨a, xs, rfl, ra, l⟩ := rv
      exact ⟨a, xs, rfl, .inr ⟨ra.sq, hR _ _ g1 _ s1 I1 (.enumT ra l) q1⟩⟩
    | _ => exact (show False from q1).elim
  | [], _, q1 => exact (show False from q1).elim
  | _ :: _ :: _, _, q1 => exact (show False from q1).elim

/-! ### zip -/
def zipD : List D → List D → List D := List.zipWith fun a b => .tup [a, b]
theorem zipD_get {as bs : List D} {i : Nat} {d : D} (h : (zipD as bs)[i]? = some d) : ∃ a b, as[i]? = some a ∧ bs[i]? = some b ∧ d = .tup [a, b] := by
  unfold zipD at h
  rw [List.getElem?_zipWith] at h
  cases e1 : as[i]? with
  | none => rw [e1] at h; simp at h
  | some a =>
    cases e2 : bs[i]? with
    | none => rw [e1, e2] at h; simp at h
    | some b => rw [e1, e2] at h; cases h; exact ⟨a, b, rfl, rfl, rfl⟩
@[simp] def uZip (u : UA) (ρ : DEnv) (Q : List D → Prop) : Prop := u ρ fun as => match as with
  | [.lst xs, .lst ys] => Q (zipD xs ys)
  | [.tup xs, .tup ys] => Q (zipD xs ys)
  | _ => False
theorem Walks.zipL {g : G} {H : Hp} {a b : Addr} {xs ys : List V} {as bs : List D} {K : PySem.W.Frag} (r : RdL g H a xs) (l : RepL g H as xs) (r2 : RdL g H b ys) (l2 : RepL g H bs ys) : Walks S g H (Itz K a b) (zipD as bs) where
  go := fun i g' H' u I hi => by
    have hi' : i < min as.length bs.length := by unfold zipD at hi; rw [List.length_zipWith] at hi; exact hi
    have h1 : i < xs.length := by rw [l.len]; omega
    have h2 : i < ys.length := by rw [l2.len]; omega
    exact ⟨xs, ys, xs[i], ys[i], (r.step u).sq, (r2.step u).sq, List.getElem?_eq_getElem h1, List.getElem?_eq_getElem h2⟩
  stop := fun i g' H' u I hi => ⟨xs, ys, (r.step u).sq, (r2.step u).sq, by
    unfold zipD at hi; rw [List.length_zipWith] at hi; rw [l.len, l2.len]; omega⟩
  yld := fun i g' H' x H'' d u I hd y => by
    obtain ⟨T, z1, z2, ex, hT, eH, hall, hall2⟩ := y
    subst ex eH
    obtain ⟨p, q, hp, hq, rfl⟩ := zipD_get hd
    obtain ⟨v, hv, rv⟩ := (RepL.up u as xs l).get hp
    obtain ⟨v2, hv2, rv2⟩ := (RepL.up u bs ys l2).get hq
    have e1 := hall xs (r.step u).sq
    have e2 := hall2 ys (r2.step u).sq
    rw [hv] at e1; rw [hv2] at e2
    cases e1; cases e2
    exact pair_new I hT rv rv2
theorem Walks.zipT {g : G} {H : Hp} {a b : Addr} {xs ys : List V} {as bs : List D} {K : PySem.W.Frag} (r : RdT g H a xs) (l : RepL g H as xs) (r2 : RdT g H b ys) (l2 : RepL g H bs ys) : Walks S g H (RZ.ItzT K a b) (zipD as bs) where
  go := fun i g' H' u I hi => by
    have hi' : i < min as.length bs.length := by unfold zipD at hi; rw [List.length_zipWith] at hi; exact hi
    have h1 : i < xs.length := by rw [l.len]; omega
    have h2 : i < ys.length := by rw [l2.len]; omega
    exact ⟨xs, ys, xs[i], ys[i], (r.step u).sq, (r2.step u).sq, List.getElem?_eq_getElem h1, List.getElem?_eq_getElem h2⟩
  stop := fun i g' H' u I hi => ⟨xs, ys, (r.step u).sq, (r2.step u).sq, by
    unfold zipD at hi; rw [List.length_zipWith] at hi; rw [l.len, l2.len]; omega⟩
  yld := fun i g' H' x H'' d u I hd y => by
    obtain ⟨T, z1, z2, ex, hT, eH, hall, hall2⟩ := y
    subst ex eH
    obtain ⟨p, q, hp, hq, rfl⟩ := zipD_get hd
    obtain ⟨v, hv, rv⟩ := (RepL.up u as xs l).get hp
    obtain ⟨v2, hv2, rv2⟩ := (RepL.up u bs ys l2).get hq
    have e1 := hall xs (r.step u).sq
    have e2 := hall2 ys (r2.step u).sq
    rw [hv] at e1; rw [hv2] at e2
    cases e1; cases e2
    exact pair_new I hT rv rv2
theorem ji_zip {e e2 : Expr} {u : UA} {p pos tpos : Pos} {elts : List Expr} {kk : Nat} (hg : Gl X "zip") (hm : X.mg "zip" = none) (ha : JA S X [e, e2] u)
    (hs : starEach [e, e2] X.env = (false, eval e X.env) :: starEach [e2] X.env := by rfl) (hpl : (backTo pos (starEach [e2] X.env)).any (·.1) = false := by rfl) :
    JI S X (.Tuple elts kk tpos) (.Call (.Name "zip" p) [e, e2] [] pos) (uZip u) := by
  obtain ⟨t, q, h⟩ := ha.ex
  refine ⟨_, RZ.pi_zipA hg hm q hs hpl, fun ρ σ g H Q R I RS hu hR => h ρ σ g H _ _ I RS hu fun vs H1 e => ?_⟩
  obtain ⟨g1, ds, s1, I1, r1, q1⟩ := e
  have two : ∀ d d2, ds = [d, d2] → ∃ v v2, vs = [v, v2] ∧ Rep g1 H1 d v ∧ Rep g1 H1 d2 v2 := fun d d2 ed => by
    subst ed
    rw [RepL] at r1
    obtain ⟨v, r, rfl, rv, r2⟩ := r1
    rw [RepL] at r2
    obtain ⟨v2, r, rfl, rv2, r3⟩ := r2
    rw [RepL] at r3
    subst r3
    exact ⟨v, v2, rfl, rv, rv2⟩
  split at q1
  · rename_i as bs
    obtain ⟨v, v2, rfl, rv, rv2⟩ := two _ _ rfl
    rw [Rep] at rv rv2
    obtain ⟨a, xs, rfl, ra, l⟩ := rv
    obtain ⟨b, ys, rfl, rb, l2⟩ := rv2
    exact ⟨a, b, xs, ys, rfl, .inl ⟨ra.sq, rb.sq, hR _ _ g1 _ s1 I1 (.zipL ra l rb l2) q1⟩⟩
  · rename_i as bs
    obtain ⟨v, v2, rfl, rv, rv2⟩ := two _ _ rfl
    rw [Rep] at rv rv2
    obtain ⟨a, xs, rfl, ra, l⟩ := rv
    obtain ⟨b, ys, rfl, rb, l2⟩ := rv2
    exact ⟨a, b, xs, ys, rfl, .inr ⟨ra.sq, rb.sq, hR _ _ g1 _ s1 I1 (.zipT ra l rb l2) q1⟩⟩
  · exact q1.elim
end
end DL

/-! DLWalk2: x[i] op= e, insert, sorted of pairs of ints. -/
namespace DL
open PySem PySem.Spec PyProof.Rows L2
def rGetL : V → V → Hp → VK → Prop := fun x y H Q => ∃ p xs i v, x = .ref p ∧ y = .int i ∧ H p = some (.lst xs) ∧ 0 ≤ i ∧ xs[i.toNat]? = some v ∧ Q v H
theorem get_listW {X : Cx} : PGet X rGetL := by
  intro pins s σ H o i ov iv Q I ro ri h
  obtain ⟨p, xs, k, v, rfl, rfl, hp, h0, hv, q⟩ := h
  cases ro
  obtain ⟨t, rfl⟩ := ri
  obtain ⟨its, r, pl, hz⟩ := I.list (.inl (.inl hp) : SqL X.K H p xs)
  obtain ⟨w, ew, rw'⟩ := r.get hv
  have hl := r.length
  have hk : k.toNat < its.length := (List.getElem?_eq_some_iff.mp ew).1
  have hn := line63
  exact getItem_listL pl.isList h0 (by omega) ew ⟨v, H, I, rw', q⟩
@[simp] def sAugIx (i : Nat) (k : Int → Int → Int) (uk u : UE) (D : UEnds) (ρ : DEnv) : Prop := ownAt ρ i (fun _ => True) ∧ uk ρ fun _ x => isI (fun kk => ownAt ρ i fun ds => 0 ≤ kk ∧ match ds[kk.toNat]? with
  | some (.int a) => u ρ fun _ y => isI (fun b => D.nx (ρ.set i (some (true, .lst (ds.set kk.toNat (.int (k a b))))))) y
  | _ => False) x
section
variable {S : Src} {X : Cx} {pos p1 pt : Pos} {x : Str}
theorem js_augIx {i : Nat} {k : Int → Int → Int} {op : Operator} {a ek : Expr} {ua uk : UE} (ho : PIp X op (ipI k)) (hk : JE S X ek uk) (he : JE S X a ua) (hi : X.N[i]? = some x)
    (hv : Vis X.env.scope x := by first | exact Or.inl rfl | exact Or.inr (Or.inl rfl) | exact Or.inr (Or.inr rfl)) (hd : (x == ("__debug__" : Str)) = false := by decide) (hcd : (x == ("__classdict__" : Str)) = false := by decide)
    (ha : ∀ ov iv new, augStore ek ov iv new = (do holding [new, ov, iv] (setItem ov iv new); release [new, ov, iv] []; pure .next) := by intros; rfl) :
    JS S X (.AugAssign (.Subscript (.Name x p1) ek pt) op a pos) (sAugIx i k uk ua) := by
  obtain ⟨t, p, h⟩ := he.ex
  obtain ⟨tk, pk, hk⟩ := hk.ex
  refine ⟨_, ps_augS (pv i hi hv hd hcd) pk get_listW p ho set_list ha, fun g0 B g H ρ σ E E' I hu gl => ?_⟩
  obtain ⟨q0, hu⟩ := hu
  obtain ⟨ds0, e0, _⟩ := ownAt_of q0
  obtain ⟨b, _, _, eb, _⟩ := I.own i _ e0
  refine ⟨.ref b, eb, ?_⟩
  refine I.int (d0 := .non) (v0 := .non) (by rw [Rep]) hk hu fun kk H1 g1 I1 _ q1 => ?_
  obtain ⟨ds, e1, h0, q1⟩ := ownAt_of q1
  split at q1
  · rename_i z ez
    obtain ⟨b1, xs1, ds1, f1, f0, f2, f3, f4, f5, f6⟩ := I1.own i _ e1
    cases f0
    rw [eb] at f1; cases f1
    obtain ⟨v, hv2, rv⟩ := f6.get ez
    rw [Rep] at rv
    subst rv
    refine ⟨b, xs1, kk, .int z, rfl, rfl, f2, h0, hv2, ?_⟩
    refine I1.int (d0 := .non) (v0 := .non) (by rw [Rep]) h q1 fun y H2 g2 I2 _ q2 => ?_
    refine ⟨z, y, rfl, rfl, ?_⟩
    obtain ⟨b2, xs2, ds2, k1, k0, k2, k3, k4, k5, k6⟩ := I2.own i _ e1
    cases k0
    rw [eb] at k1; cases k1
    have hlt : kk.toNat < xs2.length := by
      have := (List.getElem?_eq_some_iff.mp ez).1
      rw [k6.len]; exact this
    refine ⟨b, xs2, kk, kk.toNat, rfl, rfl, k2, ?_, gl.nx g2 _ _ _ (I2.put e1 eb (k6.set kk.toNat (by rw [Rep]))) q2⟩
    unfold ixN
    rw [if_pos h0, if_pos (by omega)]
  · exact q1.elim
end
def mInsert : MtF := fun ds as K => match as with
  | [.int i, d] => (ds.length < sizeLine ∧ 0 ≤ i ∧ i < 2 ^ 62) ∧ K (ds.take i.toNat ++ [d] ++ ds.drop i.toNat) .non
  | _ => False
@[simp] theorem mInsert_eq (ds : List D) (i : Int) (d : D) (K : List D → D → Prop) : mInsert ds [.int i, d] K = ((ds.length < sizeLine ∧ 0 ≤ i ∧ i < 2 ^ 62) ∧ K (ds.take i.toNat ++ [d] ++ ds.drop i.toNat) .non) := rfl
theorem liftm_insert {S : Src} : LiftM S (fun x vs H Q => ∃ (l : Addr) (xs : List V) (i : Int) (y : V), x = .ref l ∧ vs = [.int i, y] ∧ H l = some (.lst xs) ∧ xs.length < sizeLine ∧ 0 ≤ i ∧ i < 2 ^ 63 ∧
    Q .non (upd H l (.lst (xs.take i.toNat ++ [y] ++ xs.drop i.toNat)))) mInsert := by
  intro g H p xs ds vs as K P e l la h hP
  unfold mInsert at h
  split at h
  · rename_i i d
    rw [RepL] at la
    obtain ⟨v, r, rfl, r1, r2⟩ := la
    rw [RepL] at r2
    obtain ⟨v2, r, rfl, r3, r4⟩ := r2
    rw [RepL] at r4
    subst r4
    rw [Rep] at r1
    subst r1
    exact ⟨p, xs, i, v2, rfl, rfl, e, by rw [l.len]; exact h.1.1, h.1.2.1, by have := h.1.2.2; omega, hP _ _ _ _ (((l.take _).append (RepL.cons r3 RepL.nil)).append (l.drop _)) (by rw [Rep]) h.2⟩
  · exact h.elim
/-! ### sorted of pairs -/
def dPair (p : Int × Int) : D := .tup [.int p.1, .int p.2]
def leP (p q : Int × Int) : Bool := !SrtO.lexB q p
def sortP (ps : List (Int × Int)) : List (Int × Int) := ps.mergeSort leP
@[simp] def fSortedP : D → UK → Prop
  | .lst ds, Q => ∃ ps : List (Int × Int), ds = ps.map dPair ∧ Q true (.lst ((sortP ps).map dPair))
  | _, _ => False
theorem leP_iff {p q : Int × Int} : leP p q = true ↔ p.1 < q.1 ∨ (p.1 = q.1 ∧ p.2 ≤ q.2) := by
  unfold leP SrtO.lexB
  by_cases h : q.1 = p.1
  · simp [h]
  · simp [h]
    omega
theorem sortP_sorted (ps : List (Int × Int)) : (sortP ps).Pairwise fun p q => leP p q = true := by
  unfold sortP
  refine List.pairwise_mergeSort (fun a b c h1 h2 => ?_) (fun a b => ?_) ps
  · rw [leP_iff] at h1 h2 ⊢; omega
  · rcases h : leP a b with _ | _
    · have h2 : ¬ (a.1 < b.1 ∨ (a.1 = b.1 ∧ a.2 ≤ b.2)) := by rw [← leP_iff, h]; simp
      have : leP b a = true := by rw [leP_iff]; omega
      simp [this]
    · simp
theorem sorted_uniq : ∀ {l m : List (Int × Int)}, l.Pairwise (fun p q => leP p q = true) → m.Pairwise (fun p q => leP p q = true) → l.Perm m → l = m := fun h1 h2 p => by
  refine List.Perm.eq_of_pairwise (le := fun p q => leP p q = true) (fun a b _ _ h1 h2 => ?_) h1 h2 p
  rw [leP_iff] at h1 h2
  obtain ⟨a1, a2⟩ := a
  obtain ⟨b1, b2⟩ := b
  simp at h1 h2 ⊢
  omega

theorem rep_pair {g : G} {H : Hp} {p : Int × Int} {v : V} (h : Rep g H (dPair p) v) : ∃ t, v = .ref t ∧ H t = some (.tup [.int p.1, .int p.2]) ∧ ¬ g.rl t := by
  unfold dPair at h
  rw [Rep] at h
  obtain ⟨a, xs, rfl, ⟨h1, h2⟩, l⟩ := h
  rw [RepL] at l
  obtain ⟨x, r, rfl, r1, l⟩ := l
  rw [RepL] at l
  obtain ⟨y, r, rfl, r2, l⟩ := l
  rw [RepL] at l
  subst l
  rw [Rep] at r1 r2
  subst r1 r2
  exact ⟨a, rfl, h1, h2⟩
theorem pair_rep {g : G} {H : Hp} {p : Int × Int} {t : Addr} (h : H t = some (.tup [.int p.1, .int p.2])) (n : ¬ g.rl t) : Rep g H (dPair p) (.ref t) := by
  unfold dPair
  rw [Rep]
  exact ⟨t, _, rfl, ⟨h, n⟩, RepL.cons (by rw [Rep]) (RepL.cons (by rw [Rep]) RepL.nil)⟩
/-- the pair at a value -/
noncomputable def pairAt (H : Hp) (v : V) : Int × Int := open Classical in if h : ∃ p : Int × Int, ∃ t, v = .ref t ∧ H t = some (.tup [.int p.1, .int p.2]) then h.choose else (0, 0)
theorem pairAt_eq {H : Hp} {t : Addr} {p : Int × Int} (h : H t = some (.tup [.int p.1, .int p.2])) : pairAt H (.ref t) = p := by
  have ex : ∃ p : Int × Int, ∃ t2, V.ref t = .ref t2 ∧ H t2 = some (.tup [.int p.1, .int p.2]) := ⟨p, t, rfl, h⟩
  unfold pairAt
  rw [dif_pos ex]
  obtain ⟨t2, e, h2⟩ := ex.choose_spec
  injection e with e
  subst e
  rw [h] at h2
  injection h2 with h2
  injection h2 with h2
  injection h2 with h3 h4
  injection h4 with h4 _
  injection h3 with h3
  injection h4 with h4
  exact Prod.ext h3.symm h4.symm
theorem pairs_at {g : G} {H : Hp} : ∀ {ps : List (Int × Int)} {xs : List V}, RepL g H (ps.map dPair) xs → xs.map (pairAt H) = ps ∧ ∀ x ∈ xs, ∃ t, x = V.ref t ∧ H t = some (.tup [.int (pairAt H x).1, .int (pairAt H x).2]) ∧ ¬ g.rl t
  | [], xs, h => by
    rw [List.map_nil, RepL] at h
    subst h
    exact ⟨rfl, fun x hx => by simp at hx⟩
  | p :: ps, xs, h => by
    rw [List.map_cons, RepL] at h
    obtain ⟨v, r, rfl, h1, h2⟩ := h
    obtain ⟨t, rfl, ht, hn⟩ := rep_pair h1
    obtain ⟨e1, e2⟩ := pairs_at h2
    have e := pairAt_eq ht
    refine ⟨by rw [List.map_cons, e, e1], fun x hx => ?_⟩
    rcases List.mem_cons.mp hx with rfl | hx
    · rw [e]; exact ⟨t, rfl, ht, hn⟩
    · exact e2 x hx
theorem lift_sortedP {S : Src} {K : PySem.W.Frag} : LiftA S (rSortedPO K) (fA1 fSortedP) := by
  refine lift_A1 fun g H x dx Q P I rx h hP => ?_
  cases dx with
  | lst ds =>
    rw [Rep] at rx
    obtain ⟨a, xs, rfl, ra, l⟩ := rx
    obtain ⟨ps, rfl, hq⟩ := h
    obtain ⟨e1, e2⟩ := pairs_at l
    refine ⟨a, xs, pairAt H, rfl, ra.sq, fun x hx => ?_, fun ys p hs hb hp => ?_⟩
    · obtain ⟨t, e, ht, _⟩ := e2 x hx
      exact ⟨t, e, ht⟩
    · have hmem : ∀ y ∈ ys, y ∈ xs := fun y hy => (hb.perm.mem_iff).mp hy
      have e3 : ys.map (pairAt H) = sortP ps := by
        refine sorted_uniq ?_ (sortP_sorted ps) ?_
        · refine List.pairwise_map.mpr (hs.imp fun {a b} hab => ?_)
          unfold leP
          unfold ltP at hab
          rw [hab]
          rfl
        · have := hb.perm.map (pairAt H)
          rw [e1] at this
          exact this.trans (List.mergeSort_perm ps leP).symm
      have l2 : RepL g H ((sortP ps).map dPair) ys := by
        rw [← e3]
        have : ∀ zs : List V, (∀ y ∈ zs, y ∈ xs) → RepL g H ((zs.map (pairAt H)).map dPair) zs := by
          intro zs
          induction zs with
          | nil => intro _; exact RepL.nil
          | cons z zs ih =>
            intro hz
            obtain ⟨t, e, ht, hn⟩ := e2 z (hz z (by simp))
            rw [List.map_cons, List.map_cons]
            refine RepL.cons ?_ (ih fun y hy => hz y (by simp [hy]))
            rw [e] at ht ⊢
            exact pair_rep ht hn
        exact this ys hmem
      exact hP _ _ (EPost.newL I hp l2 hq)
  | _ => exact (show False from h).elim
theorem je_sortedP {S : Src} {X : Cx} {a : Expr} {u : UA} {p pos : Pos} (hm : X.mg "sorted" = none) (ha : JA S X [a] u) (hg : Gl X "sorted" := by rfl) (hs : starEach [a] X.env = (false, eval a X.env) :: starEach [] X.env := by rfl) (hp : (backTo pos (starEach [] X.env)).any (·.1) = false := by rfl) : JE S X (.Call (.Name "sorted" p) [a] [] pos) (uF (fA1 fSortedP) u) := je_callB cr_sortedPO lift_sortedP hg hm (by decide +kernel) ha (by decide) (by decide) hs hp
end DL

/-! DLWalk3: sum of a tuple of ints. -/
namespace DL
open PySem PySem.Spec PyProof.Rows L2
theorem sum_tup {prog : Program} {w : World} {A : Around} {E : Value → Shared → Prop} {s : Shared} {t : Addr} {its : List Value} {ns : List Int} {Q : Value → Shared → Prop} (hh : A.handled = none) (ht : s.heap.IsTuple t its.toArray) (hi : IntsAre its ns)
    (hQ : ∀ h2 tk t2, (∀ b o, s.heap.get? b = some o → h2.get? b = some o) → Q (.int ns.sum t2) { s with heap := h2, toks := tk }) : wpAny (model prog w) A (call (.builtin "sum") [.ref t]) Q E s := by
  obtain ⟨xs, e⟩ := hi.allInts.items
  have hn : numsOf (intItems xs).toList = ns := by rw [← e]; exact hi.numsOf
  rw [nums_intItems] at hn
  rw [e] at ht
  have lt : t < s.heap.objs.size := by obtain ⟨_, ho, _⟩ := ht; exact Heap.lt_size ho
  refine call_sum_walkG (wpAny_pyIter_tuple ht ?_)
  have ks : ∀ b o, s.heap.get? b = some o → (s.heap.push { cls := .type "tuple_iterator", data := .fields #[.ref t, .int 0 0] }).get? b = some o := fun b o e => Heap.get?_push_of_some _ e
  refine ⟨s.heap.objs.size, _, _, _, _, _, numAt xs, rfl, Walks.tuple (A := A.in1) hh _ t (Nat.ne_of_lt lt) (intItems xs), ⟨⟨_, Heap.get?_push_size _ rfl, rfl, rfl⟩, ht.at fun o e => ks t o e⟩, fun b hb => ?_, fun _ _ => intItems_at, fun h2 tk t2 hk => ?_⟩
  · show b < (s.heap.push _).objs.size
    rw [Heap.size_push]
    rcases List.mem_cons.mp hb with z | z
    · rw [z]; exact Nat.lt_succ_self _
    · rw [List.mem_singleton.mp z]; exact Nat.lt_succ_of_lt lt
  · have := hQ h2 tk t2 fun b o e => hk b o (fun z => by
      rw [List.mem_singleton.mp z] at e
      exact absurd (Heap.lt_size e) (Nat.lt_irrefl _)) (ks b o e)
    rw [preSum_eq, List.take_of_length_le (by simp [intItems]), hn]
    exact this
@[simp] def fSumA : D → UK → Prop
  | .lst ds, Q => ∃ ns : List Int, ds = ns.map D.int ∧ Q false (.int ns.sum)
  | .tup ds, Q => ∃ ns : List Int, ds = ns.map D.int ∧ Q false (.int ns.sum)
  | _, _ => False
def rSumA (K : PySem.W.Frag) : List V → Hp → VK → Prop := fun vs H Q => rSum K vs H Q ∨ ∃ (a : Addr) (ns : List Int), vs = [V.ref a] ∧ SqT K H a (ns.map V.int) ∧ Q (.int ns.sum) H
theorem cr_sumA {X : Cx} (hc : X.calm = true) : CallR X (.builtin "sum") (rSumA X.K) := by
  intro pins s σ H vs us Q I r h
  rcases h with h | ⟨a, ns, rfl, hs, q⟩
  · exact cr_sum hc pins s σ H vs us Q I r h
  · obtain ⟨its, rv, p, hz⟩ := I.tuple hs
    rw [Vals.ref1 r]
    exact sum_tup (I.ok.hd hc) (show s.heap.IsTuple a its.toArray from p) rv.ints fun h2 tk t2 hk => ⟨.int _, H, I.kept hk, ⟨_, rfl⟩, q⟩
theorem lift_sumA {S : Src} {K : PySem.W.Frag} : LiftA S (rSumA K) (fA1 fSumA) := by
  refine lift_A1 fun g H x dx Q P I rx h hP => ?_
  cases dx with
  | lst ds =>
    rw [Rep] at rx
    obtain ⟨a, ys, rfl, ra, l⟩ := rx
    obtain ⟨ns, rfl, hq⟩ := h
    have := l.ints
    subst this
    exact .inl ⟨a, ns, rfl, ra.sq, hP _ _ (EPost.val (d := .int ns.sum) I (by rw [Rep]) hq)⟩
  | tup ds =>
    rw [Rep] at rx
    obtain ⟨a, ys, rfl, ra, l⟩ := rx
    obtain ⟨ns, rfl, hq⟩ := h
    have := l.ints
    subst this
    exact .inr ⟨a, ns, rfl, ra.sq, hP _ _ (EPost.val (d := .int ns.sum) I (by rw [Rep]) hq)⟩
  | _ => exact (show False from h).elim
theorem je_sumA {S : Src} {X : Cx} {a : Expr} {u : UA} {p pos : Pos} (hc : X.calm = true) (hm : X.mg "sum" = none) (ha : JA S X [a] u) (hg : Gl X "sum" := by rfl) (hs : starEach [a] X.env = (false, eval a X.env) :: starEach [] X.env := by rfl) (hp : (backTo pos (starEach [] X.env)).any (·.1) = false := by rfl) : JE S X (.Call (.Name "sum" p) [a] [] pos) (uF (fA1 fSumA) u) := je_callB (cr_sumA hc) lift_sumA hg hm (by decide +kernel) ha (by decide) (by decide) hs hp

/-! ### a loop over a new thing: own lists stay own, where what is walked holds no list -/
@[simp] def sForF (u : UE) (gt : UG) (ub : US) (D : UEnds) (ρ : DEnv) : Prop := u ρ fun t d => itemsOf (fun ds => HoldL (gt, ub, D) ds (settle allM t d ρ) ⟨⟩) d
theorem js_forF {S : Src} {X : Cx} {pos : Pos} {tg it : Expr} {body : List Stmt} {u : UE} {gt : UG} {vs : List Nat} {ub : US} (hp : PassesOwn (model X.prog X.w) X.A X.env X.xe) (hc : X.calm = true) (he : JE S X it u) (hg : JG S X tg gt vs) (hb : JSs S X body ub)
    (hs : ∀ x, foldedSetIterable it X.env x = pure x := by intro _; rfl) : JS S X (.For tg it body [] pos) (sForF u gt ub) := by
  obtain ⟨t1, p1, h1⟩ := he.ex
  obtain ⟨⟨t, pt, hg⟩, _⟩ := hg
  obtain ⟨tb, pb, hb⟩ := hb.ex
  refine ⟨_, ps_for hp hc (pi_seq p1) pt pb hs, fun g0 B g H ρ σ E E' I hu gl => ?_⟩
  refine I.expr allM h1 (by rw [vis_all]; exact hu) fun v H' t d g' I' r f _ q => ?_
  obtain ⟨g2, I2, r2, _⟩ := I'.share r (settle_hold I f)
  cases d with
  | lst ds =>
    rw [Rep] at r2
    obtain ⟨a, xs, rfl, ra, l⟩ := r2
    exact .inl ⟨a, rfl, ⟨xs, ra.sq⟩, for_core (vs := vs) I2 (.list ra l) hg hb q gl⟩
  | tup ds =>
    rw [Rep] at r2
    obtain ⟨a, xs, rfl, ra, l⟩ := r2
    exact .inr (.inl ⟨a, rfl, ⟨xs, ra.sq⟩, for_core (vs := vs) I2 (.tup ra l) hg hb q gl⟩)
  | str z =>
    rw [Rep] at r2
    exact .inr (.inr ⟨z, r2, for_core (vs := vs) I2 .text hg hb q gl⟩)
  | _ => exact (show False from q).elim

/-! ### constants ahead in an argument list, in one step -/
def uKs (ds : List D) (r : UA) (ρ : DEnv) (Q : List D → Prop) : Prop := r ρ fun xs => Q (ds ++ xs)
@[simp] theorem uKs_nil (ds : List D) (ρ : DEnv) (Q : List D → Prop) : uKs ds uNil ρ Q = Q ds := by simp [uKs]
@[simp] theorem uKs_cons (ds : List D) (a : UE) (r : UA) (ρ : DEnv) (Q : List D → Prop) : uKs ds (uCons a r) ρ Q = a ρ fun _ x => uKs (ds ++ [x]) r ρ Q := by
  simp [uKs]
theorem JA.to {S : Src} {X : Cx} {es : List Expr} {u : UA} (v : UA) (h : JA S X es u) (hv : ∀ (ρ : DEnv) (Q : List D → Prop), v ρ Q → u ρ Q) : JA S X es v := by
  obtain ⟨t, p, h⟩ := h.ex
  exact ⟨t, p, fun ρ σ g H Q P I R hu hP => h ρ σ g H Q P I R (hv ρ Q hu) hP⟩
end DL

/-! DLGen: generator expressions over data. -/
namespace DL
open PySem PySem.Spec PyProof.Rows L2

/-! ### all, any, tuple, sum of (elt for target in iter if ..) -/
def allU (ρ : DEnv) (gt : UG) (ut : UT) (ue : UE) : List D → (Bool → Prop) → Prop
  | [], k => k true
  | d :: r, k => match gt d with
    | some L => ut (setAll ρ (dset L)) fun b => if b = true then ue (setAll ρ (dset L)) fun _ y => isB (fun t => if t = true then allU ρ gt ut ue r k else k false) y else allU ρ gt ut ue r k
    | none => False
def anyU (ρ : DEnv) (gt : UG) (ut : UT) (ue : UE) : List D → (Bool → Prop) → Prop
  | [], k => k false
  | d :: r, k => match gt d with
    | some L => ut (setAll ρ (dset L)) fun b => if b = true then ue (setAll ρ (dset L)) fun _ y => isB (fun t => if t = true then k true else anyU ρ gt ut ue r k) y else anyU ρ gt ut ue r k
    | none => False
def sumU (ρ : DEnv) (gt : UG) (ut : UT) (ue : UE) : List D → Int → (Int → Prop) → Prop
  | [], n, k => k n
  | d :: r, n, k => match gt d with
    | some L => ut (setAll ρ (dset L)) fun b => if b = true then ue (setAll ρ (dset L)) fun _ y => isI (fun j => sumU ρ gt ut ue r (n + j) k) y else sumU ρ gt ut ue r n k
    | none => False
def uAllG (ui : UI) (gt : UG) (ut : UT) (ue : UE) (vs : List Nat) (ρ : DEnv) (Q : UK) : Prop := ui ρ fun ds => allU (wipeD ρ vs) gt ut ue ds fun b => Q false (.bl b)
def uAnyG (ui : UI) (gt : UG) (ut : UT) (ue : UE) (vs : List Nat) (ρ : DEnv) (Q : UK) : Prop := ui ρ fun ds => anyU (wipeD ρ vs) gt ut ue ds fun b => Q false (.bl b)
def uTupG (ui : UI) (gt : UG) (ut : UT) (ue : UE) (vs : List Nat) (ρ : DEnv) (Q : UK) : Prop := ui ρ fun ds => ds.length ≤ sizeLine ∧ lcU (wipeD ρ vs) gt ut ue ds [] fun ys => Q false (.tup ys)
def uSumG (ui : UI) (gt : UG) (ut : UT) (ue : UE) (vs : List Nat) (ρ : DEnv) (Q : UK) : Prop := ui ρ fun ds => sumU (wipeD ρ vs) gt ut ue ds 0 fun n => Q false (.int n)

section
variable {S : Src} {g1 : G} {H1 H2 : Hp}
theorem Grown.step (I : HInv S g1 H1) (gr : GX.Grown S.tb H1 H2) : Step g1 H1 g1 H2 ∧ HInv S g1 H2 := by
  obtain ⟨kp, tb, tab⟩ := gr
  have nb : ∀ a o, g1.fz a → H1 a = some o → ∀ ps, o ≠ .tbl ps := fun a o f e ps z => I.tb.2 a o f e (by rw [z]; trivial)
  have nr : ∀ a o, g1.rl a → H1 a = some o → ∀ ps, o ≠ .tbl ps := fun a o f e ps z => S.nb _ _ _ _ _ (I.rl ⟨a, f⟩) f e (by rw [z]; trivial)
  refine ⟨⟨fun _ h => h, fun _ h => .inl h, fun _ h => h, fun _ h => .inl h, fun _ => rfl, fun a o e _ nt => kp a o e nt, fun a o e => ?_⟩, ⟨fun a f => ?_, I.dis, fun x => S.loc _ _ _ _ (fun a f => ?_) (I.rl x), tab, fun a o f e => ?_⟩⟩
  · cases o with
    | tbl ps => obtain ⟨more, z⟩ := tb a ps e; exact ⟨_, z⟩
    | _ => exact ⟨_, kp a _ e (fun _ z => by cases z)⟩
  · obtain ⟨o, e⟩ := I.fz a f
    exact ⟨o, kp a o e (nb a o f e)⟩
  · obtain ⟨o, e⟩ := I.trl f
    rw [e, kp a o e (nr a o f e)]
  · obtain ⟨o', e'⟩ := I.fz a f
    have := kp a o' e' (nb a o' f e')
    rw [e] at this
    cases this
    exact I.tb.2 a o f e'
end
section
variable {S : Src} {X : Cx} {elt tg iter : Expr} {ifs : List Expr} {scope : Scope} {own : List (Str × Nat)} {pos gpos p : Pos} {k : Nat} {ui : UI} {gt : UG} {ut : UT} {ue : UE}
/-- the turns of a generator expression read over data: x what the user has so far, Φ how it stands, Rem what is read of the items to come, Oy of an item that comes -/
theorem turns_lift {ι : Type} {vs : List Nat} {σ : L2.St} {ρ : DEnv} {g1 : G} {H1 : Hp} {J : It} {ds : List D} {Φ : ι → G → Hp → Prop} {Rem : ι → List D → Prop} {Oy : ι → List D → D → Prop} (hon : ∀ d L, gt d = some L → ∀ p ∈ L, p.1 ∈ vs) (I1 : HInv S g1 H1) (R : RepS g1 H1 ρ σ) (W : Walks S g1 H1 J ds)
    (hΦ : ∀ x g H, Φ x g H → Step g1 H1 g H ∧ HInv S g H) (hstep : ∀ x g H g' H', Φ x g H → Step g H g' H' → HInv S g' H' → Φ x g' H')
    (hs : ∀ x d r, Rem x (d :: r) → ∃ L, gt d = some L ∧ ut (setAll (wipeD ρ vs) (dset L)) fun b => if b = true then ue (setAll (wipeD ρ vs) (dset L)) fun _ y => Oy x r y else Rem x r) (M : Nat) :
    GX.Turns J (canG gt) (canT S ut) (canE S ue) σ vs (fun i m H => m ≤ M ∧ m = ds.length - i ∧ i ≤ ds.length ∧ ∃ x g, Φ x g H ∧ Rem x (ds.drop i)) (fun H => ∃ x g, Φ x g H ∧ Rem x [])
      (fun v i' H' => ∃ x g d, Φ x g H' ∧ Rep g H' d v ∧ i' ≤ ds.length ∧ ds.length - i' < M ∧ Oy x (ds.drop i') d) := by
  rintro i m H ⟨hM, rfl, hi, x, g, hx, hr⟩
  obtain ⟨st, hiv⟩ := hΦ x g H hx
  by_cases hlt : i < ds.length
  · refine .inr ⟨W.go i g H (st.up I1) hiv hlt, fun H' => ∃ g, Φ x g H' ∧ Rem x (ds.drop (i + 1)), fun H' ⟨g', h1, h2⟩ => ⟨ds.length - (i + 1), by omega, by omega, rfl, hlt, x, g', h1, h2⟩, fun v H' y => ?_⟩
    have hd : ds[i]? = some ds[i] := List.getElem?_eq_getElem hlt
    obtain ⟨g2, s2, I2, r2⟩ := W.yld i g H v H' ds[i] (st.up I1) hiv hd y
    rw [List.drop_eq_getElem_cons hlt] at hr
    obtain ⟨L, hL, hu⟩ := hs x _ _ hr
    have hx2 := hstep x _ _ _ _ hx s2 I2
    refine ⟨g2, ds[i], L, r2, hL, fun Mv hMv => ⟨wipe_setAll (hMv.on (hon _ _ hL)) |>.trans ?_, ?_⟩⟩
    · exact (List.ext_getElem? fun j => by
        by_cases hj : j ∈ vs
        · rw [wipe_in hj, wipe_in hj]
          cases (σ[j]?) <;> rfl
        · rw [wipe_out hj])
    have Rw : RepS g2 H' (wipeD ρ vs) (L2.wipe σ vs) := (R.step I1 (st.trans s2)).wipe vs
    have Rs := hMv.reps Rw
    refine ⟨_, g2, _, I2, Rs, hu, fun b H4 tp => ?_⟩
    obtain ⟨g4, s4, I4, q4⟩ := tp
    have hx4 := hstep x _ _ _ _ hx2 s4 I4
    cases b with
    | false =>
      simp only [Bool.false_eq_true, if_false] at q4 ⊢
      exact ⟨g4, hx4, q4⟩
    | true =>
      simp only [if_true] at q4 ⊢
      refine ⟨_, g4, _, I4, Rs.step I2 s4, q4, fun v5 H5 e5 => ?_⟩
      obtain ⟨g5, yd, s5, I5, r5, _, q5⟩ := e5.rep
      exact ⟨x, g5, yd, hstep x _ _ _ _ hx4 s5 I5, r5, hlt, by omega, q5⟩
  · have e : i = ds.length := by omega
    subst e
    rw [List.drop_length] at hr
    exact .inl ⟨W.stop _ g H (st.up I1) hiv (Nat.le_refl _), x, g, hx, hr⟩
theorem Turns_imp {J : It} {g : TG} {tt : TT} {te : TE} {σ : L2.St} {vs : List Nat} {W W' : Nat → Nat → Hp → Prop} {Dn Dn' : Hp → Prop} {Yd Yd' : V → Nat → Hp → Prop} (hmt : ∀ σ H (Q Q' : Bool → Hp → Prop), (∀ b H, Q b H → Q' b H) → tt σ H Q → tt σ H Q') (hme : ∀ σ H (Q Q' : VK), (∀ b H, Q b H → Q' b H) → te σ H Q → te σ H Q') (hmg : ∀ v σ H (Q Q' : L2.St → Hp → Prop), (∀ b H, Q b H → Q' b H) → g v σ H Q → g v σ H Q')
    (t : GX.Turns J g tt te σ vs W Dn Yd) (hw : ∀ i m H, W' i m H → W i m H) (hw2 : ∀ i m H, W i m H → W' i m H) (hd : ∀ H, Dn H → Dn' H) (hy : ∀ v i H, Yd v i H → Yd' v i H) : GX.Turns J g tt te σ vs W' Dn' Yd' := by
  intro i m H w
  rcases t i m H (hw i m H w) with ⟨h1, h2⟩ | ⟨h1, Nx, h2, h3⟩
  · exact .inl ⟨h1, hd H h2⟩
  · refine .inr ⟨h1, Nx, fun H' n => ?_, fun x H' y => ?_⟩
    · obtain ⟨m', q1, q2⟩ := h2 H' n
      exact ⟨m', q1, hw2 _ _ _ q2⟩
    · refine hmg _ _ _ _ _ (fun σ2 H2 q => ⟨q.1, hmt _ _ _ _ (fun b H3 q3 => ?_) q.2⟩) (h3 x H' y)
      cases b with
      | true => exact hme _ _ _ _ (fun v H4 q4 => hy _ _ _ q4) q3
      | false => exact q3
theorem canE_mono {u : UE} : ∀ σ H (Q Q' : VK), (∀ b H, Q b H → Q' b H) → canE S u σ H Q → canE S u σ H Q' := fun σ H Q Q' h ⟨ρ, g, R, h1, h2, h3, h4⟩ => ⟨ρ, g, R, h1, h2, h3, fun v H' e => h _ _ (h4 v H' e)⟩
theorem canT_mono {u : UT} : ∀ σ H (Q Q' : Bool → Hp → Prop), (∀ b H, Q b H → Q' b H) → canT S u σ H Q → canT S u σ H Q' := fun σ H Q Q' h ⟨ρ, g, R, h1, h2, h3, h4⟩ => ⟨ρ, g, R, h1, h2, h3, fun v H' e => h _ _ (h4 v H' e)⟩
theorem canG_mono {u : UG} : ∀ v σ H (Q Q' : L2.St → Hp → Prop), (∀ b H, Q b H → Q' b H) → canG u v σ H Q → canG u v σ H Q' := fun v σ H Q Q' h ⟨g, d, L, h1, h2, h3⟩ => ⟨g, d, L, h1, h2, fun M hM => h _ _ (h3 M hM)⟩

abbrev JGenG (S : Src) (X : Cx) (scope : Scope) (k : Nat) (tg : Expr) (gt : UG) (vs : List Nat) : Prop := GX.InGen X S.tb scope k fun X' => JG S X' tg gt vs
theorem lift_allG {vs : List Nat} (hon : ∀ d L, gt d = some L → ∀ p ∈ L, p.1 ∈ vs) {ρ : DEnv} {σ : L2.St} {g : G} {H : Hp} {Q : UK} {P : VK} (I : HInv S g H) (R : RepS g H ρ σ) (hu : uAllG ui gt ut ue vs ρ Q) (hP : ∀ v H', EPost S g H Q v H' → P v H') :
    GX.tAllG S.tb (canI S ui) (canG gt) (canT S ut) (canE S ue) vs σ H P := by
  refine ⟨ρ, g, _, I, R, hu, fun J H1 g1 ds s1 I1 W hq => ⟨I1.tb.1, fun H2 gr => ?_⟩⟩
  obtain ⟨s2, I2⟩ := Grown.step I1 gr
  have W2 : Walks S g1 H2 J ds := ⟨fun i g' H' u => W.go i g' H' ((s2.up I1).trans u), fun i g' H' u => W.stop i g' H' ((s2.up I1).trans u), fun i g' H' x H'' d u => W.yld i g' H' x H'' d ((s2.up I1).trans u)⟩
  let Φ : Unit → G → Hp → Prop := fun _ g' H' => Step g1 H2 g' H' ∧ HInv S g' H'
  let Rem : Unit → List D → Prop := fun _ r => allU (wipeD ρ vs) gt ut ue r fun b => Q false (.bl b)
  refine ⟨fun i m H => m = ds.length - i ∧ i ≤ ds.length ∧ ∃ x g, Φ x g H ∧ Rem x (ds.drop i), ⟨_, rfl, Nat.zero_le _, (), g1, ⟨Step.refl _ _, I2⟩, hq⟩, fun M => ?_⟩
  refine Turns_imp canT_mono canE_mono canG_mono (turns_lift (Φ := Φ) (Rem := Rem) (Oy := fun _ r y => isB (fun t => if t = true then Rem () r else Q false (.bl false)) y) hon I2 ((R.step I s1).step I1 s2) W2 (fun _ _ _ h => h) (fun x g H g' H' h s I' => ⟨h.1.trans s, I'⟩) (fun x d r h => ?_) M) (fun _ _ _ h => h) (fun _ _ _ h => h) (fun H' h => ?_) fun v i' H' h => ?_
  · show ∃ L, _
    have h : allU (wipeD ρ vs) gt ut ue (d :: r) _ := h
    rw [allU] at h
    cases e : gt d with
    | none => rw [e] at h; exact h.elim
    | some L => rw [e] at h; exact ⟨L, rfl, h⟩
  · obtain ⟨_, g', ⟨st, hi⟩, q⟩ := h
    exact hP _ _ ((EPost.val hi (by rw [Rep]) q).after (s1.trans (s2.trans st)))
  · obtain ⟨_, g', d, ⟨st, hi⟩, r, hi', hm, o⟩ := h
    cases d with
    | bl b =>
      rw [Rep] at r
      refine ⟨b, r, ?_⟩
      have o : if b = true then Rem () (ds.drop i') else Q false (.bl false) := o
      cases b with
      | true =>
        simp only [if_true] at o ⊢
        exact ⟨_, hm, rfl, hi', (), g', ⟨st, hi⟩, o⟩
      | false =>
        simp only [Bool.false_eq_true, if_false] at o ⊢
        exact hP _ _ ((EPost.val hi (by rw [Rep]) o).after (s1.trans (s2.trans st)))
    | _ => exact o.elim
theorem lift_anyG {vs : List Nat} (hon : ∀ d L, gt d = some L → ∀ p ∈ L, p.1 ∈ vs) {ρ : DEnv} {σ : L2.St} {g : G} {H : Hp} {Q : UK} {P : VK} (I : HInv S g H) (R : RepS g H ρ σ) (hu : uAnyG ui gt ut ue vs ρ Q) (hP : ∀ v H', EPost S g H Q v H' → P v H') :
    GX.tAnyG S.tb (canI S ui) (canG gt) (canT S ut) (canE S ue) vs σ H P := by
  refine ⟨ρ, g, _, I, R, hu, fun J H1 g1 ds s1 I1 W hq => ⟨I1.tb.1, fun H2 gr => ?_⟩⟩
  obtain ⟨s2, I2⟩ := Grown.step I1 gr
  have W2 : Walks S g1 H2 J ds := ⟨fun i g' H' u => W.go i g' H' ((s2.up I1).trans u), fun i g' H' u => W.stop i g' H' ((s2.up I1).trans u), fun i g' H' x H'' d u => W.yld i g' H' x H'' d ((s2.up I1).trans u)⟩
  let Φ : Unit → G → Hp → Prop := fun _ g' H' => Step g1 H2 g' H' ∧ HInv S g' H'
  let Rem : Unit → List D → Prop := fun _ r => anyU (wipeD ρ vs) gt ut ue r fun b => Q false (.bl b)
  refine ⟨fun i m H => m = ds.length - i ∧ i ≤ ds.length ∧ ∃ x g, Φ x g H ∧ Rem x (ds.drop i), ⟨_, rfl, Nat.zero_le _, (), g1, ⟨Step.refl _ _, I2⟩, hq⟩, fun M => ?_⟩
  refine Turns_imp canT_mono canE_mono canG_mono (turns_lift (Φ := Φ) (Rem := Rem) (Oy := fun _ r y => isB (fun t => if t = true then Q false (.bl true) else Rem () r) y) hon I2 ((R.step I s1).step I1 s2) W2 (fun _ _ _ h => h) (fun x g H g' H' h s I' => ⟨h.1.trans s, I'⟩) (fun x d r h => ?_) M) (fun _ _ _ h => h) (fun _ _ _ h => h) (fun H' h => ?_) fun v i' H' h => ?_
  · show ∃ L, _
    have h : anyU (wipeD ρ vs) gt ut ue (d :: r) _ := h
    rw [anyU] at h
    cases e : gt d with
    | none => rw [e] at h; exact h.elim
    | some L => rw [e] at h; exact ⟨L, rfl, h⟩
  · obtain ⟨_, g', ⟨st, hi⟩, q⟩ := h
    exact hP _ _ ((EPost.val hi (by rw [Rep]) q).after (s1.trans (s2.trans st)))
  · obtain ⟨_, g', d, ⟨st, hi⟩, r, hi', hm, o⟩ := h
    cases d with
    | bl b =>
      rw [Rep] at r
      refine ⟨b, r, ?_⟩
      have o : if b = true then Q false (.bl true) else Rem () (ds.drop i') := o
      cases b with
      | false =>
        simp only [Bool.false_eq_true, if_false] at o ⊢
        exact ⟨_, hm, rfl, hi', (), g', ⟨st, hi⟩, o⟩
      | true =>
        simp only [if_true] at o ⊢
        exact hP _ _ ((EPost.val hi (by rw [Rep]) o).after (s1.trans (s2.trans st)))
    | _ => exact o.elim
theorem lift_sumG {vs : List Nat} (hon : ∀ d L, gt d = some L → ∀ p ∈ L, p.1 ∈ vs) {ρ : DEnv} {σ : L2.St} {g : G} {H : Hp} {Q : UK} {P : VK} (I : HInv S g H) (R : RepS g H ρ σ) (hu : uSumG ui gt ut ue vs ρ Q) (hP : ∀ v H', EPost S g H Q v H' → P v H') :
    GX.tSumG S.tb (canI S ui) (canG gt) (canT S ut) (canE S ue) vs σ H P := by
  refine ⟨ρ, g, _, I, R, hu, fun J H1 g1 ds s1 I1 W hq => ⟨I1.tb.1, fun H2 gr => ?_⟩⟩
  obtain ⟨s2, I2⟩ := Grown.step I1 gr
  have W2 : Walks S g1 H2 J ds := ⟨fun i g' H' u => W.go i g' H' ((s2.up I1).trans u), fun i g' H' u => W.stop i g' H' ((s2.up I1).trans u), fun i g' H' x H'' d u => W.yld i g' H' x H'' d ((s2.up I1).trans u)⟩
  let Φ : Unit → G → Hp → Prop := fun _ g' H' => Step g1 H2 g' H' ∧ HInv S g' H'
  refine ⟨fun i m n H => m = ds.length - i ∧ i ≤ ds.length ∧ ∃ x g, Φ x g H ∧ (fun (_ : Unit) r => sumU (wipeD ρ vs) gt ut ue r n fun n => Q false (.int n)) x (ds.drop i), ⟨_, rfl, Nat.zero_le _, (), g1, ⟨Step.refl _ _, I2⟩, hq⟩, fun M n => ?_⟩
  refine Turns_imp canT_mono canE_mono canG_mono (turns_lift (Φ := Φ) (Rem := fun (_ : Unit) r => sumU (wipeD ρ vs) gt ut ue r n fun n => Q false (.int n)) (Oy := fun _ r y => isI (fun j => sumU (wipeD ρ vs) gt ut ue r (n + j) fun n => Q false (.int n)) y) hon I2 ((R.step I s1).step I1 s2) W2 (fun _ _ _ h => h) (fun x g H g' H' h s I' => ⟨h.1.trans s, I'⟩) (fun x d r h => ?_) M) (fun _ _ _ h => h) (fun _ _ _ h => h) (fun H' h => ?_) fun v i' H' h => ?_
  · show ∃ L, _
    have h : sumU (wipeD ρ vs) gt ut ue (d :: r) n _ := h
    rw [sumU] at h
    cases e : gt d with
    | none => rw [e] at h; exact h.elim
    | some L => rw [e] at h; exact ⟨L, rfl, h⟩
  · obtain ⟨_, g', ⟨st, hi⟩, q⟩ := h
    exact hP _ _ ((EPost.val hi (by rw [Rep]) q).after (s1.trans (s2.trans st)))
  · obtain ⟨_, g', d, ⟨st, hi⟩, r, hi', hm, o⟩ := h
    cases d with
    | int j =>
      rw [Rep] at r
      exact ⟨j, r, _, hm, rfl, hi', (), g', ⟨st, hi⟩, o⟩
    | _ => exact o.elim
theorem lift_tupG {vs : List Nat} (hon : ∀ d L, gt d = some L → ∀ p ∈ L, p.1 ∈ vs) {ρ : DEnv} {σ : L2.St} {g : G} {H : Hp} {Q : UK} {P : VK} (I : HInv S g H) (R : RepS g H ρ σ) (hu : uTupG ui gt ut ue vs ρ Q) (hP : ∀ v H', EPost S g H Q v H' → P v H') :
    GX.tTupG S.tb (canI S ui) (canG gt) (canT S ut) (canE S ue) vs σ H P := by
  refine ⟨ρ, g, _, I, R, hu, fun J H1 g1 ds s1 I1 W hq => ⟨I1.tb.1, fun H2 gr => ?_⟩⟩
  obtain ⟨hz, hq⟩ := hq
  obtain ⟨s2, I2⟩ := Grown.step I1 gr
  have W2 : Walks S g1 H2 J ds := ⟨fun i g' H' u => W.go i g' H' ((s2.up I1).trans u), fun i g' H' u => W.stop i g' H' ((s2.up I1).trans u), fun i g' H' x H'' d u => W.yld i g' H' x H'' d ((s2.up I1).trans u)⟩
  let Φ : List V → List D → G → Hp → Prop := fun vs es g' H' => Step g1 H2 g' H' ∧ HInv S g' H' ∧ RepL g' H' es vs
  let Rem : List D → List D → Prop := fun es r => es.length + r.length ≤ sizeLine ∧ lcU (wipeD ρ vs) gt ut ue r es fun ys => Q false (.tup ys)
  refine ⟨fun i m ys H => m = ds.length - i ∧ i ≤ ds.length ∧ ∃ x g, Φ ys x g H ∧ Rem x (ds.drop i), ⟨_, rfl, Nat.zero_le _, [], g1, ⟨Step.refl _ _, I2, RepL.nil⟩, by simpa using hz, hq⟩, fun M ys => ?_⟩
  refine Turns_imp canT_mono canE_mono canG_mono (turns_lift (Φ := Φ ys) (Rem := Rem) (Oy := fun es r y => es.length + 1 + r.length ≤ sizeLine ∧ lcU (wipeD ρ vs) gt ut ue r (es ++ [y]) fun ys => Q false (.tup ys)) hon I2 ((R.step I s1).step I1 s2) W2 (fun _ _ _ h => ⟨h.1, h.2.1⟩) (fun x g H g' H' h s I' => ⟨h.1.trans s, I', h.2.2.step h.2.1 s⟩) (fun x d r h => ?_) M) (fun _ _ _ h => h) (fun _ _ _ h => h) (fun H' h => ?_) fun v i' H' h => ?_
  · show ∃ L, _
    obtain ⟨hl, h⟩ := h
    rw [lcU] at h
    rw [List.length_cons] at hl
    cases e : gt d with
    | none => rw [e] at h; exact h.elim
    | some L =>
      rw [e] at h
      refine ⟨L, rfl, ?_⟩
      have e1 : x.length + 1 + r.length ≤ sizeLine := by omega
      have e2 : x.length + r.length ≤ sizeLine := by omega
      simpa only [Rem, e1, e2, true_and] using h
  · obtain ⟨es, g', ⟨st, hi, rl⟩, hl, q⟩ := h
    refine ⟨by rw [rl.len]; simpa using hl, fun p hp => hP _ _ ((EPost.newT hi hp rl q).after (s1.trans (s2.trans st)))⟩
  · obtain ⟨es, g', d, ⟨st, hi, rl⟩, r, hi', hm, hl, o⟩ := h
    refine ⟨by rw [rl.len]; omega, _, hm, rfl, hi', es ++ [d], g', ⟨st, hi, rl.append (RepL.cons r RepL.nil)⟩, by rw [List.length_append]; exact hl, o⟩

theorem je_allG (hr : Room (k + 2) X.A) (hc : X.calm = true) (hN : X.N.Nodup) (cu : GX.CodeUse S.tb X) (ok : GX.GenOk X.N X.env.scope scope own) (hm : X.mg "all" = none) (hi : JI S X tg iter ui)
    (hg : GX.InGen X S.tb scope k fun X' => JG S X' tg gt (own.map (·.2))) (ht : GX.InGen X S.tb scope k fun X' => JTs S X' ifs ut) (he : GX.InGen X S.tb scope k fun X' => JE S X' elt ue) (hon : ∀ d L, gt d = some L → ∀ p ∈ L, p.1 ∈ own.map (·.2)) (hgl : Gl X "all" := by rfl)
    (hs : ∀ v, genFold iter X.env v = pure v := by intro _; rfl) (hst : starEach [.GeneratorExp elt [⟨tg, iter, ifs, 0⟩] scope gpos] X.env = (false, eval (.GeneratorExp elt [⟨tg, iter, ifs, 0⟩] scope gpos) X.env) :: starEach [] X.env := by rfl) :
    JE S X (.Call (.Name "all" p) [.GeneratorExp elt [⟨tg, iter, ifs, 0⟩] scope gpos] [] pos) (uAllG ui gt ut ue (own.map (·.2))) :=
  ⟨_, GX.pe_allG hr hc hN cu ok hgl hm hi.can (fun A s H cl C code bi fp r c => (hg A s H cl C code bi fp r c).can) (fun A s H cl C code bi fp r c => (ht A s H cl C code bi fp r c).ps) (fun A s H cl C code bi fp r c => (he A s H cl C code bi fp r c).can) hs hst,
    fun ρ σ g H Q P I R hu hP => lift_allG hon I R hu hP⟩
theorem je_anyG (hr : Room (k + 2) X.A) (hc : X.calm = true) (hN : X.N.Nodup) (cu : GX.CodeUse S.tb X) (ok : GX.GenOk X.N X.env.scope scope own) (hm : X.mg "any" = none) (hi : JI S X tg iter ui)
    (hg : GX.InGen X S.tb scope k fun X' => JG S X' tg gt (own.map (·.2))) (ht : GX.InGen X S.tb scope k fun X' => JTs S X' ifs ut) (he : GX.InGen X S.tb scope k fun X' => JE S X' elt ue) (hon : ∀ d L, gt d = some L → ∀ p ∈ L, p.1 ∈ own.map (·.2)) (hgl : Gl X "any" := by rfl)
    (hs : ∀ v, genFold iter X.env v = pure v := by intro _; rfl) (hst : starEach [.GeneratorExp elt [⟨tg, iter, ifs, 0⟩] scope gpos] X.env = (false, eval (.GeneratorExp elt [⟨tg, iter, ifs, 0⟩] scope gpos) X.env) :: starEach [] X.env := by rfl) :
    JE S X (.Call (.Name "any" p) [.GeneratorExp elt [⟨tg, iter, ifs, 0⟩] scope gpos] [] pos) (uAnyG ui gt ut ue (own.map (·.2))) :=
  ⟨_, GX.pe_anyG hr hc hN cu ok hgl hm hi.can (fun A s H cl C code bi fp r c => (hg A s H cl C code bi fp r c).can) (fun A s H cl C code bi fp r c => (ht A s H cl C code bi fp r c).ps) (fun A s H cl C code bi fp r c => (he A s H cl C code bi fp r c).can) hs hst,
    fun ρ σ g H Q P I R hu hP => lift_anyG hon I R hu hP⟩
theorem je_sumG (hr : Room (k + 2) X.A) (hc : X.calm = true) (hN : X.N.Nodup) (cu : GX.CodeUse S.tb X) (ok : GX.GenOk X.N X.env.scope scope own) (hm : X.mg "sum" = none) (hi : JI S X tg iter ui)
    (hg : GX.InGen X S.tb scope k fun X' => JG S X' tg gt (own.map (·.2))) (ht : GX.InGen X S.tb scope k fun X' => JTs S X' ifs ut) (he : GX.InGen X S.tb scope k fun X' => JE S X' elt ue) (hon : ∀ d L, gt d = some L → ∀ p ∈ L, p.1 ∈ own.map (·.2)) (hgl : Gl X "sum" := by rfl)
    (hs : ∀ v, genFold iter X.env v = pure v := by intro _; rfl) (hst : starEach [.GeneratorExp elt [⟨tg, iter, ifs, 0⟩] scope gpos] X.env = (false, eval (.GeneratorExp elt [⟨tg, iter, ifs, 0⟩] scope gpos) X.env) :: starEach [] X.env := by rfl) :
    JE S X (.Call (.Name "sum" p) [.GeneratorExp elt [⟨tg, iter, ifs, 0⟩] scope gpos] [] pos) (uSumG ui gt ut ue (own.map (·.2))) :=
  ⟨_, GX.pe_sumG hr hc hN cu ok hgl hm hi.can (fun A s H cl C code bi fp r c => (hg A s H cl C code bi fp r c).can) (fun A s H cl C code bi fp r c => (ht A s H cl C code bi fp r c).ps) (fun A s H cl C code bi fp r c => (he A s H cl C code bi fp r c).can) hs hst,
    fun ρ σ g H Q P I R hu hP => lift_sumG hon I R hu hP⟩
theorem je_tupG (hr : Room (k + 4) X.A) (hc : X.calm = true) (hN : X.N.Nodup) (cu : GX.CodeUse S.tb X) (ok : GX.GenOk X.N X.env.scope scope own) (hm : X.mg "tuple" = none) (hi : JI S X tg iter ui)
    (hg : GX.InGen X S.tb scope k fun X' => JG S X' tg gt (own.map (·.2))) (ht : GX.InGen X S.tb scope k fun X' => JTs S X' ifs ut) (he : GX.InGen X S.tb scope k fun X' => JE S X' elt ue) (hon : ∀ d L, gt d = some L → ∀ p ∈ L, p.1 ∈ own.map (·.2)) (hgl : Gl X "tuple" := by rfl)
    (hs : ∀ v, genFold iter X.env v = pure v := by intro _; rfl) (hst : starEach [.GeneratorExp elt [⟨tg, iter, ifs, 0⟩] scope gpos] X.env = (false, eval (.GeneratorExp elt [⟨tg, iter, ifs, 0⟩] scope gpos) X.env) :: starEach [] X.env := by rfl) :
    JE S X (.Call (.Name "tuple" p) [.GeneratorExp elt [⟨tg, iter, ifs, 0⟩] scope gpos] [] pos) (uTupG ui gt ut ue (own.map (·.2))) :=
  ⟨_, GX.pe_tupG hr hc hN cu ok hgl hm hi.can (fun A s H cl C code bi fp r c => (hg A s H cl C code bi fp r c).can) (fun A s H cl C code bi fp r c => (ht A s H cl C code bi fp r c).ps) (fun A s H cl C code bi fp r c => (he A s H cl C code bi fp r c).can) hs hst,
    fun ρ σ g H Q P I R hu hP => lift_tupG hon I R hu hP⟩
end
end DL

/-! DLFun: readings as functions: what a def computes, as a Lean function over data; and that this suffices for its reading. -/
namespace DL
open PySem PySem.Spec PyProof.Rows L2

/-! ### two worlds: values that may fail; wishes -/
class Mo (M : Type → Type) where
  ret : {α : Type} → α → M α
  bnd : {α β : Type} → M α → (α → M β) → M β
  ofO : {α : Type} → Option α → M α
  run : {α : Type} → M α → (α → Prop) → Prop
  run_ret : ∀ {α : Type} {a : α} {Q : α → Prop}, run (ret a) Q ↔ Q a
  run_bnd : ∀ {α β : Type} {m : M α} {f : α → M β} {Q : β → Prop}, run (bnd m f) Q ↔ run m fun a => run (f a) Q
  run_ofO : ∀ {α : Type} {o : Option α} {Q : α → Prop}, run (ofO o) Q ↔ ∃ a, o = some a ∧ Q a
  mono : ∀ {α : Type} {m : M α} {Q Q' : α → Prop}, (∀ a, Q a → Q' a) → run m Q → run m Q'
open Mo (ret bnd ofO run run_ret run_bnd run_ofO)
@[reducible] instance : Mo Option where
  ret := some
  bnd := Option.bind
  ofO := fun o => o
  run := fun o Q => ∃ a, o = some a ∧ Q a
  run_ret := ⟨fun ⟨_, e, h⟩ => by cases e; exact h, fun h => ⟨_, rfl, h⟩⟩
  run_bnd := fun {α β m f Q} => by
    cases m with
    | none => exact ⟨fun ⟨_, e, _⟩ => (by cases e), fun ⟨_, e, _⟩ => (by cases e)⟩
    | some a => exact ⟨fun h => ⟨a, rfl, h⟩, fun ⟨b, e, h⟩ => (by cases e; exact h)⟩
  run_ofO := Iff.rfl
  mono := fun h ⟨a, e, q⟩ => ⟨a, e, h a q⟩
/-- wishes -/
structure P (α : Type) : Type where
  p : (α → Prop) → Prop
  mono : ∀ {Q Q' : α → Prop}, (∀ a, Q a → Q' a) → p Q → p Q'
@[reducible] instance : Mo P where
  ret := fun a => ⟨fun Q => Q a, fun h q => h _ q⟩
  bnd := fun m f => ⟨fun Q => m.p fun a => (f a).p Q, fun h q => m.mono (fun a q => (f a).mono h q) q⟩
  ofO := fun o => ⟨fun Q => ∃ a, o = some a ∧ Q a, fun h ⟨a, e, q⟩ => ⟨a, e, h a q⟩⟩
  run := fun m Q => m.p Q
  run_ret := Iff.rfl
  run_bnd := Iff.rfl
  run_ofO := Iff.rfl
  mono := fun {α m Q Q'} h q => m.mono h q

section
variable {M : Type → Type} [Mo M] {α β γ : Type}
@[simp] theorem mo_some (a : α) : (ret a : Option α) = some a := rfl
@[simp] theorem mo_bind (m : Option α) (f : α → Option β) : bnd m f = m.bind f := rfl
@[simp] theorem mo_ofO (m : Option α) : (ofO m : Option α) = m := rfl
@[simp] theorem p_ret (a : α) (Q : α → Prop) : (ret a : P α).p Q = Q a := rfl
@[simp] theorem p_bnd (m : P α) (f : α → P β) (Q : β → Prop) : (bnd m f).p Q = m.p fun a => (f a).p Q := rfl
@[simp] theorem p_ofO (o : Option α) (Q : α → Prop) : (ofO o : P α).p Q = ∃ a, o = some a ∧ Q a := rfl
def fail : M α := ofO none
def op1 (f : D → Option α) (a : M D) : M α := bnd a fun x => ofO (f x)
def op2 (f : D → D → Option α) (a b : M D) : M α := bnd a fun x => bnd b fun y => ofO (f x y)
def op3 (f : D → D → D → Option α) (a b c : M D) : M α := bnd a fun x => bnd b fun y => bnd c fun z => ofO (f x y z)
def op4 (f : D → D → D → D → Option α) (a b c d : M D) : M α := bnd a fun x => bnd b fun y => bnd c fun z => bnd d fun u => ofO (f x y z u)
def op5 (f : D → D → D → D → D → Option α) (a b c d e : M D) : M α := bnd a fun x => bnd b fun y => bnd c fun z => bnd d fun u => bnd e fun v => ofO (f x y z u v)
def op6 (f : D → D → D → D → D → D → Option α) (a b c d e g : M D) : M α := bnd a fun x => bnd b fun y => bnd c fun z => bnd d fun u => bnd e fun v => bnd g fun w => ofO (f x y z u v w)
def op7 (f : D → D → D → D → D → D → D → Option α) (a b c d e g h : M D) : M α := bnd a fun x => bnd b fun y => bnd c fun z => bnd d fun u => bnd e fun v => bnd g fun w => bnd h fun w' => ofO (f x y z u v w w')
def op8 (f : D → D → D → D → D → D → D → D → Option α) (a b c d e g h i : M D) : M α := bnd a fun x => bnd b fun y => bnd c fun z => bnd d fun u => bnd e fun v => bnd g fun w => bnd h fun w' => bnd i fun w'' => ofO (f x y z u v w w' w'')
@[simp] theorem op1_some (f : D → Option α) (x : D) : op1 (M := Option) f (some x) = f x := rfl
@[simp] theorem op2_some (f : D → D → Option α) (x y : D) : op2 (M := Option) f (some x) (some y) = f x y := rfl
@[simp] theorem op3_some (f : D → D → D → Option α) (x y z : D) : op3 (M := Option) f (some x) (some y) (some z) = f x y z := rfl
@[simp] theorem op4_some (f : D → D → D → D → Option α) (x y z u : D) : op4 (M := Option) f (some x) (some y) (some z) (some u) = f x y z u := rfl
@[simp] theorem op5_some (f : D → D → D → D → D → Option α) (x y z u v : D) : op5 (M := Option) f (some x) (some y) (some z) (some u) (some v) = f x y z u v := rfl
@[simp] theorem op6_some (f : D → D → D → D → D → D → Option α) (x y z u v w : D) : op6 (M := Option) f (some x) (some y) (some z) (some u) (some v) (some w) = f x y z u v w := rfl
@[simp] theorem op7_some (f : D → D → D → D → D → D → D → Option α) (x y z u v w w' : D) : op7 (M := Option) f (some x) (some y) (some z) (some u) (some v) (some w) (some w') = f x y z u v w w' := rfl
@[simp] theorem op8_some (f : D → D → D → D → D → D → D → D → Option α) (x y z u v w w' w'' : D) : op8 (M := Option) f (some x) (some y) (some z) (some u) (some v) (some w) (some w') (some w'') = f x y z u v w w' w'' := rfl
def args : List (M D) → M (List D)
  | [] => ret []
  | m :: ms => bnd m fun x => bnd (args ms) fun xs => ret (x :: xs)
@[simp] theorem args_nil : args ([] : List (Option D)) = some [] := rfl
@[simp] theorem args_some (x : D) (ms : List (Option D)) : args (some x :: ms) = (args ms).map (x :: ·) := by
  show (args ms).bind (fun xs => some (x :: xs)) = _
  cases args ms <;> rfl
theorem args_len : ∀ (ms : List (M D)) {Q : List D → Prop}, run (args ms) Q → run (args ms) fun xs => xs.length = ms.length ∧ Q xs
  | [], Q, h => by
    rw [args, run_ret] at h ⊢
    exact ⟨rfl, h⟩
  | m :: ms, Q, h => by
    rw [args, run_bnd] at h ⊢
    refine Mo.mono (fun x hx => ?_) h
    rw [run_bnd] at hx ⊢
    refine Mo.mono (fun xs hxs => ?_) (args_len ms hx)
    obtain ⟨hl, hxs⟩ := hxs
    rw [run_ret] at hxs ⊢
    exact ⟨by rw [List.length_cons, List.length_cons, hl], hxs⟩
def tupM (m : M (List D)) : M D := bnd m fun xs => ret (.tup xs)
def lstM (m : M (List D)) : M D := bnd m fun xs => ret (.lst xs)
@[simp] theorem tupM_some (xs : List D) : tupM (some xs) = some (.tup xs) := rfl
@[simp] theorem lstM_some (xs : List D) : lstM (some xs) = some (.lst xs) := rfl

/-! ### operators -/
@[simp] def oAdd : D → D → Option D
  | .int i, .int j => some (.int (i + j))
  | .tup a, .tup b => if a.length + b.length ≤ sizeLine then some (.tup (a ++ b)) else none
  | .lst a, .lst b => if a.length + b.length ≤ sizeLine then some (.lst (a ++ b)) else none
  | .str a, .str b => if a.length + b.length ≤ sizeLine then some (.str (a ++ b)) else none
  | _, _ => none
@[simp] def oCat : D → D → Option D
  | .lst a, .lst b => if a.length + b.length ≤ sizeLine then some (.lst (a ++ b)) else none
  | _, _ => none
def oI (C : Int → Int → Bool) (k : Int → Int → Int) : D → D → Option D
  | .int i, .int j => if C i j then some (.int (k i j)) else none
  | _, _ => none
@[simp] def oSub : D → D → Option D
  | .int i, .int j => some (.int (i - j))
  | _, _ => none
instance (i j : Int) : Decidable (CMul i j) := inferInstanceAs (Decidable (_ ∨ _))
instance (i j : Int) : Decidable (CDivW i j) := inferInstanceAs (Decidable (_ ∧ _))
instance (i j : Int) : Decidable (CPow i j) := inferInstanceAs (Decidable (_ ∧ _))
@[simp] def oMul : D → D → Option D
  | .int i, .int j => if CMul i j then some (.int (i * j)) else none
  | .tup a, .int k => if a ≠ [] ∧ 1 ≤ k ∧ k ≤ 1000 ∧ a.length ≤ 1000 then some (.tup (List.replicate k.toNat a).flatten) else none
  | _, _ => none
@[simp] def oRep : D → D → Option D
  | .lst a, .int k => if -(2 ^ 62) ≤ k ∧ k < 2 ^ 62 ∧ a.length * k.toNat ≤ sizeLine then some (.lst (List.replicate k.toNat a).flatten) else none
  | _, _ => none
@[simp] def oDiv : D → D → Option D
  | .int i, .int j => if CDivW i j then some (.int (i / j)) else none
  | _, _ => none
@[simp] def oMod : D → D → Option D
  | .int i, .int j => if 0 < j then some (.int (i % j)) else none
  | _, _ => none
@[simp] def oPow : D → D → Option D
  | .int i, .int j => if CPow i j then some (.int (i ^ j.toNat)) else none
  | _, _ => none
@[simp] def oNeg : D → Option D
  | .int i => some (.int (-i))
  | _ => none
@[simp] def bLt : D → D → Option Bool
  | .int i, .int j => some (decide (i < j))
  | _, _ => none
@[simp] def bLe : D → D → Option Bool
  | .int i, .int j => some (decide (i ≤ j))
  | _, _ => none
@[simp] def bGt : D → D → Option Bool
  | .int i, .int j => some (decide (j < i))
  | _, _ => none
@[simp] def bGe : D → D → Option Bool
  | .int i, .int j => some (decide (j ≤ i))
  | _, _ => none
@[simp] def bEq (x y : D) : Option Bool := if okD 64 x = true ∧ okD 64 y = true then some (eqD x y) else none
@[simp] def bNe (x y : D) : Option Bool := if okD 64 x = true ∧ okD 64 y = true then some (!eqD x y) else none
@[simp] def bIn (neg : Bool) : D → D → Option Bool
  | x, .lst ds => if okD 63 x = true ∧ okDL 63 ds = true then some (if neg then !anyEq ds x else anyEq ds x) else none
  | x, .tup ds => if okD 63 x = true ∧ okDL 63 ds = true then some (if neg then !anyEq ds x else anyEq ds x) else none
  | _, _ => none
@[simp] def bIsN (neg : Bool) : D → D → Option Bool
  | .non, .non => some (!neg)
  | _, .non => some neg
  | _, _ => none
@[simp] def bIsi (T : String) : D → Option Bool
  | .src => none
  | .scr _ _ _ => none
  | d => some (isKind T d)
@[simp] def asB : D → Option Bool
  | .bl b => some b
  | _ => none
def oIx : D → D → Option D
  | .lst ds, .int i => atI ds i
  | .tup ds, .int i => atI ds i
  | .str z, .int i => if z.length ≤ sizeLine then (atI z.cps.toList i).map fun c => .str ⟨#[c]⟩ else none
  | _, _ => none
@[simp] def oLen : D → Option D
  | .lst ds => some (.int ds.length)
  | .tup ds => some (.int ds.length)
  | .str x => if x.length ≤ sizeLine then some (.int x.length) else none
  | _ => none
@[simp] def oAbs : D → Option D
  | .int i => some (.int (if i < 0 then -i else i))
  | _ => none
@[simp] def oInt : D → Option D
  | .int i => some (.int i)
  | .bl b => some (.int (if b then 1 else 0))
  | _ => none
@[simp] def oMax2 : D → D → Option D
  | .int i, .int j => some (.int (if j > i then j else i))
  | _, _ => none
@[simp] def oMin2 : D → D → Option D
  | .int i, .int j => some (.int (if j < i then j else i))
  | _, _ => none
@[simp] def oTuple : D → Option D
  | .lst ds => some (.tup ds)
  | .tup ds => some (.tup ds)
  | _ => none
@[simp] def oList : D → Option D
  | .lst ds => some (.lst ds)
  | .tup ds => some (.lst ds)
  | _ => none
def asInts : List D → Option (List Int)
  | [] => some []
  | .int i :: r => (asInts r).map (i :: ·)
  | _ => none
theorem asInts_eq : ∀ {ds : List D} {ns : List Int}, asInts ds = some ns → ds = ns.map D.int
  | [], ns, h => by cases h; rfl
  | d :: r, ns, h => by
    cases d with
    | int i =>
      rw [asInts] at h
      cases e : asInts r with
      | none => rw [e] at h; cases h
      | some ms =>
        rw [e] at h
        cases h
        rw [asInts_eq e]; rfl
    | _ => cases h
@[simp] theorem asInts_map (ns : List Int) : asInts (ns.map D.int) = some ns := by
  induction ns with
  | nil => rfl
  | cons n ns ih => rw [List.map_cons, asInts, ih]; rfl
@[simp] def oSum : D → Option D
  | .lst ds => (asInts ds).map fun ns => .int ns.sum
  | .tup ds => (asInts ds).map fun ns => .int ns.sum
  | _ => none
@[simp] def oMaxL : D → Option D
  | .lst ds => (asInts ds).bind fun ns => match ns with
    | [] => none
    | n :: r => some (.int (r.foldl max n))
  | _ => none
@[simp] def oMinL : D → Option D
  | .lst ds => (asInts ds).bind fun ns => match ns with
    | [] => none
    | n :: r => some (.int (r.foldl min n))
  | _ => none
@[simp] def oSorted : D → Option D
  | .lst ds => (asInts ds).map fun ns => .lst ((ns.mergeSort (fun a b => decide (a ≤ b))).map .int)
  | _ => none
/-- a part of a list or tuple -/
@[simp] def oSl (x : D) (lo hi : Option Int) : Option D := match x with
  | .lst ds => some (.lst (cutD ds lo hi))
  | .tup ds => some (.tup (cutD ds lo hi))
  | _ => none
/-- no own list may hide in it -/
def oNL (t : Bool) (d : D) : Option D := if safe t d = true then some d else none
@[simp] theorem oNL_int (i : Int) : oNL false (.int i) = some (.int i) := rfl
@[simp] theorem oNL_bl (i : Bool) : oNL false (.bl i) = some (.bl i) := rfl
@[simp] theorem oNL_str (i : Str) : oNL false (.str i) = some (.str i) := rfl
@[simp] theorem oNL_non : oNL false .non = some .non := rfl
theorem oNL_tup {xs : List D} (h : noLstL xs = true) : oNL false (.tup xs) = some (.tup xs) := by
  have : safe false (.tup xs) = true := h
  unfold oNL
  rw [if_pos this]
theorem oNL_lst {xs : List D} (h : noLstL xs = true) : oNL true (.lst xs) = some (.lst xs) := by
  have : safe true (.lst xs) = true := h
  unfold oNL
  rw [if_pos this]

/-! ### expressions -/
abbrev noM : Nat → Bool := fun _ => false
def EI (ρ : DEnv) (u : UE) (t : Bool) (m : M D) : Prop := ∀ Q : UK, run m (fun d => Q t d) → u ρ Q
def TI (ρ : DEnv) (u : UT) (m : M Bool) : Prop := ∀ Q : Bool → Prop, run m Q → u ρ Q
def AI (ρ : DEnv) (u : UA) (m : M (List D)) : Prop := ∀ Q : List D → Prop, run m Q → u ρ Q
def WI (ρ : DEnv) (u : UI) (m : M (List D)) : Prop := ∀ Q : List D → Prop, run m Q → u ρ Q
def vB (m : M Bool) : M D := bnd m fun b => ret (.bl b)
@[simp] theorem vB_some (b : Bool) : vB (some b) = some (.bl b) := rfl
def toB (m : M D) : M Bool := bnd m fun d => ofO (asB d)
@[simp] theorem toB_some (b : Bool) : toB (some (.bl b)) = some b := rfl
def tAnd (a b : M Bool) : M Bool := bnd a fun k => if k = true then b else ret false
def tOr (a b : M Bool) : M Bool := bnd a fun k => if k = true then ret true else b
def tNot (a : M Bool) : M Bool := bnd a fun k => ret (!k)
def ite3 (c : M Bool) (a b : M α) : M α := bnd c fun k => if k = true then a else b
@[simp] theorem tAnd_true (b : Option Bool) : tAnd (some true) b = b := rfl
@[simp] theorem tAnd_false (b : Option Bool) : tAnd (some false) b = some false := rfl
@[simp] theorem tOr_true (b : Option Bool) : tOr (some true) b = some true := rfl
@[simp] theorem tOr_false (b : Option Bool) : tOr (some false) b = b := rfl
@[simp] theorem tNot_some (b : Bool) : tNot (some b) = some (!b) := rfl
@[simp] theorem ite3_true (a b : Option α) : ite3 (some true) a b = a := rfl
@[simp] theorem ite3_false (a b : Option α) : ite3 (some false) a b = b := rfl

variable {ρ : DEnv} {u ua ub uc : UE} {ta tb tc t : Bool} {ma mb mc : M D} {ut ut2 : UT} {mt mt2 : M Bool} {uas : UA} {mas : M (List D)}
theorem ei_var {i : Nat} {b : Bool} {x : D} (h : ρ[i]? = some (some (b, x)) := by rfl) : EI ρ (uVar i) false (ret x : M D) := fun Q hq => by
  rw [run_ret] at hq
  unfold uVar
  rw [h]
  exact hq
theorem rr {a : α} {Q : α → Prop} (h : run (ret a : M α) Q) : Q a := run_ret.mp h
theorem rb {m : M α} {f : α → M β} {Q : β → Prop} (h : run (bnd m f) Q) : run m fun a => run (f a) Q := run_bnd.mp h
theorem ei_C {d : D} : EI ρ (uC d) false (ret d : M D) := fun Q hq => rr (Q := fun d => Q false d) hq
/-- the new list is shared -/
def uSh (u : UE) : UE := fun ρ Q => u ρ fun _ d => Q false d
theorem je_sh {S : Src} {X : Cx} {e : Expr} {u : UE} (h : JE S X e u) : JE S X e (uSh u) := by
  obtain ⟨t, p, h⟩ := h.ex
  refine ⟨t, p, fun ρ σ g H Q P I R hu hP => h ρ σ g H _ P I R hu fun v H' e => hP v H' ?_⟩
  obtain ⟨g', d, s, i, r, _, q⟩ := e.rep
  exact ⟨g', false, d, s, i, r, fun z => (by cases z), q⟩
theorem ei_sh {m : M D} (h : EI ρ u t m) : EI ρ (uSh u) false m := fun Q hq => h (fun _ d => Q false d) hq
theorem ei_1 {f : D → UK → Prop} {o : D → Option D} (hf : ∀ x d Q, o x = some d → Q t d → f x Q) (ha : EI ρ ua ta ma) : EI ρ (u1 f ua) t (op1 o ma) := fun Q hq => by
  refine ha _ (Mo.mono (fun x hx => ?_) (run_bnd.mp hq))
  obtain ⟨d, e, q⟩ := run_ofO.mp hx
  exact hf x d Q e q
theorem ei_2 {f : D → D → UK → Prop} {o : D → D → Option D} (hf : ∀ x y d Q, o x y = some d → Q t d → f x y Q) (ha : EI ρ ua ta ma) (hb : EI ρ ub tb mb) : EI ρ (u2 f ua ub) t (op2 o ma mb) := fun Q hq => by
  refine ha _ (Mo.mono (fun x hx => hb _ (Mo.mono (fun y hy => ?_) (run_bnd.mp hx))) (run_bnd.mp hq))
  obtain ⟨d, e, q⟩ := run_ofO.mp hy
  exact hf x y d Q e q
theorem ei_2B {f : D → D → UK → Prop} {o : D → D → Option Bool} (hf : ∀ x y b Q, o x y = some b → Q false (.bl b) → f x y Q) (ha : EI ρ ua ta ma) (hb : EI ρ ub tb mb) : EI ρ (u2 f ua ub) false (vB (op2 o ma mb)) := fun Q hq => by
  refine ha _ (Mo.mono (fun x hx => hb _ (Mo.mono (fun y hy => ?_) (run_bnd.mp hx))) (run_bnd.mp (run_bnd.mp hq)))
  obtain ⟨d, e, q⟩ := run_ofO.mp hy
  exact hf x y d Q e (run_ret.mp q)
theorem ti_2 {f : D → D → UK → Prop} {o : D → D → Option Bool} (hf : ∀ x y b Q, o x y = some b → Q false (.bl b) → f x y Q) (ha : EI ρ ua ta ma) (hb : EI ρ ub tb mb) : TI ρ (uTest (u2 f ua ub)) (op2 o ma mb) := fun Q hq => by
  refine ha _ (Mo.mono (fun x hx => hb _ (Mo.mono (fun y hy => ?_) (run_bnd.mp hx))) (run_bnd.mp hq))
  obtain ⟨d, e, q⟩ := run_ofO.mp hy
  exact hf x y d _ e q
theorem ei_1B {f : D → UK → Prop} {o : D → Option Bool} (hf : ∀ x b Q, o x = some b → Q false (.bl b) → f x Q) (ha : EI ρ ua ta ma) : EI ρ (u1 f ua) false (vB (op1 o ma)) := fun Q hq => by
  refine ha _ (Mo.mono (fun x hx => ?_) (run_bnd.mp (run_bnd.mp hq)))
  obtain ⟨d, e, q⟩ := run_ofO.mp hx
  exact hf x d Q e (run_ret.mp q)
theorem ti_1 {f : D → UK → Prop} {o : D → Option Bool} (hf : ∀ x b Q, o x = some b → Q false (.bl b) → f x Q) (ha : EI ρ ua ta ma) : TI ρ (uTest (u1 f ua)) (op1 o ma) := fun Q hq => by
  refine ha _ (Mo.mono (fun x hx => ?_) (run_bnd.mp hq))
  obtain ⟨d, e, q⟩ := run_ofO.mp hx
  exact hf x d _ e q
theorem asB_of {d : D} {b : Bool} {Q : Bool → Prop} (e : asB d = some b) (q : Q b) : isB Q d := by
  cases d with
  | bl k => cases e; exact q
  | _ => cases e
theorem ti_val (ha : EI ρ ua ta ma) : TI ρ (uTest ua) (toB ma) := fun Q hq => by
  refine ha _ (Mo.mono (fun x hx => ?_) (run_bnd.mp hq))
  obtain ⟨b, e, q⟩ := run_ofO.mp hx
  exact asB_of e q
/-- a value that is a test -/
theorem ti_ofB (ha : EI ρ ua ta (vB mt)) : TI ρ (uTest ua) mt := fun Q hq => ha _ (by
  refine run_bnd.mpr (Mo.mono (fun b q => run_ret.mpr ?_) hq)
  exact q)
theorem ti_and (ha : TI ρ ut mt) (hb : TI ρ ut2 mt2) : TI ρ (uAnd ut ut2) (tAnd mt mt2) := fun Q hq => by
  refine ha _ (Mo.mono (fun k hk => ?_) (run_bnd.mp hq))
  cases k with
  | true => exact hb _ hk
  | false => exact rr (a := false) hk
theorem ti_or (ha : TI ρ ut mt) (hb : TI ρ ut2 mt2) : TI ρ (uOr ut ut2) (tOr mt mt2) := fun Q hq => by
  refine ha _ (Mo.mono (fun k hk => ?_) (run_bnd.mp hq))
  cases k with
  | true => exact rr (a := true) hk
  | false => exact hb _ hk
theorem ti_not (ha : TI ρ ut mt) : TI ρ (uNot ut) (tNot mt) := fun Q hq => ha _ (Mo.mono (fun k hk => run_ret.mp hk) (run_bnd.mp hq))
theorem ei_toB (ha : EI ρ ua false ma) : EI ρ ua false (vB (toB ma)) := fun Q hq => by
  refine ha _ (Mo.mono (fun x hx => ?_) (rb (rb hq)))
  obtain ⟨b, e, q⟩ := run_ofO.mp hx
  cases x with
  | bl k => cases e; exact rr q
  | _ => cases e
theorem ei_andB (ha : EI ρ ua false (vB mt)) (hb : EI ρ ub false (vB mt2)) : EI ρ (uAndV ua ub) false (vB (tAnd mt mt2)) := fun Q hq => by
  refine ha _ (run_bnd.mpr (Mo.mono (fun k hk => run_ret.mpr ?_) (rb (rb hq))))
  cases k with
  | true => exact hb Q (run_bnd.mpr hk)
  | false => exact rr (Q := fun d => Q false d) (a := D.bl false) (rr (a := false) hk)
theorem ei_orB (ha : EI ρ ua false (vB mt)) (hb : EI ρ ub false (vB mt2)) : EI ρ (uOrV ua ub) false (vB (tOr mt mt2)) := fun Q hq => by
  refine ha _ (run_bnd.mpr (Mo.mono (fun k hk => run_ret.mpr ?_) (rb (rb hq))))
  cases k with
  | true => exact rr (Q := fun d => Q false d) (a := D.bl true) (rr (a := true) hk)
  | false => exact hb Q (run_bnd.mpr hk)
theorem ei_notB (ha : EI ρ ua false (vB mt)) : EI ρ (uNotV ua) false (vB (tNot mt)) := fun Q hq => by
  refine ha _ (run_bnd.mpr (Mo.mono (fun k hk => run_ret.mpr ?_) (rb (rb hq))))
  exact rr (Q := fun d => Q false d) (a := D.bl (!k)) (rr (a := !k) hk)
theorem ei_ite (hc : TI ρ ut mt) (ha : EI ρ ua t ma) (hb : EI ρ ub t mb) : EI ρ (uIte ut ua ub) t (ite3 mt ma mb) := fun Q hq => by
  refine hc _ (Mo.mono (fun k hk => ?_) (rb hq))
  cases k with
  | true => exact ha Q hk
  | false => exact hb Q hk
theorem ti_iteB (hc : TI ρ ut mt) (ha : EI ρ ua false (vB mt2)) {mt3 : M Bool} (hb : EI ρ ub false (vB mt3)) : EI ρ (uIte ut ua ub) false (vB (ite3 mt mt2 mt3)) := fun Q hq => by
  refine hc _ (Mo.mono (fun k hk => ?_) (rb (rb hq)))
  cases k with
  | true => exact ha Q (run_bnd.mpr hk)
  | false => exact hb Q (run_bnd.mpr hk)
/-- a chain x < y <= z -/
def chB (f g : D → D → Option Bool) (a b c : M D) : M Bool := bnd a fun x => bnd b fun y => bnd (ofO (f x y)) fun k => if k = true then bnd c fun z => ofO (g y z) else ret false
@[simp] theorem chB_some (f g : D → D → Option Bool) (x y z : D) : chB (M := Option) f g (some x) (some y) (some z) = (f x y).bind fun k => if k = true then g y z else some false := rfl
theorem ei_ch {f g : D → D → UK → Prop} {o o' : D → D → Option Bool} (hf : ∀ x y b Q, o x y = some b → Q false (.bl b) → f x y Q) (hg : ∀ x y b Q, o' x y = some b → Q false (.bl b) → g x y Q) (ha : EI ρ ua ta ma) (hb : EI ρ ub tb mb) (hc : EI ρ uc tc mc) :
    EI ρ (fCh f g ua ub uc) false (vB (chB o o' ma mb mc)) := fun Q hq => by
  refine ha _ (Mo.mono (fun x hx => hb _ (Mo.mono (fun y hy => ?_) (rb hx))) (rb (rb hq)))
  obtain ⟨k, e, q⟩ := run_ofO.mp (rb hy)
  refine hf x y k _ e ?_
  cases k with
  | true =>
    refine hc _ (Mo.mono (fun z hz => ?_) (rb q))
    obtain ⟨b, e2, q2⟩ := run_ofO.mp hz
    exact hg y z b Q e2 (rr q2)
  | false => exact rr (Q := fun d => Q false d) (a := D.bl false) (rr (a := false) q)
theorem ti_ch {f g : D → D → UK → Prop} {o o' : D → D → Option Bool} (hf : ∀ x y b Q, o x y = some b → Q false (.bl b) → f x y Q) (hg : ∀ x y b Q, o' x y = some b → Q false (.bl b) → g x y Q) (ha : EI ρ ua ta ma) (hb : EI ρ ub tb mb) (hc : EI ρ uc tc mc) :
    TI ρ (uTest (fCh f g ua ub uc)) (chB o o' ma mb mc) := ti_ofB (ei_ch hf hg ha hb hc)

/-! operators, one by one -/
theorem add_sh : ∀ x y d (Q : UK), oAdd x y = some d → Q false d → fAdd x y fun _ d => Q false d := by
  intro x y d Q e q
  cases x <;> cases y <;> simp only [oAdd, fAdd] at e ⊢ <;> first
    | (cases e; exact q)
    | (split at e <;> rename_i h <;> first | (cases e; exact ⟨h, q⟩) | cases e)
    | cases e
theorem cat_ok : ∀ x y d (Q : UK), oCat x y = some d → Q true d → fAdd x y Q := by
  intro x y d Q e q
  cases x <;> cases y <;> simp only [oCat, fAdd] at e ⊢ <;> first
    | (split at e <;> rename_i h <;> first | (cases e; exact ⟨h, q⟩) | cases e)
    | cases e
theorem sub_ok : ∀ x y d (Q : UK), oSub x y = some d → Q false d → fSub x y Q := by
  intro x y d Q e q
  cases x <;> cases y <;> simp only [oSub, fI] at e ⊢ <;> first
    | (cases e; exact ⟨trivial, q⟩)
    | cases e
theorem mul_sh : ∀ x y d (Q : UK), oMul x y = some d → Q false d → fMul x y fun _ d => Q false d := by
  intro x y d Q e q
  cases x <;> cases y <;> simp only [oMul, fMul] at e ⊢ <;> first
    | (split at e <;> rename_i h <;> first | (cases e; exact ⟨h, q⟩) | cases e)
    | cases e
theorem rep_ok : ∀ x y d (Q : UK), oRep x y = some d → Q true d → fMul x y Q := by
  intro x y d Q e q
  cases x <;> cases y <;> simp only [oRep, fMul] at e ⊢ <;> first
    | (split at e <;> rename_i h <;> first | (cases e; exact ⟨h, q⟩) | cases e)
    | cases e
theorem div_ok : ∀ x y d (Q : UK), oDiv x y = some d → Q false d → fDiv x y Q := by
  intro x y d Q e q
  cases x <;> cases y <;> simp only [oDiv, fI] at e ⊢ <;> first
    | (split at e <;> rename_i h <;> first | (cases e; exact ⟨h, q⟩) | cases e)
    | cases e
theorem mod_ok : ∀ x y d (Q : UK), oMod x y = some d → Q false d → fMod x y Q := by
  intro x y d Q e q
  cases x <;> cases y <;> simp only [oMod, fI] at e ⊢ <;> first
    | (split at e <;> rename_i h <;> first | (cases e; exact ⟨h, q⟩) | cases e)
    | cases e
theorem pow_ok : ∀ x y d (Q : UK), oPow x y = some d → Q false d → fPow x y Q := by
  intro x y d Q e q
  cases x <;> cases y <;> simp only [oPow, fI] at e ⊢ <;> first
    | (split at e <;> rename_i h <;> first | (cases e; exact ⟨h, q⟩) | cases e)
    | cases e
theorem neg_ok : ∀ x d (Q : UK), oNeg x = some d → Q false d → fNeg x Q := by
  intro x d Q e q
  cases x <;> simp only [oNeg, fNeg] at e ⊢ <;> cases e
  exact q
theorem lt_ok : ∀ x y b (Q : UK), bLt x y = some b → Q false (.bl b) → fLt x y Q := by
  intro x y d Q e q
  cases x <;> cases y <;> simp only [bLt, fB] at e ⊢ <;> cases e
  exact q
theorem le_ok : ∀ x y b (Q : UK), bLe x y = some b → Q false (.bl b) → fLe x y Q := by
  intro x y d Q e q
  cases x <;> cases y <;> simp only [bLe, fB] at e ⊢ <;> cases e
  exact q
theorem gt_ok : ∀ x y b (Q : UK), bGt x y = some b → Q false (.bl b) → fGt x y Q := by
  intro x y d Q e q
  cases x <;> cases y <;> simp only [bGt, fB] at e ⊢ <;> cases e
  exact q
theorem ge_ok : ∀ x y b (Q : UK), bGe x y = some b → Q false (.bl b) → fGe x y Q := by
  intro x y d Q e q
  cases x <;> cases y <;> simp only [bGe, fB] at e ⊢ <;> cases e
  exact q
theorem eq_ok : ∀ x y b (Q : UK), bEq x y = some b → Q false (.bl b) → fEq x y Q := by
  intro x y b Q e q
  unfold bEq at e
  split at e
  · rename_i h; cases e; exact ⟨h.1, h.2, q⟩
  · cases e
theorem ne_ok : ∀ x y b (Q : UK), bNe x y = some b → Q false (.bl b) → fNe x y Q := by
  intro x y b Q e q
  unfold bNe at e
  split at e
  · rename_i h; cases e; exact ⟨h.1, h.2, q⟩
  · cases e
theorem in_ok (neg : Bool) : ∀ x y b (Q : UK), bIn neg x y = some b → Q false (.bl b) → fIn neg x y Q := by
  intro x y b Q e q
  cases y <;> simp only [bIn, fIn] at e ⊢ <;> first
    | (split at e <;> rename_i h <;> first | (cases e; exact ⟨h.1, h.2, q⟩) | cases e)
    | cases e
theorem isN_ok (neg : Bool) : ∀ x y b (Q : UK), bIsN neg x y = some b → Q false (.bl b) → fIsN neg x y Q := by
  intro x y b Q e q
  cases y <;> cases x <;> simp only [bIsN, fIsN] at e ⊢ <;> cases e <;> exact q
theorem isi_ok (T : String) : ∀ x b (Q : UK), bIsi T x = some b → Q false (.bl b) → fIsi T x Q := by
  intro x b Q e q
  cases x <;> simp only [bIsi, fIsi] at e ⊢ <;> cases e <;> exact q
theorem ix_ok : ∀ x y d (Q : UK), oIx x y = some d → Q false d → fIx x y Q := by
  intro x y d Q e q
  cases y with
  | int i =>
    cases x with
    | lst ds => exact ⟨d, e, q⟩
    | tup ds => exact ⟨d, e, q⟩
    | str z =>
      simp only [oIx] at e
      split at e
      · rename_i h
        cases e2 : atI z.cps.toList i with
        | none => rw [e2] at e; cases e
        | some c =>
          rw [e2] at e
          cases e
          exact ⟨h, c, e2, q⟩
      · cases e
    | _ => cases e
  | _ => cases x <;> cases e
theorem len_ok : ∀ x d (Q : UK), oLen x = some d → Q false d → fLen x Q := by
  intro x d Q e q
  cases x <;> simp only [oLen, fLen] at e ⊢ <;> first
    | (cases e; exact q)
    | (split at e <;> rename_i h <;> first | (cases e; exact ⟨h, q⟩) | cases e)
    | cases e
theorem abs_ok : ∀ x d (Q : UK), oAbs x = some d → Q false d → fAbs x Q := by
  intro x d Q e q
  cases x <;> simp only [oAbs, fAbs] at e ⊢ <;> cases e
  exact q
theorem int_ok : ∀ x d (Q : UK), oInt x = some d → Q false d → fInt x Q := by
  intro x d Q e q
  cases x <;> simp only [oInt, fInt] at e ⊢ <;> cases e <;> exact q
theorem max2_ok : ∀ x y d (Q : UK), oMax2 x y = some d → Q false d → fMax2 x y Q := by
  intro x y d Q e q
  cases x <;> cases y <;> simp only [oMax2, fMax2] at e ⊢ <;> cases e
  exact q
theorem min2_ok : ∀ x y d (Q : UK), oMin2 x y = some d → Q false d → fMin2 x y Q := by
  intro x y d Q e q
  cases x <;> cases y <;> simp only [oMin2, fMin2] at e ⊢ <;> cases e
  exact q
theorem tuple_ok : ∀ x d (Q : UK), oTuple x = some d → Q false d → fTuple x Q := by
  intro x d Q e q
  cases x <;> simp only [oTuple, fTuple] at e ⊢ <;> cases e <;> exact q
theorem list_ok : ∀ x d (Q : UK), oList x = some d → Q true d → fList x Q := by
  intro x d Q e q
  cases x <;> simp only [oList, fList] at e ⊢ <;> cases e <;> exact q
theorem sum_ok : ∀ x d (Q : UK), oSum x = some d → Q false d → fSumA x Q := by
  intro x d Q e q
  cases x with
  | lst ds =>
    simp only [oSum] at e
    cases e2 : asInts ds with
    | none => rw [e2] at e; cases e
    | some ns => rw [e2] at e; cases e; exact ⟨ns, asInts_eq e2, q⟩
  | tup ds =>
    simp only [oSum] at e
    cases e2 : asInts ds with
    | none => rw [e2] at e; cases e
    | some ns => rw [e2] at e; cases e; exact ⟨ns, asInts_eq e2, q⟩
  | _ => cases e
theorem foldl_max_mem : ∀ (r : List Int) (n : Int), (r.foldl max n ∈ n :: r) ∧ ∀ y ∈ n :: r, y ≤ r.foldl max n
  | [], n => ⟨by simp, by simp⟩
  | a :: r, n => by
    obtain ⟨h1, h2⟩ := foldl_max_mem r (max n a)
    refine ⟨?_, fun y hy => ?_⟩
    · show r.foldl max (max n a) ∈ _
      rcases List.mem_cons.mp h1 with h | h
      · rw [h]
        rcases Int.le_total n a with z | z
        · rw [Int.max_eq_right z]; simp
        · rw [Int.max_eq_left z]; simp
      · exact List.mem_cons_of_mem _ (List.mem_cons_of_mem _ h)
    · show y ≤ r.foldl max (max n a)
      have h3 := h2 (max n a) (List.mem_cons_self ..)
      rcases List.mem_cons.mp hy with h | h
      · have := Int.le_max_left n a; omega
      · rcases List.mem_cons.mp h with h | h
        · have := Int.le_max_right n a; omega
        · exact h2 y (List.mem_cons_of_mem _ h)
theorem foldl_min_mem : ∀ (r : List Int) (n : Int), (r.foldl min n ∈ n :: r) ∧ ∀ y ∈ n :: r, r.foldl min n ≤ y
  | [], n => ⟨by simp, by simp⟩
  | a :: r, n => by
    obtain ⟨h1, h2⟩ := foldl_min_mem r (min n a)
    refine ⟨?_, fun y hy => ?_⟩
    · show r.foldl min (min n a) ∈ _
      rcases List.mem_cons.mp h1 with h | h
      · rw [h]
        rcases Int.le_total n a with z | z
        · rw [Int.min_eq_left z]; simp
        · rw [Int.min_eq_right z]; simp
      · exact List.mem_cons_of_mem _ (List.mem_cons_of_mem _ h)
    · show r.foldl min (min n a) ≤ y
      have h3 := h2 (min n a) (List.mem_cons_self ..)
      rcases List.mem_cons.mp hy with h | h
      · have := Int.min_le_left n a; omega
      · rcases List.mem_cons.mp h with h | h
        · have := Int.min_le_right n a; omega
        · exact h2 y (List.mem_cons_of_mem _ h)
theorem maxL_ok : ∀ x d (Q : UK), oMaxL x = some d → Q false d → fMaxL x Q := by
  intro x d Q e q
  cases x with
  | lst ds =>
    simp only [oMaxL] at e
    cases e2 : asInts ds with
    | none => rw [e2] at e; cases e
    | some ns =>
      rw [e2] at e
      cases ns with
      | nil => cases e
      | cons n r =>
        cases e
        refine ⟨n :: r, asInts_eq e2, by simp, fun m hm hy => ?_⟩
        obtain ⟨h1, h2⟩ := foldl_max_mem r n
        have : m = r.foldl max n := by have := h2 m hm; have := hy _ h1; omega
        rw [this]; exact q
  | _ => cases e
theorem minL_ok : ∀ x d (Q : UK), oMinL x = some d → Q false d → fMinL x Q := by
  intro x d Q e q
  cases x with
  | lst ds =>
    simp only [oMinL] at e
    cases e2 : asInts ds with
    | none => rw [e2] at e; cases e
    | some ns =>
      rw [e2] at e
      cases ns with
      | nil => cases e
      | cons n r =>
        cases e
        refine ⟨n :: r, asInts_eq e2, by simp, fun m hm hy => ?_⟩
        obtain ⟨h1, h2⟩ := foldl_min_mem r n
        have : m = r.foldl min n := by have := h2 m hm; have := hy _ h1; omega
        rw [this]; exact q
  | _ => cases e
theorem sorted_ok : ∀ x d (Q : UK), oSorted x = some d → Q true d → fSorted x Q := by
  intro x d Q e q
  cases x with
  | lst ds =>
    simp only [oSorted] at e
    cases e2 : asInts ds with
    | none => rw [e2] at e; cases e
    | some ns =>
      rw [e2] at e
      cases e
      refine ⟨ns, asInts_eq e2, fun ns' hp hs => ?_⟩
      have h1 : (ns.mergeSort fun a b => decide (a ≤ b)).Pairwise (· ≤ ·) := by
        have := List.pairwise_mergeSort (le := fun a b : Int => decide (a ≤ b)) (fun a b c h1 h2 => by simp at *; omega) (fun a b => by simp; omega) ns
        exact this.imp fun h => by simpa using h
      have h2 : ns'.Perm (ns.mergeSort fun a b => decide (a ≤ b)) := hp.trans (List.mergeSort_perm ns _).symm
      have : ns' = ns.mergeSort fun a b => decide (a ≤ b) := h2.eq_of_pairwise (le := (· ≤ ·)) (fun a b _ _ h1 h2 => by omega) hs h1
      rw [this]
      exact q
  | _ => cases e
theorem sl_ok {x : D} {lo hi : Option Int} : ∀ d (Q : UK), oSl x lo hi = some d → Q false d → fSl x lo hi fun _ d => Q false d := by
  intro d Q e q
  cases x <;> simp only [oSl, fSl] at e ⊢ <;> cases e <;> exact q

/-! displays, calls, parts -/
theorem ai_nil : AI ρ uNil (args ([] : List (M D))) := fun Q hq => by rw [args] at hq; exact rr (Q := Q) hq
theorem ai_cons {ms : List (M D)} (ha : EI ρ ua ta ma) (hr : AI ρ uas (args ms)) : AI ρ (uCons ua uas) (args (ma :: ms)) := fun Q hq => by
  rw [args] at hq
  exact ha _ (Mo.mono (fun x hx => hr _ (Mo.mono (fun xs hxs => rr (Q := Q) hxs) (rb hx))) (rb hq))
theorem ei_tup {ms : List (M D)} (h : AI ρ uas (args ms)) (hl : ms.length ≤ sizeLine := by decide) : EI ρ (uTup uas) false (tupM (args ms)) := fun Q hq => by
  refine h _ (Mo.mono (fun xs hx => ?_) (args_len ms (rb hq)))
  exact ⟨by rw [hx.1]; exact hl, rr (Q := fun d => Q false d) hx.2⟩
theorem ei_lst {ms : List (M D)} (h : AI ρ uas (args ms)) (hl : ms.length ≤ sizeLine := by decide) : EI ρ (uLst uas) true (lstM (args ms)) := fun Q hq => by
  refine h _ (Mo.mono (fun xs hx => ?_) (args_len ms (rb hq)))
  exact ⟨by rw [hx.1]; exact hl, rr (Q := fun d => Q true d) hx.2⟩
theorem ei_F1 {f : D → UK → Prop} {o : D → Option D} (hf : ∀ x d Q, o x = some d → Q t d → f x Q) (ha : EI ρ ua ta ma) : EI ρ (uF (fA1 f) (uCons ua uNil)) t (op1 o ma) := fun Q hq => by
  refine ha _ (Mo.mono (fun x hx => ?_) (rb hq))
  obtain ⟨d, e, q⟩ := run_ofO.mp hx
  exact hf x d Q e q
theorem ei_F2 {f : D → D → UK → Prop} {o : D → D → Option D} (hf : ∀ x y d Q, o x y = some d → Q t d → f x y Q) (ha : EI ρ ua ta ma) (hb : EI ρ ub tb mb) : EI ρ (uF (fA2 f) (uCons ua (uCons ub uNil))) t (op2 o ma mb) := fun Q hq => by
  refine ha _ (Mo.mono (fun x hx => hb _ (Mo.mono (fun y hy => ?_) (rb hx))) (rb hq))
  obtain ⟨d, e, q⟩ := run_ofO.mp hy
  exact hf x y d Q e q
/-- a def that is a function over data -/
def cF (A : List D → Option D) (t : Bool) : Ctr := fun ds R => ∃ d, A ds = some d ∧ R t d
def appM (A : List D → Option D) (m : M (List D)) : M D := bnd m fun ds => ofO (A ds)
theorem ei_call {A : List D → Option D} (h : AI ρ uas mas) : EI ρ (uCall (cF A t) uas) t (appM A mas) := fun Q hq => by
  refine h _ (Mo.mono (fun ds hd => ?_) (rb hq))
  exact run_ofO.mp hd
@[simp] theorem appM_some (A : List D → Option D) (ds : List D) : appM (M := Option) A (some ds) = A ds := rfl
theorem ei_callK {A : List D → Option D} {n m : Nat} {ix : List Nat} {ms ks : List (M D)} {uk : UA} (h : AI ρ uas (args ms)) (hk : AI ρ uk (args ks)) (hn : ms.length = n := by rfl) (hm : ks.length = m := by rfl) :
    EI ρ (uCallK (cF A t) n m ix uas uk) t (bnd (args ms) fun ds => bnd (args ks) fun es => ofO (A (DL.pick (ds ++ es) ix))) := fun Q hq => by
  refine h _ (Mo.mono (fun ds hd => hk _ (Mo.mono (fun es he => ?_) (args_len ks (rb hd.2)))) (args_len ms (rb hq)))
  exact ⟨hd.1.trans hn, he.1.trans hm, run_ofO.mp he.2⟩
def OI (ρ : DEnv) (u : UO) (m : M (Option Int)) : Prop := ∀ Q : Option Int → Prop, run m Q → u ρ Q
def asI : D → Option Int
  | .int i => some i
  | _ => none
@[simp] theorem asI_int (i : Int) : asI (.int i) = some i := rfl
theorem asI_of {d : D} {i : Int} {Q : Int → Prop} (e : asI d = some i) (q : Q i) : isI Q d := by
  cases d with
  | int k => cases e; exact q
  | _ => cases e
theorem oi_none : OI ρ uNoPart (ret none : M (Option Int)) := fun Q hq => rr (Q := Q) hq
def somI (m : M D) : M (Option Int) := bnd m fun d => bnd (ofO (asI d)) fun i => ret (some i)
@[simp] theorem somI_some (i : Int) : somI (some (.int i)) = some (some i) := rfl
theorem oi_some (h : EI ρ ua ta ma) : OI ρ (uPart ua) (somI ma) := fun Q hq => by
  refine h _ (Mo.mono (fun d hd => ?_) (rb hq))
  obtain ⟨i, e, q⟩ := run_ofO.mp (rb hd)
  exact asI_of e (rr (Q := Q) q)
def slM (m : M D) (lo hi : M (Option Int)) : M D := bnd m fun x => bnd lo fun a => bnd hi fun b => ofO (oSl x a b)
@[simp] theorem slM_some (x : D) (lo hi : Option Int) : slM (M := Option) (some x) (some lo) (some hi) = oSl x lo hi := rfl
theorem ei_sl {ul uh : UO} {ml mh : M (Option Int)} (h : EI ρ ua ta ma) (hl : OI ρ ul ml) (hh : OI ρ uh mh) : EI ρ (uSh (uSl ua ul uh)) false (slM ma ml mh) := fun Q hq => by
  refine h _ (Mo.mono (fun x hx => hl _ (Mo.mono (fun lo hlo => hh _ (Mo.mono (fun hi hhi => ?_) (rb hlo))) (rb hx))) (rb hq))
  obtain ⟨d, e, q⟩ := run_ofO.mp hhi
  exact sl_ok d Q e q
end
end DL

/-! DLFun2: functional readings: what is walked, comprehensions, statements, loops. -/
namespace DL
open PySem PySem.Spec PyProof.Rows L2
open Mo (ret bnd ofO run run_ret run_bnd run_ofO)
section
variable {M : Type → Type} [Mo M] {α β γ : Type} {ρ : DEnv} {u ua ub uc ue : UE} {ta tb tc t : Bool} {ma mb mc me mo : M D} {ut ut2 : UT} {mt mt2 : M Bool} {uas : UA} {mas : M (List D)} {ui : UI} {mi : M (List D)} {gt : UG}

/-! ### what is walked -/
@[simp] def oRng1 : D → Option (List D)
  | .int j => if -(2 ^ 62) ≤ j ∧ j < 2 ^ 62 then some (rngD 0 j.toNat) else none
  | _ => none
@[simp] def oRng2 : D → D → Option (List D)
  | .int i, .int j => if -(2 ^ 62) ≤ i ∧ i < 2 ^ 62 ∧ -(2 ^ 62) ≤ j ∧ j < 2 ^ 62 then some (rngD i (j - i).toNat) else none
  | _, _ => none
@[simp] def oEnum : D → Option (List D)
  | .lst ds => some (enumD ds)
  | .tup ds => some (enumD ds)
  | _ => none
@[simp] def oZip : D → D → Option (List D)
  | .lst xs, .lst ys => some (zipD xs ys)
  | .tup xs, .tup ys => some (zipD xs ys)
  | _, _ => none
@[simp] def oItems : D → Option (List D)
  | .lst ds => some ds
  | .tup ds => some ds
  | .str x => some (x.cps.toList.map fun c => .str ⟨#[c]⟩)
  | _ => none
theorem items_of {d : D} {ds : List D} {Q : List D → Prop} (e : oItems d = some ds) (q : Q ds) : itemsOf Q d := by
  cases d <;> simp only [oItems] at e <;> cases e <;> exact q
theorem wi_rng1 (ha : EI ρ ua ta ma) : WI ρ (uRng1 (uCons ua uNil)) (op1 oRng1 ma) := fun Q hq => by
  refine ha _ (Mo.mono (fun x hx => ?_) (rb hq))
  obtain ⟨ds, e, q⟩ := run_ofO.mp hx
  cases x <;> simp only [oRng1] at e <;> first
    | (split at e <;> rename_i h <;> first | (cases e; exact ⟨h, q⟩) | cases e)
    | cases e
theorem wi_rng2 (ha : EI ρ ua ta ma) (hb : EI ρ ub tb mb) : WI ρ (uRng2 (uCons ua (uCons ub uNil))) (op2 oRng2 ma mb) := fun Q hq => by
  refine ha _ (Mo.mono (fun x hx => hb _ (Mo.mono (fun y hy => ?_) (rb hx))) (rb hq))
  obtain ⟨ds, e, q⟩ := run_ofO.mp hy
  cases x <;> cases y <;> simp only [oRng2] at e <;> first
    | (split at e <;> rename_i h <;> first | (cases e; exact ⟨h, q⟩) | cases e)
    | cases e
theorem wi_enum (ha : EI ρ ua ta ma) : WI ρ (uEnum (uCons ua uNil)) (op1 oEnum ma) := fun Q hq => by
  refine ha _ (Mo.mono (fun x hx => ?_) (rb hq))
  obtain ⟨ds, e, q⟩ := run_ofO.mp hx
  cases x <;> simp only [oEnum] at e <;> cases e <;> exact q
theorem wi_zip (ha : EI ρ ua ta ma) (hb : EI ρ ub tb mb) : WI ρ (uZip (uCons ua (uCons ub uNil))) (op2 oZip ma mb) := fun Q hq => by
  refine ha _ (Mo.mono (fun x hx => hb _ (Mo.mono (fun y hy => ?_) (rb hx))) (rb hq))
  obtain ⟨ds, e, q⟩ := run_ofO.mp hy
  cases x <;> cases y <;> simp only [oZip] at e <;> cases e <;> exact q
theorem wi_seq (ha : EI ρ ua ta ma) : WI ρ (uIter ua) (op1 oItems ma) := fun Q hq => by
  refine ha _ (Mo.mono (fun x hx => ?_) (rb hq))
  obtain ⟨ds, e, q⟩ := run_ofO.mp hx
  exact items_of e q

/-! ### targets -/
def un2 (d : D) (k : D → D → M γ) : M γ := match d with
  | .tup [a, b] => k a b
  | _ => fail
def un3 (d : D) (k : D → D → D → M γ) : M γ := match d with
  | .tup [a, b, c] => k a b c
  | _ => fail
def un4 (d : D) (k : D → D → D → D → M γ) : M γ := match d with
  | .tup [a, b, c, e] => k a b c e
  | _ => fail
@[simp] theorem un2_tup (a b : D) (k : D → D → M γ) : un2 (.tup [a, b]) k = k a b := rfl
@[simp] theorem un3_tup (a b c : D) (k : D → D → D → M γ) : un3 (.tup [a, b, c]) k = k a b c := rfl
@[simp] theorem un4_tup (a b c e : D) (k : D → D → D → D → M γ) : un4 (.tup [a, b, c, e]) k = k a b c e := rfl
theorem run_fail {Q : α → Prop} (h : run (fail : M α) Q) : False := by
  obtain ⟨a, e, _⟩ := run_ofO.mp h
  cases e
theorem un2_run {d : D} {k : D → D → M γ} {Q : γ → Prop} (h : run (un2 d k) Q) : ∃ a b, d = .tup [a, b] ∧ run (k a b) Q := by
  unfold un2 at h
  split at h
  · exact ⟨_, _, rfl, h⟩
  · exact (run_fail h).elim
theorem un3_run {d : D} {k : D → D → D → M γ} {Q : γ → Prop} (h : run (un3 d k) Q) : ∃ a b c, d = .tup [a, b, c] ∧ run (k a b c) Q := by
  unfold un3 at h
  split at h
  · exact ⟨_, _, _, rfl, h⟩
  · exact (run_fail h).elim
theorem un4_run {d : D} {k : D → D → D → D → M γ} {Q : γ → Prop} (h : run (un4 d k) Q) : ∃ a b c e, d = .tup [a, b, c, e] ∧ run (k a b c e) Q := by
  unfold un4 at h
  split at h
  · exact ⟨_, _, _, _, rfl, h⟩
  · exact (run_fail h).elim
/-- a target takes the datum, and what is wanted holds of the names then -/
def TG1 (gt : UG) (d : D) (ρ : DEnv) (G : DEnv → Prop) : Prop := ∃ L, gt d = some L ∧ G (setAll ρ (dset L))
theorem tg_n {i : Nat} {d : D} {G : DEnv → Prop} (h : G (ρ.set i (some (false, d)))) : TG1 (gN i) d ρ G := ⟨_, rfl, h⟩
theorem tg_2 {i j : Nat} {d : D} {G : DEnv → Prop} {k : D → D → M γ} {Q : γ → Prop} (h : run (un2 d k) Q) (hk : ∀ a b, run (k a b) Q → G ((ρ.set i (some (false, a))).set j (some (false, b)))) : TG1 (gT [gN i, gN j]) d ρ G := by
  obtain ⟨a, b, rfl, h⟩ := un2_run h
  exact ⟨_, rfl, hk a b h⟩
theorem tg_3 {i j l : Nat} {d : D} {G : DEnv → Prop} {k : D → D → D → M γ} {Q : γ → Prop} (h : run (un3 d k) Q) (hk : ∀ a b c, run (k a b c) Q → G (((ρ.set i (some (false, a))).set j (some (false, b))).set l (some (false, c)))) : TG1 (gT [gN i, gN j, gN l]) d ρ G := by
  obtain ⟨a, b, c, rfl, h⟩ := un3_run h
  exact ⟨_, rfl, hk a b c h⟩
theorem tg_4 {i j l m : Nat} {d : D} {G : DEnv → Prop} {k : D → D → D → D → M γ} {Q : γ → Prop} (h : run (un4 d k) Q) (hk : ∀ a b c e, run (k a b c e) Q → G ((((ρ.set i (some (false, a))).set j (some (false, b))).set l (some (false, c))).set m (some (false, e)))) : TG1 (gT [gN i, gN j, gN l, gN m]) d ρ G := by
  obtain ⟨a, b, c, e, rfl, h⟩ := un4_run h
  exact ⟨_, rfl, hk a b c e h⟩
theorem tg_1_2 {i j l : Nat} {d : D} {G : DEnv → Prop} {k : D → D → D → M γ} {Q : γ → Prop} (h : run (un2 d fun a p => un2 p fun b c => k a b c) Q) (hk : ∀ a b c, run (k a b c) Q → G (((ρ.set i (some (false, a))).set j (some (false, b))).set l (some (false, c)))) : TG1 (gT [gN i, gT [gN j, gN l]]) d ρ G := by
  obtain ⟨a, p, rfl, h2⟩ := un2_run h
  obtain ⟨b, c, rfl, h⟩ := un2_run h2
  exact ⟨_, rfl, hk a b c h⟩
theorem tg_2_1 {i j l : Nat} {d : D} {G : DEnv → Prop} {k : D → D → D → M γ} {Q : γ → Prop} (h : run (un2 d fun p c => un2 p fun a b => k a b c) Q) (hk : ∀ a b c, run (k a b c) Q → G (((ρ.set i (some (false, a))).set j (some (false, b))).set l (some (false, c)))) : TG1 (gT [gT [gN i, gN j], gN l]) d ρ G := by
  obtain ⟨p, c, rfl, h2⟩ := un2_run h
  obtain ⟨a, b, rfl, h⟩ := un2_run h2
  exact ⟨_, rfl, hk a b c h⟩
theorem tg_3_1 {i j l m : Nat} {d : D} {G : DEnv → Prop} {k : D → D → D → D → M γ} {Q : γ → Prop} (h : run (un2 d fun p e => un3 p fun a b c => k a b c e) Q) (hk : ∀ a b c e, run (k a b c e) Q → G ((((ρ.set i (some (false, a))).set j (some (false, b))).set l (some (false, c))).set m (some (false, e)))) : TG1 (gT [gT [gN i, gN j, gN l], gN m]) d ρ G := by
  obtain ⟨p, e, rfl, h2⟩ := un2_run h
  obtain ⟨a, b, c, rfl, h⟩ := un3_run h2
  exact ⟨_, rfl, hk a b c e h⟩
theorem tg_1_3 {i j l m : Nat} {d : D} {G : DEnv → Prop} {k : D → D → D → D → M γ} {Q : γ → Prop} (h : run (un2 d fun a p => un3 p fun b c e => k a b c e) Q) (hk : ∀ a b c e, run (k a b c e) Q → G ((((ρ.set i (some (false, a))).set j (some (false, b))).set l (some (false, c))).set m (some (false, e)))) : TG1 (gT [gN i, gT [gN j, gN l, gN m]]) d ρ G := by
  obtain ⟨a, p, rfl, h2⟩ := un2_run h
  obtain ⟨b, c, e, rfl, h⟩ := un3_run h2
  exact ⟨_, rfl, hk a b c e h⟩

/-! ### comprehensions -/
@[simp] def chkL (ds : List D) : Option (List D) := if ds.length ≤ sizeLine then some ds else none
theorem chkL_ok {ds : List D} (h : ds.length ≤ sizeLine) : chkL ds = some ds := if_pos h
def mapG (f : D → M α) : List D → M (List α)
  | [] => ret []
  | d :: r => bnd (f d) fun y => bnd (mapG f r) fun ys => ret (y :: ys)
def filG (f : D → M (Option α)) : List D → M (List α)
  | [] => ret []
  | d :: r => bnd (f d) fun o => bnd (filG f r) fun ys => ret (match o with
    | some y => y :: ys
    | none => ys)
def allG (f : D → M Bool) : List D → M Bool
  | [] => ret true
  | d :: r => bnd (f d) fun b => if b = true then allG f r else ret false
def anyG (f : D → M Bool) : List D → M Bool
  | [] => ret false
  | d :: r => bnd (f d) fun b => if b = true then ret true else anyG f r
def sumG (f : D → M (Option D)) : List D → Int → M Int
  | [], n => ret n
  | d :: r, n => bnd (f d) fun o => match o with
    | some y => bnd (ofO (asI y)) fun j => sumG f r (n + j)
    | none => sumG f r n
def whenM (c : M Bool) (e : M α) : M (Option α) := bnd c fun k => if k = true then bnd e fun y => ret (some y) else ret none
def someM (e : M α) : M (Option α) := bnd e fun y => ret (some y)
@[simp] theorem whenM_true (e : Option α) : whenM (some true) e = e.map some := by cases e <;> rfl
@[simp] theorem whenM_false (e : Option α) : whenM (some false) e = some none := rfl
@[simp] theorem someM_opt (e : Option α) : someM e = e.map some := by cases e <;> rfl
theorem mapG_some {f : D → Option α} {g : D → α} : ∀ {ds : List D}, (∀ d ∈ ds, f d = some (g d)) → mapG f ds = some (ds.map g)
  | [], _ => rfl
  | d :: r, h => by
    show (f d).bind (fun y => (mapG f r).bind fun ys => some (y :: ys)) = _
    rw [h d (List.mem_cons_self ..), mapG_some fun x hx => h x (List.mem_cons_of_mem _ hx)]
    rfl
theorem filG_some {f : D → Option (Option α)} {g : D → Option α} : ∀ {ds : List D}, (∀ d ∈ ds, f d = some (g d)) → filG f ds = some (ds.filterMap g)
  | [], _ => rfl
  | d :: r, h => by
    show (f d).bind (fun o => (filG f r).bind fun ys => some (match o with | some y => y :: ys | none => ys)) = _
    rw [h d (List.mem_cons_self ..), filG_some fun x hx => h x (List.mem_cons_of_mem _ hx), List.filterMap_cons]
    cases g d <;> rfl
theorem allG_some {f : D → Option Bool} {g : D → Bool} : ∀ {ds : List D}, (∀ d ∈ ds, f d = some (g d)) → allG f ds = some (ds.all g)
  | [], _ => rfl
  | d :: r, h => by
    show (f d).bind (fun b => if b = true then allG f r else some false) = _
    rw [h d (List.mem_cons_self ..), allG_some fun x hx => h x (List.mem_cons_of_mem _ hx), List.all_cons]
    cases g d <;> rfl
theorem anyG_some {f : D → Option Bool} {g : D → Bool} : ∀ {ds : List D}, (∀ d ∈ ds, f d = some (g d)) → anyG f ds = some (ds.any g)
  | [], _ => rfl
  | d :: r, h => by
    show (f d).bind (fun b => if b = true then some true else anyG f r) = _
    rw [h d (List.mem_cons_self ..), anyG_some fun x hx => h x (List.mem_cons_of_mem _ hx), List.any_cons]
    cases g d <;> rfl
theorem sumG_some {f : D → Option (Option D)} {g : D → Option Int} : ∀ {ds : List D} {n : Int}, (∀ d ∈ ds, f d = some ((g d).map .int)) → sumG f ds n = some (n + (ds.filterMap g).sum)
  | [], n, _ => by simp [sumG]
  | d :: r, n, h => by
    show (f d).bind (fun o => match o with
      | some y => (asI y).bind fun j => sumG f r (n + j)
      | none => sumG f r n) = _
    rw [h d (List.mem_cons_self ..), List.filterMap_cons]
    have ih := fun n => sumG_some (f := f) (g := g) (ds := r) (n := n) fun x hx => h x (List.mem_cons_of_mem _ hx)
    cases e : g d with
    | none => exact ih n
    | some i =>
      show sumG f r (n + i) = _
      rw [ih, List.sum_cons]
      congr 1
      omega
theorem lcU_map {ρ' : DEnv} {f : D → M D} {K : List D → Prop} (hb : ∀ (d : D) (Q : D → Prop), run (f d) Q → TG1 gt d ρ' fun ρ2 => ue ρ2 fun _ y => Q y) : ∀ (ds acc : List D), run (mapG f ds) (fun ys => K (acc ++ ys)) → lcU ρ' gt uYes ue ds acc K
  | [], acc, h => by
    have h := rr (Q := fun ys => K (acc ++ ys)) h
    rw [List.append_nil] at h
    rw [lcU]; exact h
  | d :: r, acc, h => by
    obtain ⟨L, hL, hu⟩ := hb d (fun y => lcU ρ' gt uYes ue r (acc ++ [y]) K) (Mo.mono (fun y hy => lcU_map hb r (acc ++ [y]) (Mo.mono (fun ys h => by
      have h := rr (Q := fun ys => K (acc ++ ys)) h
      rw [List.append_assoc]; exact h) (rb hy))) (rb h))
    unfold lcU
    rw [hL]
    exact hu
theorem lcU_fil {ρ' : DEnv} {f : D → M (Option D)} {K : List D → Prop} (hb : ∀ (d : D) (Q : Option D → Prop), run (f d) Q → TG1 gt d ρ' fun ρ2 => ut ρ2 fun b => if b = true then ue ρ2 fun _ y => Q (some y) else Q none) : ∀ (ds acc : List D), run (filG f ds) (fun ys => K (acc ++ ys)) → lcU ρ' gt ut ue ds acc K
  | [], acc, h => by
    have h := rr (Q := fun ys => K (acc ++ ys)) h
    rw [List.append_nil] at h
    rw [lcU]; exact h
  | d :: r, acc, h => by
    obtain ⟨L, hL, hu⟩ := hb d (fun o => match o with
      | some y => lcU ρ' gt ut ue r (acc ++ [y]) K
      | none => lcU ρ' gt ut ue r acc K) (Mo.mono (fun o ho => by
        cases o with
        | some y =>
          refine lcU_fil hb r (acc ++ [y]) (Mo.mono (fun ys h => ?_) (rb ho))
          have h := rr (Q := fun ys => K (acc ++ ys)) h
          rw [List.append_assoc]; exact h
        | none => exact lcU_fil hb r acc (Mo.mono (fun ys h => rr (Q := fun ys => K (acc ++ ys)) h) (rb ho))) (rb h))
    unfold lcU
    rw [hL]
    exact hu
def lcM (mi : M (List D)) (f : D → M α) : M (List α) := bnd mi fun ds => bnd (ofO (chkL ds)) fun ds => mapG f ds
def lcF (mi : M (List D)) (f : D → M (Option α)) : M (List α) := bnd mi fun ds => bnd (ofO (chkL ds)) fun ds => filG f ds
@[simp] theorem lcM_some (ds : List D) (f : D → Option α) : lcM (some ds) f = (chkL ds).bind (mapG f) := rfl
@[simp] theorem lcF_some (ds : List D) (f : D → Option (Option α)) : lcF (some ds) f = (chkL ds).bind (filG f) := rfl
theorem chk_of {ds ds' : List D} (e : chkL ds = some ds') : ds.length ≤ sizeLine ∧ ds' = ds := by
  unfold chkL at e
  split at e
  · rename_i h; cases e; exact ⟨h, rfl⟩
  · cases e
section
variable {f : D → M D} {f2 : D → M (Option D)} {fb : D → M Bool} {vs : List Nat}
theorem ei_lc (hw : WI ρ ui mi) (hb : ∀ (d : D) (Q : D → Prop), run (f d) Q → TG1 gt d (wipeD ρ vs) fun ρ2 => ue ρ2 fun _ y => Q y) : EI ρ (uLc ui gt uYes ue vs) true (lstM (lcM mi f)) := fun Q hq => by
  refine hw _ (Mo.mono (fun ds hd => ?_) (rb (rb hq)))
  obtain ⟨ds', e, q⟩ := run_ofO.mp (rb hd)
  obtain ⟨hl, rfl⟩ := chk_of e
  exact ⟨hl, holdC (lcU_map (ue := ue) hb _ [] (Mo.mono (fun ys h => rr (Q := fun d => Q true d) h) q))⟩
theorem ei_lcF (hw : WI ρ ui mi) (hb : ∀ (d : D) (Q : Option D → Prop), run (f2 d) Q → TG1 gt d (wipeD ρ vs) fun ρ2 => ut ρ2 fun b => if b = true then ue ρ2 fun _ y => Q (some y) else Q none) : EI ρ (uLc ui gt ut ue vs) true (lstM (lcF mi f2)) := fun Q hq => by
  refine hw _ (Mo.mono (fun ds hd => ?_) (rb (rb hq)))
  obtain ⟨ds', e, q⟩ := run_ofO.mp (rb hd)
  obtain ⟨hl, rfl⟩ := chk_of e
  exact ⟨hl, holdC (lcU_fil hb _ [] (Mo.mono (fun ys h => rr (Q := fun d => Q true d) h) q))⟩
theorem ei_tupG (hw : WI ρ ui mi) (hb : ∀ (d : D) (Q : D → Prop), run (f d) Q → TG1 gt d (wipeD ρ vs) fun ρ2 => ue ρ2 fun _ y => Q y) : EI ρ (uTupG ui gt uYes ue vs) false (tupM (lcM mi f)) := fun Q hq => by
  refine hw _ (Mo.mono (fun ds hd => ?_) (rb (rb hq)))
  obtain ⟨ds', e, q⟩ := run_ofO.mp (rb hd)
  obtain ⟨hl, rfl⟩ := chk_of e
  exact ⟨hl, lcU_map (ue := ue) hb _ [] (Mo.mono (fun ys h => rr (Q := fun d => Q false d) h) q)⟩
theorem ei_tupGF (hw : WI ρ ui mi) (hb : ∀ (d : D) (Q : Option D → Prop), run (f2 d) Q → TG1 gt d (wipeD ρ vs) fun ρ2 => ut ρ2 fun b => if b = true then ue ρ2 fun _ y => Q (some y) else Q none) : EI ρ (uTupG ui gt ut ue vs) false (tupM (lcF mi f2)) := fun Q hq => by
  refine hw _ (Mo.mono (fun ds hd => ?_) (rb (rb hq)))
  obtain ⟨ds', e, q⟩ := run_ofO.mp (rb hd)
  obtain ⟨hl, rfl⟩ := chk_of e
  exact ⟨hl, lcU_fil hb _ [] (Mo.mono (fun ys h => rr (Q := fun d => Q false d) h) q)⟩
theorem allU_of {ρ' : DEnv} {K : Bool → Prop} (hb : ∀ (d : D) (Q : Bool → Prop), run (fb d) Q → TG1 gt d ρ' fun ρ2 => ut ρ2 fun b => if b = true then ue ρ2 fun _ y => isB Q y else Q true) : ∀ ds : List D, run (allG fb ds) K → allU ρ' gt ut ue ds K
  | [], h => by rw [allU]; exact rr (Q := K) h
  | d :: r, h => by
    obtain ⟨L, hL, hu⟩ := hb d (fun b => if b = true then allU ρ' gt ut ue r K else K false) (Mo.mono (fun b h => by
      cases b with
      | true => exact allU_of hb r h
      | false => exact rr (Q := K) (a := false) h) (rb h))
    unfold allU
    rw [hL]
    exact hu
theorem anyU_of {ρ' : DEnv} {K : Bool → Prop} (hb : ∀ (d : D) (Q : Bool → Prop), run (fb d) Q → TG1 gt d ρ' fun ρ2 => ut ρ2 fun b => if b = true then ue ρ2 fun _ y => isB Q y else Q false) : ∀ ds : List D, run (anyG fb ds) K → anyU ρ' gt ut ue ds K
  | [], h => by rw [anyU]; exact rr (Q := K) h
  | d :: r, h => by
    obtain ⟨L, hL, hu⟩ := hb d (fun b => if b = true then K true else anyU ρ' gt ut ue r K) (Mo.mono (fun b h => by
      cases b with
      | false => exact anyU_of hb r h
      | true => exact rr (Q := K) (a := true) h) (rb h))
    unfold anyU
    rw [hL]
    exact hu
theorem sumU_of {ρ' : DEnv} {K : Int → Prop} (hb : ∀ (d : D) (Q : Option D → Prop), run (f2 d) Q → TG1 gt d ρ' fun ρ2 => ut ρ2 fun b => if b = true then ue ρ2 fun _ y => Q (some y) else Q none) : ∀ (ds : List D) (n : Int), run (sumG f2 ds n) K → sumU ρ' gt ut ue ds n K
  | [], n, h => by rw [sumU]; exact rr (Q := K) h
  | d :: r, n, h => by
    obtain ⟨L, hL, hu⟩ := hb d (fun o => match o with
      | some y => isI (fun j => sumU ρ' gt ut ue r (n + j) K) y
      | none => sumU ρ' gt ut ue r n K) (Mo.mono (fun o h => by
        cases o with
        | some y =>
          obtain ⟨j, e, q⟩ := run_ofO.mp (rb h)
          exact asI_of e (sumU_of hb r (n + j) q)
        | none => exact sumU_of hb r n h) (rb h))
    unfold sumU
    rw [hL]
    exact hu
def intM (m : M Int) : M D := bnd m fun n => ret (.int n)
@[simp] theorem intM_some (n : Int) : intM (some n) = some (.int n) := rfl
def allQ (mi : M (List D)) (f : D → M Bool) : M Bool := bnd mi fun ds => allG f ds
def anyQ (mi : M (List D)) (f : D → M Bool) : M Bool := bnd mi fun ds => anyG f ds
def sumQ (mi : M (List D)) (f : D → M (Option D)) : M Int := bnd mi fun ds => sumG f ds 0
@[simp] theorem allQ_some (ds : List D) (f : D → Option Bool) : allQ (some ds) f = allG f ds := rfl
@[simp] theorem anyQ_some (ds : List D) (f : D → Option Bool) : anyQ (some ds) f = anyG f ds := rfl
@[simp] theorem sumQ_some (ds : List D) (f : D → Option (Option D)) : sumQ (some ds) f = sumG f ds 0 := rfl
theorem ei_allG (hw : WI ρ ui mi) (hb : ∀ (d : D) (Q : Bool → Prop), run (fb d) Q → TG1 gt d (wipeD ρ vs) fun ρ2 => ut ρ2 fun b => if b = true then ue ρ2 fun _ y => isB Q y else Q true) : EI ρ (uAllG ui gt ut ue vs) false (vB (allQ mi fb)) := fun Q hq => by
  refine hw _ (Mo.mono (fun ds hd => allU_of hb ds (Mo.mono (fun b h => ?_) hd)) (rb (rb hq)))
  exact rr (Q := fun d => Q false d) h
theorem ei_anyG (hw : WI ρ ui mi) (hb : ∀ (d : D) (Q : Bool → Prop), run (fb d) Q → TG1 gt d (wipeD ρ vs) fun ρ2 => ut ρ2 fun b => if b = true then ue ρ2 fun _ y => isB Q y else Q false) : EI ρ (uAnyG ui gt ut ue vs) false (vB (anyQ mi fb)) := fun Q hq => by
  refine hw _ (Mo.mono (fun ds hd => anyU_of hb ds (Mo.mono (fun b h => ?_) hd)) (rb (rb hq)))
  exact rr (Q := fun d => Q false d) h
theorem ei_sumG (hw : WI ρ ui mi) (hb : ∀ (d : D) (Q : Option D → Prop), run (f2 d) Q → TG1 gt d (wipeD ρ vs) fun ρ2 => ut ρ2 fun b => if b = true then ue ρ2 fun _ y => Q (some y) else Q none) : EI ρ (uSumG ui gt ut ue vs) false (intM (sumQ mi f2)) := fun Q hq => by
  refine hw _ (Mo.mono (fun ds hd => sumU_of hb ds 0 (Mo.mono (fun b h => ?_) hd)) (rb (rb hq)))
  exact rr (Q := fun d => Q false d) h
/-- an element's reading, by its function: without a test, with one -/
theorem el_id {ρ2 : DEnv} {m : M D} {Q : D → Prop} (he : EI ρ2 ue t m) (h : run m Q) : ue ρ2 fun _ y => Q y := he (fun _ y => Q y) h
theorem el_when {ρ2 : DEnv} {m : M D} {Q : Option D → Prop} (ht : TI ρ2 ut mt) (he : EI ρ2 ue t m) (h : run (whenM mt m) Q) : ut ρ2 fun b => if b = true then ue ρ2 fun _ y => Q (some y) else Q none :=
  ht _ (Mo.mono (fun b hb => by
    cases b with
    | true => exact he _ (Mo.mono (fun y hy => rr (Q := Q) hy) (rb hb))
    | false => exact rr (Q := Q) (a := none) hb) (rb h))
theorem el_some {ρ2 : DEnv} {m : M D} {Q : Option D → Prop} (he : EI ρ2 ue t m) (h : run (someM m) Q) : uYes ρ2 fun b => if b = true then ue ρ2 fun _ y => Q (some y) else Q none :=
  he _ (Mo.mono (fun y hy => rr (Q := Q) hy) (rb h))
theorem el_B {ρ2 : DEnv} {m : M Bool} {Q : Bool → Prop} {R : Prop} (he : EI ρ2 ue t (vB m)) (h : run m Q) : uYes ρ2 fun b => if b = true then ue ρ2 fun _ y => isB Q y else R :=
  he (fun _ y => isB Q y) (run_bnd.mpr (Mo.mono (fun b hb => run_ret.mpr hb) h))
theorem el_BA {ρ2 : DEnv} {m : M Bool} {Q : Bool → Prop} (ht : TI ρ2 ut mt) (he : EI ρ2 ue t (vB m)) (h : run (ite3 mt m (ret true)) Q) : ut ρ2 fun b => if b = true then ue ρ2 fun _ y => isB Q y else Q true :=
  ht _ (Mo.mono (fun b hb => by
    cases b with
    | true => exact he (fun _ y => isB Q y) (run_bnd.mpr (Mo.mono (fun b hb => run_ret.mpr hb) hb))
    | false => exact rr (Q := Q) (a := true) hb) (rb h))
theorem el_BE {ρ2 : DEnv} {m : M Bool} {Q : Bool → Prop} (ht : TI ρ2 ut mt) (he : EI ρ2 ue t (vB m)) (h : run (ite3 mt m (ret false)) Q) : ut ρ2 fun b => if b = true then ue ρ2 fun _ y => isB Q y else Q false :=
  ht _ (Mo.mono (fun b hb => by
    cases b with
    | true => exact he (fun _ y => isB Q y) (run_bnd.mpr (Mo.mono (fun b hb => run_ret.mpr hb) hb))
    | false => exact rr (Q := Q) (a := false) hb) (rb h))
end

/-! ### statements -/
def hide (ρ : DEnv) : DEnv := ρ.map fun s => match s with
  | some (true, _) => none
  | s => s
def frzA (ρ : DEnv) : DEnv := ρ.map fun s => match s with
  | some (true, d) => some (false, d)
  | s => s
theorem vis_no (ρ : DEnv) : vis noM ρ = hide ρ := by
  unfold vis hide
  apply List.ext_getElem?
  intro i
  rw [List.getElem?_mapIdx, List.getElem?_map]
  cases ρ[i]? with
  | none => rfl
  | some s =>
    cases s with
    | none => rfl
    | some p => obtain ⟨b, d⟩ := p; cases b <;> rfl
theorem freeze_no (ρ : DEnv) : freeze noM ρ = ρ := by
  unfold freeze
  apply List.ext_getElem?
  intro i
  rw [List.getElem?_mapIdx]
  cases ρ[i]? with
  | none => rfl
  | some s =>
    cases s with
    | none => rfl
    | some p => obtain ⟨b, d⟩ := p; cases b <;> rfl
theorem freeze_all (ρ : DEnv) : freeze allM ρ = frzA ρ := by
  unfold freeze frzA
  apply List.ext_getElem?
  intro i
  rw [List.getElem?_mapIdx, List.getElem?_map]
  cases ρ[i]? with
  | none => rfl
  | some s =>
    cases s with
    | none => rfl
    | some p => obtain ⟨b, d⟩ := p; cases b <;> rfl
theorem settle_no (t : Bool) (d : D) (ρ : DEnv) : settle noM t d ρ = ρ := by
  unfold settle
  rw [freeze_no]
  split <;> rfl
theorem settleL_no (ds : List D) (ρ : DEnv) : settleL noM ds ρ = ρ := by
  unfold settleL
  rw [freeze_no]
  split <;> rfl
theorem settle_F {t : Bool} {d : D} (h : frzA ρ = ρ) : settle allM t d ρ = ρ := by
  unfold settle
  rw [freeze_all, h]
  split <;> rfl
end
end DL

/-! DLFun3: functional readings: statements, loops, defs. -/
namespace DL
open PySem PySem.Spec PyProof.Rows L2
open Mo (ret bnd ofO run run_ret run_bnd run_ofO)
section
variable {M : Type → Type} [Mo M] {α β γ σ : Type} {ρ ρ1 ρ2 : DEnv} {u ua ub uc ue uk : UE} {ta tb tc t : Bool} {ma mb mc me mo mk' : M D} {ut ut2 : UT} {mt mt2 : M Bool} {uas : UA} {mas : M (List D)} {ui : UI} {mi : M (List D)} {gt : UG}
  {Ψ : β → Prop} {E : UEnds} {rest us us2 : US} {kf : D → M β} {m m2 : M β} {i j l : Nat}
def SI (Ψ : β → Prop) (E : UEnds) (ρ : DEnv) (us : US) (m : M β) : Prop := run m Ψ → us E ρ
def nlM (t : Bool) (m : M D) : M D := bnd m fun d => ofO (oNL t d)
@[simp] theorem nlM_some (t : Bool) (d : D) : nlM t (some d) = oNL t d := rfl
theorem nl_of {d d' : D} (e : oNL t d = some d') : safe t d = true ∧ d' = d := by
  unfold oNL at e
  split at e
  · rename_i h; cases e; exact ⟨h, rfl⟩
  · cases e
theorem settle_S {M : Nat → Bool} {d : D} (h : safe t d = true) : settle M t d ρ = ρ := if_pos h
theorem si_asgN (he : EI (hide ρ) ue t mo) (hk : ∀ d, SI Ψ E (ρ.set i (some (t, d))) rest (kf d)) : SI Ψ E ρ (sSeq (sAsgM [] i ue) rest) (bnd mo kf) := fun h => by
  show ue (vis noM ρ) fun t d => rest E ((settle noM t d ρ).set i (some (t, d)))
  rw [vis_no]
  refine he _ (Mo.mono (fun d hd => ?_) (rb h))
  rw [settle_no]
  exact hk d hd
theorem si_asgF (he : EI ρ ue t mo) (hk : ∀ d, SI Ψ E (ρ.set i (some (t, d))) rest (kf d)) (hF : frzA ρ = ρ := by rfl) : SI Ψ E ρ (sSeq (sAsg i ue) rest) (bnd mo kf) := fun h => by
  refine he _ (Mo.mono (fun d hd => ?_) (rb h))
  show rest E ((settle allM t d ρ).set i (some (t, d)))
  rw [settle_F hF]
  exact hk d hd
theorem si_asgS (he : EI ρ ue t mo) (hk : ∀ d, SI Ψ E (ρ.set i (some (t, d))) rest (kf d)) : SI Ψ E ρ (sSeq (sAsg i ue) rest) (bnd (nlM t mo) kf) := fun h => by
  refine he _ (Mo.mono (fun d hd => ?_) (rb (rb h)))
  obtain ⟨d', e, q⟩ := run_ofO.mp hd
  obtain ⟨hs, rfl⟩ := nl_of e
  show rest E ((settle allM t d' ρ).set i (some (t, d')))
  rw [settle_S hs]
  exact hk d' q
/-- several names at once -/
theorem si_asgGF (he : EI ρ ue t mo) (hk : ∀ d, run (kf d) Ψ → TG1 gt d ρ (rest E)) (hF : frzA ρ = ρ := by rfl) : SI Ψ E ρ (sSeq (sAsgG gt ue) rest) (bnd mo kf) := fun h => by
  refine he _ (Mo.mono (fun d hd => ?_) (rb h))
  obtain ⟨L, hL, hq⟩ := hk d hd
  show match gt d with
    | some L => rest E (setAll (settle allM t d ρ) (dset L))
    | none => False
  rw [hL, settle_F hF]
  exact hq
theorem si_asgGS (he : EI ρ ue t mo) (hk : ∀ d, run (kf d) Ψ → TG1 gt d ρ (rest E)) : SI Ψ E ρ (sSeq (sAsgG gt ue) rest) (bnd (nlM t mo) kf) := fun h => by
  refine he _ (Mo.mono (fun d hd => ?_) (rb (rb h)))
  obtain ⟨d', e, q⟩ := run_ofO.mp hd
  obtain ⟨hs, rfl⟩ := nl_of e
  obtain ⟨L, hL, hq⟩ := hk d' q
  show match gt d' with
    | some L => rest E (setAll (settle allM t d' ρ) (dset L))
    | none => False
  rw [hL, settle_S hs]
  exact hq
theorem settleL_F {ds : List D} (h : frzA ρ = ρ) : settleL allM ds ρ = ρ := by
  unfold settleL
  rw [freeze_all, h]
  split <;> rfl
theorem si_parAF {k2 : D → D → M β} (ha : EI ρ ua ta ma) (hb : EI ρ ub tb mb) (hk : ∀ a b, SI Ψ E ((ρ.set i (some (false, a))).set j (some (false, b))) rest (k2 a b)) (hF : frzA ρ = ρ := by rfl) :
    SI Ψ E ρ (sSeq (sParA i j (uCons ua (uCons ub uNil))) rest) (bnd ma fun a => bnd mb fun b => k2 a b) := fun h => by
  refine ha _ (Mo.mono (fun a h1 => hb _ (Mo.mono (fun b h2 => ?_) (rb h1))) (rb h))
  show rest E (((settleL allM [a, b] ρ).set i (some (false, a))).set j (some (false, b)))
  rw [settleL_F hF]
  exact hk a b h2
theorem si_parAS {k2 : D → D → M β} (ha : EI ρ ua ta ma) (hb : EI ρ ub tb mb) (hk : ∀ a b, SI Ψ E ((ρ.set i (some (false, a))).set j (some (false, b))) rest (k2 a b)) :
    SI Ψ E ρ (sSeq (sParA i j (uCons ua (uCons ub uNil))) rest) (bnd (nlM false ma) fun a => bnd (nlM false mb) fun b => k2 a b) := fun h => by
  refine ha _ (Mo.mono (fun a h1 => ?_) (rb (rb h)))
  obtain ⟨a', e1, qq⟩ := run_ofO.mp h1
  clear h1
  have h1 := qq
  clear qq
  obtain ⟨s1, rfl⟩ := nl_of e1
  refine hb _ (Mo.mono (fun b h2 => ?_) (rb (rb h1)))
  obtain ⟨b', e2, qq⟩ := run_ofO.mp h2
  clear h2
  have h2 := qq
  clear qq
  obtain ⟨s2, rfl⟩ := nl_of e2
  show rest E (((settleL allM [a', b'] ρ).set i (some (false, a'))).set j (some (false, b')))
  have : noLstL [a', b'] = true := by
    have s1 : noLst a' = true := s1
    have s2 : noLst b' = true := s2
    simp [s1, s2]
  unfold settleL
  rw [if_pos this]
  exact hk a' b' h2
theorem si_parA3F {k2 : D → D → D → M β} (ha : EI ρ ua ta ma) (hb : EI ρ ub tb mb) (hc : EI ρ uc tc mc) (hk : ∀ a b c, SI Ψ E (((ρ.set i (some (false, a))).set j (some (false, b))).set l (some (false, c))) rest (k2 a b c)) (hF : frzA ρ = ρ := by rfl) :
    SI Ψ E ρ (sSeq (sParA3 i j l (uCons ua (uCons ub (uCons uc uNil)))) rest) (bnd ma fun a => bnd mb fun b => bnd mc fun c => k2 a b c) := fun h => by
  refine ha _ (Mo.mono (fun a h1 => hb _ (Mo.mono (fun b h2 => hc _ (Mo.mono (fun c h3 => ?_) (rb h2))) (rb h1))) (rb h))
  show rest E ((((settleL allM [a, b, c] ρ).set i (some (false, a))).set j (some (false, b))).set l (some (false, c)))
  rw [settleL_F hF]
  exact hk a b c h3
theorem si_parA3S {k2 : D → D → D → M β} (ha : EI ρ ua ta ma) (hb : EI ρ ub tb mb) (hc : EI ρ uc tc mc) (hk : ∀ a b c, SI Ψ E (((ρ.set i (some (false, a))).set j (some (false, b))).set l (some (false, c))) rest (k2 a b c)) :
    SI Ψ E ρ (sSeq (sParA3 i j l (uCons ua (uCons ub (uCons uc uNil)))) rest) (bnd (nlM false ma) fun a => bnd (nlM false mb) fun b => bnd (nlM false mc) fun c => k2 a b c) := fun h => by
  refine ha _ (Mo.mono (fun a h1 => ?_) (rb (rb h)))
  obtain ⟨a', e1, qq⟩ := run_ofO.mp h1
  clear h1
  have h1 := qq
  clear qq
  obtain ⟨s1, rfl⟩ := nl_of e1
  refine hb _ (Mo.mono (fun b h2 => ?_) (rb (rb h1)))
  obtain ⟨b', e2, qq⟩ := run_ofO.mp h2
  clear h2
  have h2 := qq
  clear qq
  obtain ⟨s2, rfl⟩ := nl_of e2
  refine hc _ (Mo.mono (fun c h3 => ?_) (rb (rb h2)))
  obtain ⟨c', e3, qq⟩ := run_ofO.mp h3
  clear h3
  have h3 := qq
  clear qq
  obtain ⟨s3, rfl⟩ := nl_of e3
  show rest E ((((settleL allM [a', b', c'] ρ).set i (some (false, a'))).set j (some (false, b'))).set l (some (false, c')))
  have : noLstL [a', b', c'] = true := by
    have s1 : noLst a' = true := s1
    have s2 : noLst b' = true := s2
    have s3 : noLst c' = true := s3
    simp [s1, s2, s3]
  unfold settleL
  rw [if_pos this]
  exact hk a' b' c' h3
theorem vis_notI (ρ : DEnv) (i : Nat) (x : Option (Bool × D)) : (vis (notI i) (ρ.set i x)).set i none = ρ.set i none := by
  apply List.ext_getElem?
  intro j
  unfold vis
  by_cases h : i = j
  · subst h
    rw [List.getElem?_set, List.getElem?_set, List.length_mapIdx, List.length_set, if_pos rfl, if_pos rfl]
  · rw [List.getElem?_set_ne h, List.getElem?_set_ne h, List.getElem?_mapIdx, List.getElem?_set_ne h]
    have hn : (notI i) j = true := by simp [notI]; exact fun z => h (z.symm)
    cases ρ[j]? with
    | none => rfl
    | some s =>
      cases s with
      | none => rfl
      | some p =>
        obtain ⟨b, d⟩ := p
        cases b with
        | false => rfl
        | true => simp [hn, notI]; exact fun z => h z.symm
theorem frz_at {j : Nat} (h : frzA ρ = ρ) {b : Bool} {d : D} (e : ρ[j]? = some (some (b, d))) : b = false := by
  rw [← h] at e
  unfold frzA at e
  rw [List.getElem?_map] at e
  cases q : ρ[j]? with
  | none => rw [q] at e; cases e
  | some s =>
    rw [q] at e
    cases s with
    | none => cases e
    | some p =>
      obtain ⟨b', d'⟩ := p
      cases b' <;> cases e <;> rfl
theorem frz_notI (h : frzA ρ = ρ) (i : Nat) (x : Option (Bool × D)) : freeze (notI i) (ρ.set i x) = ρ.set i x := by
  apply List.ext_getElem?
  intro j
  unfold freeze
  rw [List.getElem?_mapIdx]
  by_cases hj : i = j
  · subst hj
    cases q : (ρ.set i x)[i]? with
    | none => rfl
    | some s =>
      cases s with
      | none => rfl
      | some p => obtain ⟨b, d⟩ := p; cases b <;> simp [notI]
  · rw [List.getElem?_set_ne hj]
    cases q : ρ[j]? with
    | none => rfl
    | some s =>
      cases s with
      | none => rfl
      | some p => obtain ⟨b, d⟩ := p; have := frz_at h q; subst this; rfl
/-- two names, the second value not of the first name -/
theorem si_parF {k2 : D → D → M β} (ha : EI ρ ua ta ma) (hb : EI (ρ.set i none) ub tb mb) (hk : ∀ a b, SI Ψ E ((ρ.set i (some (ta, a))).set j (some (tb, b))) rest (k2 a b)) (hF : frzA ρ = ρ := by rfl) :
    SI Ψ E ρ (sSeq (sPar i j ua ub) rest) (bnd ma fun a => bnd mb fun b => k2 a b) := fun h => by
  refine ha _ (Mo.mono (fun a h1 => ?_) (rb h))
  show ub ((vis (notI i) ((settle allM ta a ρ).set i (some (ta, a)))).set i none) fun t2 d2 => rest E ((settle (notI i) t2 d2 ((settle allM ta a ρ).set i (some (ta, a)))).set j (some (t2, d2)))
  rw [settle_F hF, vis_notI]
  refine hb _ (Mo.mono (fun b h2 => ?_) (rb h1))
  have : settle (notI i) tb b (ρ.set i (some (ta, a))) = ρ.set i (some (ta, a)) := by
    unfold settle
    rw [frz_notI hF]
    split <;> rfl
  rw [this]
  exact hk a b h2
theorem si_parS {k2 : D → D → M β} (ha : EI ρ ua ta ma) (hb : EI (ρ.set i none) ub tb mb) (hk : ∀ a b, SI Ψ E ((ρ.set i (some (ta, a))).set j (some (tb, b))) rest (k2 a b)) :
    SI Ψ E ρ (sSeq (sPar i j ua ub) rest) (bnd (nlM ta ma) fun a => bnd (nlM tb mb) fun b => k2 a b) := fun h => by
  refine ha _ (Mo.mono (fun a h1 => ?_) (rb (rb h)))
  obtain ⟨a', e1, qq⟩ := run_ofO.mp h1
  clear h1
  have h1 := qq
  clear qq
  obtain ⟨s1, rfl⟩ := nl_of e1
  show ub ((vis (notI i) ((settle allM ta a' ρ).set i (some (ta, a')))).set i none) fun t2 d2 => rest E ((settle (notI i) t2 d2 ((settle allM ta a' ρ).set i (some (ta, a')))).set j (some (t2, d2)))
  rw [settle_S s1, vis_notI]
  refine hb _ (Mo.mono (fun b h2 => ?_) (rb (rb h1)))
  obtain ⟨b', e2, qq⟩ := run_ofO.mp h2
  clear h2
  have h2 := qq
  clear qq
  obtain ⟨s2, rfl⟩ := nl_of e2
  rw [settle_S s2]
  exact hk a' b' h2
/-! lists in place -/
def asL : D → Option (List D)
  | .lst ds => some ds
  | _ => none
@[simp] theorem asL_lst (ds : List D) : asL (.lst ds) = some ds := rfl
theorem asL_eq {d : D} {ds : List D} (e : asL d = some ds) : d = .lst ds := by
  cases d with
  | lst xs => cases e; rfl
  | _ => cases e
theorem own_of {d : D} {ds : List D} {Q : List D → Prop} (hi : ρ[i]? = some (some (true, d))) (e : d = .lst ds) (q : Q ds) : ownAt ρ i Q := by
  subst e
  unfold ownAt
  rw [hi]
  exact q
@[simp] def appO (ds : List D) (x : D) : Option D := if ds.length < sizeLine then some (.lst (ds ++ [x])) else none
def appL (xs : D) (m : M D) : M D := bnd (ofO (asL xs)) fun ds => bnd m fun x => ofO (appO ds x)
@[simp] theorem appL_some (ds : List D) (x : D) : appL (.lst ds) (some x) = appO ds x := rfl
theorem appO_ok {ds : List D} {x : D} (h : ds.length < sizeLine) : appO ds x = some (.lst (ds ++ [x])) := if_pos h
theorem si_appN {d : D} (he : EI (hide ρ) ua ta ma) (hk : ∀ d, SI Ψ E (ρ.set i (some (true, d))) rest (kf d)) (hi : ρ[i]? = some (some (true, d)) := by rfl) : SI Ψ E ρ (sSeq (sMeth noM i mAppend (uCons ua uNil)) rest) (bnd (appL d ma) kf) := fun h => by
  obtain ⟨ds, e, h⟩ := run_ofO.mp (rb (rb h))
  have e := asL_eq e
  refine ⟨own_of hi e trivial, ?_⟩
  rw [vis_no]
  refine he _ (Mo.mono (fun x hx => ?_) (rb h))
  show ownAt (settleL noM [x] ρ) i fun ds => ds.length < sizeLine ∧ rest E ((settleL noM [x] ρ).set i (some (true, .lst (ds ++ [x]))))
  rw [settleL_no]
  obtain ⟨d', e2, q⟩ := run_ofO.mp hx
  unfold appO at e2
  split at e2
  · rename_i hl
    cases e2
    exact own_of hi e ⟨hl, hk _ q⟩
  · cases e2
theorem si_appS {d : D} (he : EI ρ ua ta ma) (hk : ∀ d, SI Ψ E (ρ.set i (some (true, d))) rest (kf d)) (hi : ρ[i]? = some (some (true, d)) := by rfl) : SI Ψ E ρ (sSeq (sMeth allM i mAppend (uCons ua uNil)) rest) (bnd (appL d (nlM false ma)) kf) := fun h => by
  obtain ⟨ds, e, h⟩ := run_ofO.mp (rb (rb h))
  have e := asL_eq e
  refine ⟨own_of hi e trivial, ?_⟩
  rw [vis_all]
  refine he _ (Mo.mono (fun x hx => ?_) (rb (rb h)))
  obtain ⟨x', e3, qq⟩ := run_ofO.mp hx
  clear hx
  have hx := qq
  clear qq
  obtain ⟨s3, rfl⟩ := nl_of e3
  show ownAt (settleL allM [x'] ρ) i fun ds => ds.length < sizeLine ∧ rest E ((settleL allM [x'] ρ).set i (some (true, .lst (ds ++ [x']))))
  have hs : settleL allM [x'] ρ = ρ := by
    have s3 : noLst x' = true := s3
    unfold settleL
    rw [if_pos (by simp [s3])]
  rw [hs]
  obtain ⟨d', e2, q⟩ := run_ofO.mp hx
  unfold appO at e2
  split at e2
  · rename_i hl
    cases e2
    exact own_of hi e ⟨hl, hk _ q⟩
  · cases e2
@[simp] def popO (ds : List D) : Option (D × D) := match ds[ds.length - 1]? with
  | some d => some (.lst ds.dropLast, d)
  | none => none
def popL (xs : D) : M (D × D) := bnd (ofO (asL xs)) fun ds => ofO (popO ds)
@[simp] theorem popL_some (ds : List D) : popL (M := Option) (.lst ds) = popO ds := rfl
theorem si_pop {d : D} {k2 : D → D → M β} (hk : ∀ a b, SI Ψ E ((ρ.set i (some (true, a))).set j (some (false, b))) rest (k2 a b)) (hi : ρ[i]? = some (some (true, d)) := by rfl) : SI Ψ E ρ (sSeq (sMethV allM j i mPop uNil) rest) (bnd (popL d) fun p => k2 p.1 p.2) := fun h => by
  obtain ⟨ds, e, h⟩ := run_ofO.mp (rb (rb h))
  have e := asL_eq e
  refine ⟨own_of hi e trivial, ?_⟩
  obtain ⟨p, e2, q⟩ := run_ofO.mp h
  show ownAt (settleL allM [] ρ) i fun ds => ∃ d, ds[ds.length - 1]? = some d ∧ rest E (((settleL allM [] ρ).set i (some (true, .lst ds.dropLast))).set j (some (false, d)))
  have hs : settleL allM [] ρ = ρ := by unfold settleL; rw [if_pos (by simp)]
  rw [hs]
  unfold popO at e2
  split at e2
  · rename_i d' hd
    cases e2
    exact own_of hi e ⟨d', hd, hk _ _ q⟩
  · cases e2
def popAtO (ds : List D) (k : D) : Option (D × D) := match k with
  | .int i => if -(2 ^ 63) ≤ i ∧ i < 2 ^ 63 then (ixN ds.length i).bind fun n => ds[n]?.map fun d => (.lst (ds.eraseIdx n), d) else none
  | _ => none
def popAtL (xs : D) (m : M D) : M (D × D) := bnd (ofO (asL xs)) fun ds => bnd m fun k => ofO (popAtO ds k)
@[simp] theorem popAtL_some (ds : List D) (k : D) : popAtL (.lst ds) (some k) = popAtO ds k := rfl
theorem si_popAt {d : D} {k2 : D → D → M β} (he : EI (hide ρ) ua ta ma) (hk : ∀ a b, SI Ψ E ((ρ.set i (some (true, a))).set j (some (false, b))) rest (k2 a b)) (hi : ρ[i]? = some (some (true, d)) := by rfl) : SI Ψ E ρ (sSeq (sMethV noM j i mPopAt (uCons ua uNil)) rest) (bnd (popAtL d ma) fun p => k2 p.1 p.2) := fun h => by
  obtain ⟨ds, e, h⟩ := run_ofO.mp (rb (rb h))
  have e := asL_eq e
  refine ⟨own_of hi e trivial, ?_⟩
  rw [vis_no]
  refine he _ (Mo.mono (fun x hx => ?_) (rb h))
  obtain ⟨p, e2, q⟩ := run_ofO.mp hx
  show ownAt (settleL noM [x] ρ) i fun ds => mPopAt ds [x] fun ds' d => rest E (((settleL noM [x] ρ).set i (some (true, .lst ds'))).set j (some (false, d)))
  rw [settleL_no]
  unfold popAtO at e2
  split at e2
  · split at e2
    · rename_i hb
      cases e3 : ixN ds.length _ with
      | none => rw [e3] at e2; cases e2
      | some n =>
        rw [e3] at e2
        cases e4 : ds[n]? with
        | none => rw [Option.bind_some, e4] at e2; cases e2
        | some d' =>
          rw [Option.bind_some, e4] at e2
          cases e2
          exact own_of hi e ⟨hb, n, d', e3, e4, hk _ _ q⟩
    · cases e2
  · cases e2
@[simp] def setO (ds : List D) (k x : D) : Option D := match k with
  | .int i => (ixN ds.length i).map fun n => .lst (ds.set n x)
  | _ => none
def setL (xs : D) (mv mk : M D) : M D := bnd mv fun x => bnd (ofO (asL xs)) fun ds => bnd mk fun k => ofO (setO ds k x)
@[simp] theorem setL_some (ds : List D) (x k : D) : setL (.lst ds) (some x) (some k) = setO ds k x := rfl
theorem si_setN {d : D} {tk : Bool} (he : EI (hide ρ) ue t mo) (hkk : EI ρ uk tk mk') (hk : ∀ d, SI Ψ E (ρ.set i (some (true, d))) rest (kf d)) (hi : ρ[i]? = some (some (true, d)) := by rfl) : SI Ψ E ρ (sSeq (sSetIx noM i uk ue) rest) (bnd (setL d mo mk') kf) := fun h => by
  show ue (vis noM ρ) fun t d => ownAt (settle noM t d ρ) i (fun _ => True) ∧ uk (settle noM t d ρ) fun _ k => isI (fun k => ownAt (settle noM t d ρ) i fun ds => ∃ j, ixN ds.length k = some j ∧ rest E ((settle noM t d ρ).set i (some (true, .lst (ds.set j d))))) k
  rw [vis_no]
  refine he _ (Mo.mono (fun x hx => ?_) (rb (rb h)))
  rw [settle_no]
  obtain ⟨ds, e, hx⟩ := run_ofO.mp (rb hx)
  have e := asL_eq e
  refine ⟨own_of hi e trivial, hkk _ (Mo.mono (fun kx hkx => ?_) (rb hx))⟩
  obtain ⟨d', e2, q⟩ := run_ofO.mp hkx
  unfold setO at e2
  split at e2
  · rename_i n
    cases e3 : ixN ds.length n with
    | none => rw [e3] at e2; cases e2
    | some n' =>
      rw [e3] at e2
      cases e2
      exact own_of hi e ⟨n', e3, hk _ q⟩
  · cases e2
theorem si_setS {d : D} {tk : Bool} (he : EI ρ ue t mo) (hkk : EI ρ uk tk mk') (hk : ∀ d, SI Ψ E (ρ.set i (some (true, d))) rest (kf d)) (hi : ρ[i]? = some (some (true, d)) := by rfl) : SI Ψ E ρ (sSeq (sSetIx allM i uk ue) rest) (bnd (setL d (nlM t mo) mk') kf) := fun h => by
  show ue (vis allM ρ) fun t d => ownAt (settle allM t d ρ) i (fun _ => True) ∧ uk (settle allM t d ρ) fun _ k => isI (fun k => ownAt (settle allM t d ρ) i fun ds => ∃ j, ixN ds.length k = some j ∧ rest E ((settle allM t d ρ).set i (some (true, .lst (ds.set j d))))) k
  rw [vis_all]
  refine he _ (Mo.mono (fun x hx => ?_) (rb (rb (rb h))))
  obtain ⟨x', e1, qq⟩ := run_ofO.mp hx
  clear hx
  have hx := qq
  clear qq
  obtain ⟨s1, rfl⟩ := nl_of e1
  rw [settle_S s1]
  obtain ⟨ds, e, hx⟩ := run_ofO.mp (rb hx)
  have e := asL_eq e
  refine ⟨own_of hi e trivial, hkk _ (Mo.mono (fun kx hkx => ?_) (rb hx))⟩
  obtain ⟨d', e2, q⟩ := run_ofO.mp hkx
  unfold setO at e2
  split at e2
  · rename_i n
    cases e3 : ixN ds.length n with
    | none => rw [e3] at e2; cases e2
    | some n' =>
      rw [e3] at e2
      cases e2
      exact own_of hi e ⟨n', e3, hk _ q⟩
  · cases e2
def augO (f : Int → Int → Int) (ds : List D) (k : D) (my : M D) : M D := bnd (ofO (asI k)) fun kk => bnd (ofO (if 0 ≤ kk then (ds[kk.toNat]?).bind asI else none)) fun a => bnd my fun y => bnd (ofO (asI y)) fun b => ret (.lst (ds.set kk.toNat (.int (f a b))))
def augL (f : Int → Int → Int) (xs : D) (mk my : M D) : M D := bnd (ofO (asL xs)) fun ds => bnd mk fun k => augO f ds k my
@[simp] theorem augL_some (f : Int → Int → Int) (ds : List D) (k y : Int) : augL f (.lst ds) (some (.int k)) (some (.int y)) = (if 0 ≤ k then (ds[k.toNat]?).bind asI else none).map fun a => .lst (ds.set k.toNat (.int (f a y))) := by
  show (if 0 ≤ k then (ds[k.toNat]?).bind asI else none).bind _ = _
  cases (if 0 ≤ k then (ds[k.toNat]?).bind asI else none) <;> rfl
theorem si_augIx {d : D} {tk ty : Bool} {f : Int → Int → Int} {my : M D} (hkk : EI ρ uk tk mk') (he : EI ρ ue ty my) (hk : ∀ d, SI Ψ E (ρ.set i (some (true, d))) rest (kf d)) (hi : ρ[i]? = some (some (true, d)) := by rfl) : SI Ψ E ρ (sSeq (sAugIx i f uk ue) rest) (bnd (augL f d mk' my) kf) := fun h => by
  obtain ⟨ds, e, h⟩ := run_ofO.mp (rb (rb h))
  have e := asL_eq e
  refine ⟨own_of hi e trivial, hkk _ (Mo.mono (fun kx hkx => ?_) (rb h))⟩
  obtain ⟨kk, e1, hkx⟩ := run_ofO.mp (rb hkx)
  refine asI_of e1 (own_of hi e ?_)
  obtain ⟨a, e2, hkx⟩ := run_ofO.mp (rb hkx)
  split at e2
  · rename_i h0
    refine ⟨h0, ?_⟩
    cases e3 : ds[kk.toNat]? with
    | none => rw [e3] at e2; cases e2
    | some x =>
      rw [e3] at e2
      cases x with
      | int a' =>
        cases e2
        refine he _ (Mo.mono (fun y hy => ?_) (rb hkx))
        obtain ⟨b, e4, q⟩ := run_ofO.mp (rb hy)
        exact asI_of e4 (hk _ (rr (Q := fun d => run (kf d) Ψ) q))
      | _ => cases e2
  · cases e2
def augI (f : Int → Int → Int) (x : D) (my : M D) : M D := bnd (ofO (asI x)) fun a => bnd my fun y => bnd (ofO (asI y)) fun b => ret (.int (f a b))
@[simp] theorem augI_some (f : Int → Int → Int) (a b : Int) : augI f (.int a) (some (.int b)) = some (.int (f a b)) := rfl
theorem si_augI {d : D} {tx ty : Bool} {f : Int → Int → Int} {my : M D} (he : EI ρ ue ty my) (hk : ∀ d, SI Ψ E (ρ.set i (some (false, d))) rest (kf d)) (hi : ρ[i]? = some (some (tx, d)) := by rfl) : SI Ψ E ρ (sSeq (sAugI i f ue) rest) (bnd (augI f d my) kf) := fun h => by
  obtain ⟨a, e, q0⟩ := run_ofO.mp (rb (rb h))
  show sAugI i f ue { E with nx := rest E } ρ
  unfold sAugI
  rw [hi]
  cases d with
  | int a' =>
    cases e
    refine he _ (Mo.mono (fun y hy => ?_) (rb q0))
    obtain ⟨b, e4, q⟩ := run_ofO.mp (rb hy)
    exact asI_of e4 (hk _ (rr (Q := fun d => run (kf d) Ψ) q))
  | _ => cases e
theorem si_exprF (he : EI ρ ue t mo) (hk : SI Ψ E ρ rest m) (hF : frzA ρ = ρ := by rfl) : SI Ψ E ρ (sSeq (sExpr ue) rest) (bnd mo fun _ => m) := fun h => by
  refine he _ (Mo.mono (fun d hd => ?_) (rb h))
  show rest E (settle allM t d ρ)
  rw [settle_F hF]
  exact hk hd
theorem si_exprS (he : EI ρ ue t mo) (hk : SI Ψ E ρ rest m) : SI Ψ E ρ (sSeq (sExpr ue) rest) (bnd (nlM t mo) fun _ => m) := fun h => by
  refine he _ (Mo.mono (fun d hd => ?_) (rb (rb h)))
  obtain ⟨d', e1, qq⟩ := run_ofO.mp hd
  clear hd
  have hd := qq
  clear qq
  obtain ⟨s1, rfl⟩ := nl_of e1
  show rest E (settle allM t d' ρ)
  rw [settle_S s1]
  exact hk hd
/-! the flow -/
theorem si_pass (hk : SI Ψ E ρ rest m) : SI Ψ E ρ (sSeq sNext rest) m := hk
theorem si_nx (hk : run m Ψ → E.nx ρ) : SI Ψ E ρ sNext m := hk
theorem si_ret (he : EI ρ ue t mo) (hr : ∀ d, run (kf d) Ψ → E.rt t d) : SI Ψ E ρ (sSeq (sRet ue) rest) (bnd mo kf) := fun h => he _ (Mo.mono hr (rb h))
theorem si_retN (hr : run m Ψ → E.rt false .non) : SI Ψ E ρ (sSeq sRetN rest) m := hr
theorem si_brk (hk : run m Ψ → E.bk ρ) : SI Ψ E ρ (sSeq sBreak rest) m := hk
theorem si_cont (hk : run m Ψ → E.ct ρ) : SI Ψ E ρ (sSeq sCont rest) m := hk
theorem si_if (hc : TI ρ ut mt) (ha : SI Ψ { E with nx := rest E } ρ us m) (hb : SI Ψ { E with nx := rest E } ρ us2 m2) : SI Ψ E ρ (sSeq (sIf ut us us2) rest) (ite3 mt m m2) := fun h =>
  hc _ (Mo.mono (fun k hk => by
    cases k with
    | true => exact ha hk
    | false => exact hb hk) (rb h))
/-- what comes next needs to know less -/
theorem si_weak (hl : Le ρ1 ρ) (h : SI Ψ E ρ1 us m) : SI Ψ E ρ (sBody us) m := fun q => ⟨E, ρ1, hl, ULe.refl _, h q⟩
theorem le_e : Le [] [] := trivial
theorem le_n {r s : DEnv} {y : Option (Bool × D)} (h : Le r s) : Le (none :: r) (y :: s) := h
theorem le_s {r s : DEnv} {x : Bool × D} (h : Le r s) : Le (some x :: r) (some x :: s) := ⟨rfl, h⟩
/-! loops -/
inductive Ctl (σ : Type) where
  | nx (s : σ) | bk (s : σ) | rt (d : D)
def forC (f : D → σ → M (Ctl σ)) : List D → σ → M (Ctl σ)
  | [], s => ret (.nx s)
  | d :: r, s => bnd (f d s) fun c => match c with
    | .nx s' => forC f r s'
    | .bk s' => ret (.nx s')
    | .rt d => ret (.rt d)
def forS (f : D → σ → M σ) : List D → σ → M σ
  | [], s => ret s
  | d :: r, s => bnd (f d s) fun s' => forS f r s'
theorem forS_some {f : D → σ → Option σ} {g : D → σ → σ} : ∀ {ds : List D} {s : σ}, (∀ d ∈ ds, ∀ s, f d s = some (g d s)) → forS f ds s = some (ds.foldl (fun s d => g d s) s)
  | [], _, _ => rfl
  | d :: r, s, h => by
    show (f d s).bind (fun s' => forS f r s') = _
    rw [h d (List.mem_cons_self ..) s]
    exact forS_some fun x hx => h x (List.mem_cons_of_mem _ hx)
theorem forC_ok {mk : σ → DEnv} {ubd : US} {f : D → σ → M (Ctl σ)} {Ψ0 : Ctl σ → Prop}
    (hb : ∀ (d : D) (s : σ) (Ψ : Ctl σ → Prop) (E' : UEnds), (∀ s ρ', Le (mk s) ρ' → Ψ (.nx s) → E'.nx ρ') → (∀ s ρ', Le (mk s) ρ' → Ψ (.nx s) → E'.ct ρ') → (∀ s ρ', Le (mk s) ρ' → Ψ (.bk s) → E'.bk ρ') → (∀ d, Ψ (.rt d) → E'.rt t d) → run (f d s) Ψ → TG1 gt d (mk s) (ubd E'))
    (hn : ∀ s ρ', Le (mk s) ρ' → Ψ0 (.nx s) → E.nx ρ') (hr : ∀ d, Ψ0 (.rt d) → E.rt t d) : ∀ (ds : List D) (s : σ) (ρ : DEnv), Le (mk s) ρ → run (forC f ds s) Ψ0 → loopU gt (sBody ubd) ds E ρ
  | [], s, ρ, hl, h => hn s ρ hl (rr (Q := Ψ0) h)
  | d :: r, s, ρ, hl, h => by
    obtain ⟨L, hL, hu⟩ := hb d s _ { E with nx := loopU gt (sBody ubd) r E, ct := loopU gt (sBody ubd) r E, bk := E.nx } (fun s' ρ' hl' q => forC_ok hb hn hr r s' ρ' hl' q) (fun s' ρ' hl' q => forC_ok hb hn hr r s' ρ' hl' q) (fun s' ρ' hl' q => hn s' ρ' hl' (rr (Q := Ψ0) q)) (fun d q => hr d (rr (Q := Ψ0) q)) (rb h)
    unfold loopU
    rw [hL]
    exact ⟨_, _, loop_inv.le_setAll L hl, ULe.refl _, hu⟩
theorem forS_ok {mk : σ → DEnv} {ubd : US} {f : D → σ → M σ} {Ψ0 : σ → Prop}
    (hb : ∀ (d : D) (s : σ) (Ψ : σ → Prop) (E' : UEnds), (∀ s ρ', Le (mk s) ρ' → Ψ s → E'.nx ρ') → (∀ s ρ', Le (mk s) ρ' → Ψ s → E'.ct ρ') → run (f d s) Ψ → TG1 gt d (mk s) (ubd E'))
    (hn : ∀ s ρ', Le (mk s) ρ' → Ψ0 s → E.nx ρ') : ∀ (ds : List D) (s : σ) (ρ : DEnv), Le (mk s) ρ → run (forS f ds s) Ψ0 → loopU gt (sBody ubd) ds E ρ
  | [], s, ρ, hl, h => hn s ρ hl (rr (Q := Ψ0) h)
  | d :: r, s, ρ, hl, h => by
    obtain ⟨L, hL, hu⟩ := hb d s _ { E with nx := loopU gt (sBody ubd) r E, ct := loopU gt (sBody ubd) r E, bk := E.nx } (fun s' ρ' hl' q => forS_ok hb hn r s' ρ' hl' q) (fun s' ρ' hl' q => forS_ok hb hn r s' ρ' hl' q) (rb h)
    unfold loopU
    rw [hL]
    exact ⟨_, _, loop_inv.le_setAll L hl, ULe.refl _, hu⟩
/-- behind a loop -/
def ctlK (kr : D → M β) (kn : σ → M β) : Ctl σ → M β
  | .nx s => kn s
  | .bk s => kn s
  | .rt d => kr d
@[simp] theorem ctlK_nx (kr : D → M β) (kn : σ → M β) (s : σ) : ctlK kr kn (.nx s) = kn s := rfl
@[simp] theorem ctlK_rt (kr : D → M β) (kn : σ → M β) (d : D) : ctlK kr kn (.rt d) = kr d := rfl
section
variable {mk : σ → DEnv} {ubd : US} {f : D → σ → M (Ctl σ)} {fs : D → σ → M σ} {s0 : σ} {kn : σ → M β} {kr : D → M β}
abbrev BodyC (t : Bool) (gt : UG) (mk : σ → DEnv) (ubd : US) (f : D → σ → M (Ctl σ)) : Prop := ∀ (d : D) (s : σ) (Ψ : Ctl σ → Prop) (E' : UEnds), (∀ s ρ', Le (mk s) ρ' → Ψ (.nx s) → E'.nx ρ') → (∀ s ρ', Le (mk s) ρ' → Ψ (.nx s) → E'.ct ρ') → (∀ s ρ', Le (mk s) ρ' → Ψ (.bk s) → E'.bk ρ') → (∀ d, Ψ (.rt d) → E'.rt t d) → run (f d s) Ψ → TG1 gt d (mk s) (ubd E')
abbrev BodyS (gt : UG) (mk : σ → DEnv) (ubd : US) (f : D → σ → M σ) : Prop := ∀ (d : D) (s : σ) (Ψ : σ → Prop) (E' : UEnds), (∀ s ρ', Le (mk s) ρ' → Ψ s → E'.nx ρ') → (∀ s ρ', Le (mk s) ρ' → Ψ s → E'.ct ρ') → run (f d s) Ψ → TG1 gt d (mk s) (ubd E')
theorem si_loopC {ds : List D} (hb : BodyC t gt mk ubd f) (h0 : Le (mk s0) ρ) (hk : ∀ s, SI Ψ E (mk s) rest (kn s)) (hr : ∀ d, run (kr d) Ψ → E.rt t d) (h : run (bnd (forC f ds s0) (ctlK kr kn)) Ψ) : loopU gt (sBody ubd) ds { E with nx := sBody rest E } ρ :=
  forC_ok (E := { E with nx := sBody rest E }) (Ψ0 := fun c => run (ctlK kr kn c) Ψ) hb (fun s ρ' hl q => si_weak hl (hk s) q) hr ds s0 ρ h0 (rb h)
theorem si_loopS {ds : List D} (hb : BodyS gt mk ubd fs) (h0 : Le (mk s0) ρ) (hk : ∀ s, SI Ψ E (mk s) rest (kn s)) (h : run (bnd (forS fs ds s0) kn) Ψ) : loopU gt (sBody ubd) ds { E with nx := sBody rest E } ρ :=
  forS_ok (E := { E with nx := sBody rest E }) (Ψ0 := fun s => run (kn s) Ψ) hb (fun s ρ' hl q => si_weak hl (hk s) q) ds s0 ρ h0 (rb h)
theorem si_forRC (hw : WI ρ ui mi) (hb : BodyC t gt mk ubd f) (h0 : Le (mk s0) ρ) (hk : ∀ s, SI Ψ E (mk s) rest (kn s)) (hr : ∀ d, run (kr d) Ψ → E.rt t d) : SI Ψ E ρ (sSeq (sForR ui gt (sBody ubd)) (sBody rest)) (bnd mi fun ds => bnd (forC f ds s0) (ctlK kr kn)) := fun h =>
  hw _ (Mo.mono (fun ds hd => holdL (si_loopC hb h0 hk hr hd)) (rb h))
theorem si_forRS (hw : WI ρ ui mi) (hb : BodyS gt mk ubd fs) (h0 : Le (mk s0) ρ) (hk : ∀ s, SI Ψ E (mk s) rest (kn s)) : SI Ψ E ρ (sSeq (sForR ui gt (sBody ubd)) (sBody rest)) (bnd mi fun ds => bnd (forS fs ds s0) kn) := fun h =>
  hw _ (Mo.mono (fun ds hd => holdL (si_loopS hb h0 hk hd)) (rb h))
theorem si_forNC (hw : WI (hide ρ) ui mi) (hb : BodyC t gt mk ubd f) (h0 : Le (mk s0) ρ) (hk : ∀ s, SI Ψ E (mk s) rest (kn s)) (hr : ∀ d, run (kr d) Ψ → E.rt t d) : SI Ψ E ρ (sSeq (sFor [] ui gt (sBody ubd)) (sBody rest)) (bnd mi fun ds => bnd (forC f ds s0) (ctlK kr kn)) := fun h => by
  show ui (vis noM ρ) fun ds => HoldL (gt, sBody ubd, _) ds (freeze noM ρ) ⟨⟩
  rw [vis_no, freeze_no]
  exact hw _ (Mo.mono (fun ds hd => holdL (si_loopC hb h0 hk hr hd)) (rb h))
theorem si_forNS (hw : WI (hide ρ) ui mi) (hb : BodyS gt mk ubd fs) (h0 : Le (mk s0) ρ) (hk : ∀ s, SI Ψ E (mk s) rest (kn s)) : SI Ψ E ρ (sSeq (sFor [] ui gt (sBody ubd)) (sBody rest)) (bnd mi fun ds => bnd (forS fs ds s0) kn) := fun h => by
  show ui (vis noM ρ) fun ds => HoldL (gt, sBody ubd, _) ds (freeze noM ρ) ⟨⟩
  rw [vis_no, freeze_no]
  exact hw _ (Mo.mono (fun ds hd => holdL (si_loopS hb h0 hk hd)) (rb h))
/-- own lists in L are walked: they are shared from then on -/
theorem si_forMC {L : List Nat} {ρv ρf : DEnv} (hv : vis (fun j => L.contains j) ρ = ρv) (hf : freeze (fun j => L.contains j) ρ = ρf) (hw : WI ρv ui mi) (hb : BodyC t gt mk ubd f) (h0 : Le (mk s0) ρf) (hk : ∀ s, SI Ψ E (mk s) rest (kn s)) (hr : ∀ d, run (kr d) Ψ → E.rt t d) : SI Ψ E ρ (sSeq (sFor L ui gt (sBody ubd)) (sBody rest)) (bnd mi fun ds => bnd (forC f ds s0) (ctlK kr kn)) := fun h => by
  show ui (vis (fun j => L.contains j) ρ) fun ds => HoldL (gt, sBody ubd, _) ds (freeze (fun j => L.contains j) ρ) ⟨⟩
  rw [hv, hf]
  exact hw _ (Mo.mono (fun ds hd => holdL (si_loopC hb h0 hk hr hd)) (rb h))
theorem si_forMS {L : List Nat} {ρv ρf : DEnv} (hv : vis (fun j => L.contains j) ρ = ρv) (hf : freeze (fun j => L.contains j) ρ = ρf) (hw : WI ρv ui mi) (hb : BodyS gt mk ubd fs) (h0 : Le (mk s0) ρf) (hk : ∀ s, SI Ψ E (mk s) rest (kn s)) : SI Ψ E ρ (sSeq (sFor L ui gt (sBody ubd)) (sBody rest)) (bnd mi fun ds => bnd (forS fs ds s0) kn) := fun h => by
  show ui (vis (fun j => L.contains j) ρ) fun ds => HoldL (gt, sBody ubd, _) ds (freeze (fun j => L.contains j) ρ) ⟨⟩
  rw [hv, hf]
  exact hw _ (Mo.mono (fun ds hd => holdL (si_loopS hb h0 hk hd)) (rb h))
theorem si_forFC (he : EI ρ ue ta me) (hb : BodyC t gt mk ubd f) (h0 : Le (mk s0) ρ) (hk : ∀ s, SI Ψ E (mk s) rest (kn s)) (hr : ∀ d, run (kr d) Ψ → E.rt t d) (hF : frzA ρ = ρ := by rfl) : SI Ψ E ρ (sSeq (sForF ue gt (sBody ubd)) (sBody rest)) (bnd (op1 oItems me) fun ds => bnd (forC f ds s0) (ctlK kr kn)) := fun h => by
  refine he _ (Mo.mono (fun d hd => ?_) (rb (rb h)))
  obtain ⟨ds, e, qq⟩ := run_ofO.mp hd
  clear hd
  have hd := qq
  clear qq
  show itemsOf (fun ds => HoldL (gt, sBody ubd, _) ds (settle allM ta d ρ) ⟨⟩) d
  rw [settle_F hF]
  exact items_of e (holdL (si_loopC hb h0 hk hr hd))
theorem si_forFS (he : EI ρ ue ta me) (hb : BodyS gt mk ubd fs) (h0 : Le (mk s0) ρ) (hk : ∀ s, SI Ψ E (mk s) rest (kn s)) (hF : frzA ρ = ρ := by rfl) : SI Ψ E ρ (sSeq (sForF ue gt (sBody ubd)) (sBody rest)) (bnd (op1 oItems me) fun ds => bnd (forS fs ds s0) kn) := fun h => by
  refine he _ (Mo.mono (fun d hd => ?_) (rb (rb h)))
  obtain ⟨ds, e, qq⟩ := run_ofO.mp hd
  clear hd
  have hd := qq
  clear qq
  show itemsOf (fun ds => HoldL (gt, sBody ubd, _) ds (settle allM ta d ρ) ⟨⟩) d
  rw [settle_F hF]
  exact items_of e (holdL (si_loopS hb h0 hk hd))
theorem si_forGC (he : EI ρ ue ta me) (hb : BodyC t gt mk ubd f) (h0 : Le (mk s0) ρ) (hk : ∀ s, SI Ψ E (mk s) rest (kn s)) (hr : ∀ d, run (kr d) Ψ → E.rt t d) : SI Ψ E ρ (sSeq (sForF ue gt (sBody ubd)) (sBody rest)) (bnd (op1 oItems (nlM ta me)) fun ds => bnd (forC f ds s0) (ctlK kr kn)) := fun h => by
  refine he _ (Mo.mono (fun d hd => ?_) (rb (rb (rb h))))
  obtain ⟨d', e1, qq⟩ := run_ofO.mp hd
  clear hd
  have hd := qq
  clear qq
  obtain ⟨s1, rfl⟩ := nl_of e1
  obtain ⟨ds, e, qq⟩ := run_ofO.mp hd
  clear hd
  have hd := qq
  clear qq
  show itemsOf (fun ds => HoldL (gt, sBody ubd, _) ds (settle allM ta d' ρ) ⟨⟩) d'
  rw [settle_S s1]
  exact items_of e (holdL (si_loopC hb h0 hk hr hd))
theorem si_forGS (he : EI ρ ue ta me) (hb : BodyS gt mk ubd fs) (h0 : Le (mk s0) ρ) (hk : ∀ s, SI Ψ E (mk s) rest (kn s)) : SI Ψ E ρ (sSeq (sForF ue gt (sBody ubd)) (sBody rest)) (bnd (op1 oItems (nlM ta me)) fun ds => bnd (forS fs ds s0) kn) := fun h => by
  refine he _ (Mo.mono (fun d hd => ?_) (rb (rb (rb h))))
  obtain ⟨d', e1, qq⟩ := run_ofO.mp hd
  clear hd
  have hd := qq
  clear qq
  obtain ⟨s1, rfl⟩ := nl_of e1
  obtain ⟨ds, e, qq⟩ := run_ofO.mp hd
  clear hd
  have hd := qq
  clear qq
  show itemsOf (fun ds => HoldL (gt, sBody ubd, _) ds (settle allM ta d' ρ) ⟨⟩) d'
  rw [settle_S s1]
  exact items_of e (holdL (si_loopS hb h0 hk hd))
end
/-- while, n turns at most -/
def whileC (c : σ → M Bool) (f : σ → M (Ctl σ)) : Nat → σ → M (Ctl σ)
  | 0, _ => fail
  | n + 1, s => bnd (c s) fun b => if b = true then bnd (f s) fun c' => match c' with
    | .nx s' => whileC c f n s'
    | .bk s' => ret (.nx s')
    | .rt d => ret (.rt d) else ret (.nx s)
/-- a test that needs to know less -/
def tBody (u : UT) : UT := fun ρ Q => ∃ ρ1, Le ρ1 ρ ∧ u ρ1 Q
theorem jt_body {S : Src} {X : Cx} {e : Expr} {u : UT} (h : JT S X e u) : JT S X e (tBody u) := by
  obtain ⟨t, p, h⟩ := h.ex
  exact ⟨t, p, fun ρ σ g H Q P I R ⟨ρ1, hl, hu⟩ hP => h ρ1 σ g H Q P I ⟨hl.len.trans R.len, fun i t d e => R.get i t d (hl.get e)⟩ hu hP⟩
theorem si_while {mk : σ → DEnv} {ubd : US} {c : σ → M Bool} {f : σ → M (Ctl σ)} {s0 : σ} {kn : σ → M β} {kr : D → M β} {n : Nat} (hc : ∀ s, TI (mk s) ut (c s))
    (hb : ∀ (s : σ) (Ψ : Ctl σ → Prop) (E' : UEnds), (∀ s ρ', Le (mk s) ρ' → Ψ (.nx s) → E'.nx ρ') → (∀ s ρ', Le (mk s) ρ' → Ψ (.nx s) → E'.ct ρ') → (∀ s ρ', Le (mk s) ρ' → Ψ (.bk s) → E'.bk ρ') → (∀ d, Ψ (.rt d) → E'.rt t d) → run (f s) Ψ → ubd E' (mk s))
    (h0 : Le (mk s0) ρ) (hk : ∀ s, SI Ψ E (mk s) rest (kn s)) (hr : ∀ d, run (kr d) Ψ → E.rt t d) : SI Ψ E ρ (sSeq (sWhile (tBody ut) (sBody ubd)) (sBody rest)) (bnd (whileC c f n s0) (ctlK kr kn)) := fun h => by
  refine ⟨fun m ρ' => ∃ s, Le (mk s) ρ' ∧ run (bnd (whileC c f m s) (ctlK kr kn)) Ψ, ⟨n, s0, h0, h⟩, ?_⟩
  rintro m ρ' ⟨s, hl, q⟩
  cases m with
  | zero => obtain ⟨_, e, _⟩ := run_ofO.mp (rb q); cases e
  | succ m =>
    refine ⟨mk s, hl, hc s _ (Mo.mono (fun b hb' => ?_) (rb (rb q)))⟩
    cases b with
    | false =>
      rw [if_neg (by simp)]
      exact si_weak hl (hk s) (rr (Q := fun c => run (ctlK kr kn c) Ψ) hb')
    | true =>
      rw [if_pos rfl]
      refine ⟨_, mk s, hl, ULe.refl _, hb s _ _ (fun s' ρ2 hl' q' => ?_) (fun s' ρ2 hl' q' => ?_) (fun s' ρ2 hl' q' => ?_) (fun d q' => ?_) (rb hb')⟩
      · exact ⟨m, Nat.lt_succ_self m, s', hl', (run_bnd (Q := Ψ)).mpr q'⟩
      · exact ⟨m, Nat.lt_succ_self m, s', hl', (run_bnd (Q := Ψ)).mpr q'⟩
      · exact si_weak hl' (hk s') (rr (Q := fun c => run (ctlK kr kn c) Ψ) q')
      · exact hr d (rr (Q := fun c => run (ctlK kr kn c) Ψ) q')
end
end DL

/-! DLFun4: functional readings: joins, weaker surroundings, drawn values. -/
namespace DL
open PySem PySem.Spec PyProof.Rows L2
open Mo (ret bnd ofO run run_ret run_bnd run_ofO)
section
variable {M : Type → Type} [Mo M] {α β γ σ τ : Type} {ρ ρ0 ρ1 ρ2 : DEnv} {u ua ub uc ue uk : UE} {ta tb tc t : Bool} {ma mb mc me mo mk' : M D} {ut ut2 : UT} {mt mt2 : M Bool} {uas : UA} {mas : M (List D)} {ui : UI} {mi : M (List D)} {gt : UG}
  {Ψ : β → Prop} {E : UEnds} {rest us us2 ubd : US} {kf : D → M β} {m m2 : M β} {i j l : Nat}
theorem ei_add (ha : EI ρ ua ta ma) (hb : EI ρ ub tb mb) : EI ρ (uSh (u2 fAdd ua ub)) false (op2 oAdd ma mb) := fun Q hq => ei_2 (f := fun x y Q => fAdd x y fun _ d => Q false d) add_sh ha hb Q hq
theorem ei_cat (ha : EI ρ ua ta ma) (hb : EI ρ ub tb mb) : EI ρ (u2 fAdd ua ub) true (op2 oCat ma mb) := ei_2 cat_ok ha hb
theorem ei_mul (ha : EI ρ ua ta ma) (hb : EI ρ ub tb mb) : EI ρ (uSh (u2 fMul ua ub)) false (op2 oMul ma mb) := fun Q hq => ei_2 (f := fun x y Q => fMul x y fun _ d => Q false d) mul_sh ha hb Q hq
theorem ei_rep (ha : EI ρ ua ta ma) (hb : EI ρ ub tb mb) : EI ρ (u2 fMul ua ub) true (op2 oRep ma mb) := ei_2 rep_ok ha hb
@[simp] def oSlL (x : D) (lo hi : Option Int) : Option D := match x with
  | .lst ds => some (.lst (cutD ds lo hi))
  | _ => none
def slL (m : M D) (lo hi : M (Option Int)) : M D := bnd m fun x => bnd lo fun a => bnd hi fun b => ofO (oSlL x a b)
theorem ei_slL {ul uh : UO} {ml mh : M (Option Int)} (h : EI ρ ua ta ma) (hl : OI ρ ul ml) (hh : OI ρ uh mh) : EI ρ (uSl ua ul uh) true (slL ma ml mh) := fun Q hq => by
  refine h _ (Mo.mono (fun x hx => hl _ (Mo.mono (fun a ha => hh _ (Mo.mono (fun b hb => ?_) (rb ha))) (rb hx))) (rb hq))
  obtain ⟨d, e, q⟩ := run_ofO.mp hb
  cases x <;> cases e
  exact q
def asP : List D → Option (List (Int × Int))
  | [] => some []
  | .tup [.int a, .int b] :: r => (asP r).map ((a, b) :: ·)
  | _ :: _ => none
theorem asP_eq : ∀ {ds : List D} {ps : List (Int × Int)}, asP ds = some ps → ds = ps.map dPair
  | [], ps, e => by cases e; rfl
  | d :: r, ps, e => by
    unfold asP at e
    split at e
    · rename_i h; cases h
    · rename_i a b r' h
      cases h
      cases h : asP r with
      | none => rw [h] at e; cases e
      | some q =>
        rw [h] at e
        cases e
        rw [asP_eq h]
        rfl
    · cases e
@[simp] theorem asP_map (ps : List (Int × Int)) : asP (ps.map dPair) = some ps := by
  induction ps with
  | nil => rfl
  | cons p r ih =>
    show (asP (r.map dPair)).map ((p.1, p.2) :: ·) = _
    rw [ih]
    rfl
@[simp] def oSortedP : D → Option D
  | .lst ds => (asP ds).map fun ps => .lst ((sortP ps).map dPair)
  | _ => none
theorem sortedP_ok : ∀ x d (Q : UK), oSortedP x = some d → Q true d → fSortedP x Q := by
  intro x d Q e q
  cases x with
  | lst ds =>
    unfold oSortedP at e
    dsimp only at e
    cases h : asP ds with
    | none => rw [h] at e; cases e
    | some ps =>
      rw [h] at e
      cases e
      exact ⟨ps, asP_eq h, q⟩
  | _ => cases e
/-! contracts as wishes -/
def cH (H : List D → P D) (t : Bool) : Ctr := fun ds R => (H ds).p (R t)
def appP (H : List D → P D) (m : P (List D)) : P D := bnd m H
theorem ei_callH {H : List D → P D} {ρ : DEnv} {uas : UA} {mas : P (List D)} (h : AI ρ uas mas) : EI ρ (uCall (cH H t) uas) t (appP H mas) := fun Q hq => h _ (P.mono _ (fun ds q => hold q) hq)
theorem ei_callHK {H : List D → P D} {n m : Nat} {ix : List Nat} {ms ks : List (P D)} {ρ : DEnv} {uas uk : UA} (h : AI ρ uas (args ms)) (hk : AI ρ uk (args ks)) (hn : ms.length = n := by rfl) (hm : ks.length = m := by rfl) :
    EI ρ (uCallK (cH H t) n m ix uas uk) t (appP H (bnd (args ms) fun ds => bnd (args ks) fun es => ret (pick (ds ++ es) ix))) := fun Q hq => by
  refine h _ (P.mono _ (fun ds q => ?_) (args_len ms hq))
  obtain ⟨l1, q⟩ := q
  refine hk _ (P.mono _ (fun es q2 => ?_) (args_len ks q))
  obtain ⟨l2, q2⟩ := q2
  exact ⟨l1.trans hn, l2.trans hm, hold q2⟩
def HDraw : List D → P D := fun ds => ⟨fun Q => ∃ m : Int, ds = [.src, .int m] ∧ 0 < m ∧ m < 2 ^ 64 ∧ ∀ k : Int, 0 ≤ k → k < m → Q (.int k), fun h ⟨m, e, a, b, q⟩ => ⟨m, e, a, b, fun k h1 h2 => h _ (q k h1 h2)⟩⟩
theorem hdraw (ds : List D) (R : UK) (h : cH HDraw false ds R) : Draw ds R := by
  obtain ⟨m, rfl, h0, h1, q⟩ := h
  refine ⟨m, rfl, h0, ?_, q⟩
  have : m.natAbs < 2 ^ 64 := by omega
  by_cases hz : m.natAbs = 0
  · rw [hz]; decide
  · have := (Nat.log2_lt hz).mpr this
    omega
@[simp] theorem hdraw_p (m : Int) (Q : D → Prop) : (HDraw [.src, .int m]).p Q = (0 < m ∧ m < 2 ^ 64 ∧ ∀ k : Int, 0 ≤ k → k < m → Q (.int k)) := by
  refine propext ⟨fun ⟨m', e, a, b, q⟩ => ?_, fun ⟨a, b, q⟩ => ⟨m, rfl, a, b, q⟩⟩
  cases e
  exact ⟨a, b, q⟩
/-! what wishes say -/
@[simp] theorem op1_p (f : D → Option α) (a : P D) (Q : α → Prop) : (op1 f a : P α).p Q = a.p fun x => ∃ d, f x = some d ∧ Q d := rfl
@[simp] theorem op2_p (f : D → D → Option α) (a b : P D) (Q : α → Prop) : (op2 f a b : P α).p Q = a.p fun x => b.p fun y => ∃ d, f x y = some d ∧ Q d := rfl
@[simp] theorem args_nil_p (Q : List D → Prop) : (args [] : P (List D)).p Q = Q [] := rfl
@[simp] theorem args_cons_p (m : P D) (ms : List (P D)) (Q : List D → Prop) : (args (m :: ms) : P (List D)).p Q = m.p fun x => (args ms).p fun xs => Q (x :: xs) := rfl
@[simp] theorem tupM_p (m : P (List D)) (Q : D → Prop) : (tupM m).p Q = m.p fun xs => Q (.tup xs) := rfl
@[simp] theorem lstM_p (m : P (List D)) (Q : D → Prop) : (lstM m).p Q = m.p fun xs => Q (.lst xs) := rfl
@[simp] theorem appP_p (H : List D → P D) (m : P (List D)) (Q : D → Prop) : (appP H m).p Q = m.p fun ds => (H ds).p Q := rfl
@[simp] theorem appM_p (A : List D → Option D) (m : P (List D)) (Q : D → Prop) : (appM A m).p Q = m.p fun ds => ∃ d, A ds = some d ∧ Q d := rfl
@[simp] theorem ite3_p (c : P Bool) (a b : P α) (Q : α → Prop) : (ite3 c a b).p Q = c.p fun k => (if k = true then a else b).p Q := rfl
@[simp] theorem ifp (c : Prop) [Decidable c] (a b : P α) (Q : α → Prop) : (if c then a else b).p Q = if c then a.p Q else b.p Q := by split <;> rfl
@[simp] theorem vB_p (m : P Bool) (Q : D → Prop) : (vB m).p Q = m.p fun b => Q (.bl b) := rfl
@[simp] theorem toB_p (m : P D) (Q : Bool → Prop) : (toB m).p Q = m.p fun d => ∃ b, asB d = some b ∧ Q b := rfl
@[simp] theorem tNot_p (m : P Bool) (Q : Bool → Prop) : (tNot m).p Q = m.p fun b => Q (!b) := rfl
@[simp] theorem tAnd_p (a b : P Bool) (Q : Bool → Prop) : (tAnd a b).p Q = a.p fun k => if k = true then b.p Q else Q false := by
  show (a.p fun k => (if k = true then b else ret false : P Bool).p Q) = _
  congr 1; funext k; rw [ifp]; rfl
@[simp] theorem tOr_p (a b : P Bool) (Q : Bool → Prop) : (tOr a b).p Q = a.p fun k => if k = true then Q true else b.p Q := by
  show (a.p fun k => (if k = true then ret true else b : P Bool).p Q) = _
  congr 1; funext k; rw [ifp]; rfl
@[simp] theorem nlM_p (t : Bool) (m : P D) (Q : D → Prop) : (nlM t m).p Q = m.p fun d => ∃ d', oNL t d = some d' ∧ Q d' := rfl
@[simp] theorem lcM_p (mi : P (List D)) (f : D → P α) (Q : List α → Prop) : (lcM mi f).p Q = mi.p fun ds => ∃ ds', chkL ds = some ds' ∧ (mapG f ds').p Q := rfl
@[simp] theorem slM_p (m : P D) (lo hi : P (Option Int)) (Q : D → Prop) : (slM m lo hi).p Q = m.p fun x => lo.p fun a => hi.p fun b => ∃ d, oSl x a b = some d ∧ Q d := rfl
@[simp] theorem slL_p (m : P D) (lo hi : P (Option Int)) (Q : D → Prop) : (slL m lo hi).p Q = m.p fun x => lo.p fun a => hi.p fun b => ∃ d, oSlL x a b = some d ∧ Q d := rfl
@[simp] theorem somI_p (m : P D) (Q : Option Int → Prop) : (somI m).p Q = m.p fun d => ∃ i, asI d = some i ∧ Q (some i) := rfl
@[simp] theorem appL_p (xs : D) (m : P D) (Q : D → Prop) : (appL xs m).p Q = ∃ ds, asL xs = some ds ∧ m.p fun x => ∃ d, appO ds x = some d ∧ Q d := rfl
theorem forS_inv {f : D → σ → P σ} {Q : σ → Prop} (I : Nat → σ → Prop) : ∀ {ds : List D} {s : σ}, I 0 s → (∀ n d s, ds[n]? = some d → I n s → (f d s).p (I (n + 1))) → (∀ s, I ds.length s → Q s) → (forS f ds s).p Q := by
  have go : ∀ (r pre : List D) (ds : List D) (s : σ), ds = pre ++ r → I pre.length s → (∀ n d s, ds[n]? = some d → I n s → (f d s).p (I (n + 1))) → (∀ s, I ds.length s → Q s) → (forS f r s).p Q := by
    intro r
    induction r with
    | nil => intro pre ds s e h0 hs hQ; rw [List.append_nil] at e; subst e; exact hQ s h0
    | cons d r ih =>
      intro pre ds s e h0 hs hQ
      refine (f d s).mono (fun s' h' => ?_) (hs pre.length d s (by rw [e]; simp) h0)
      exact ih (pre ++ [d]) ds s' (by rw [e]; simp) (by simpa using h') hs hQ
  intro ds s h0 hs hQ
  exact go ds [] ds s rfl h0 hs hQ
theorem forC_inv {f : D → σ → P (Ctl σ)} {Q : Ctl σ → Prop} (I : Nat → σ → Prop) : ∀ {ds : List D} {s : σ}, I 0 s → (∀ n d s, ds[n]? = some d → I n s → (f d s).p fun c => match c with | .nx s' => I (n + 1) s' | .bk s' => Q (.nx s') | .rt d => Q (.rt d)) → (∀ s, I ds.length s → Q (.nx s)) → (forC f ds s).p Q := by
  have go : ∀ (r pre : List D) (ds : List D) (s : σ), ds = pre ++ r → I pre.length s → (∀ n d s, ds[n]? = some d → I n s → (f d s).p fun c => match c with | .nx s' => I (n + 1) s' | .bk s' => Q (.nx s') | .rt d => Q (.rt d)) → (∀ s, I ds.length s → Q (.nx s)) → (forC f r s).p Q := by
    intro r
    induction r with
    | nil => intro pre ds s e h0 hs hQ; rw [List.append_nil] at e; subst e; exact hQ s h0
    | cons d r ih =>
      intro pre ds s e h0 hs hQ
      refine (f d s).mono (fun c h' => ?_) (hs pre.length d s (by rw [e]; simp) h0)
      cases c with
      | nx s' => exact ih (pre ++ [d]) ds s' (by rw [e]; simp) (by simpa using h') hs hQ
      | bk s' => exact h'
      | rt d' => exact h'
  intro ds s h0 hs hQ
  exact go ds [] ds s rfl h0 hs hQ
theorem mapG_p {f : D → P α} {Q : List α → Prop} (p : D → α → Prop) : ∀ {ds : List D}, (∀ d ∈ ds, (f d).p (p d)) → (∀ ys, ys.length = ds.length → (∀ y ∈ ys, ∃ d ∈ ds, p d y) → Q ys) → (mapG f ds).p Q
  | [], h, hQ => hQ [] rfl (fun y hy => by cases hy)
  | d :: r, h, hQ => by
    refine (f d).mono (fun y hy => ?_) (h d (List.mem_cons_self ..))
    refine mapG_p p (ds := r) (fun x hx => h x (List.mem_cons_of_mem _ hx)) fun ys hl hys => hQ (y :: ys) (by simp [hl]) fun z hz => ?_
    rcases List.mem_cons.mp hz with rfl | hz
    · exact ⟨d, List.mem_cons_self .., hy⟩
    · obtain ⟨d', h1, h2⟩ := hys z hz
      exact ⟨d', List.mem_cons_of_mem _ h1, h2⟩
theorem mapG_v {f : D → P α} {Q : List α → Prop} (g : D → α) : ∀ {ds : List D}, (∀ d ∈ ds, ∀ Q : α → Prop, Q (g d) → (f d).p Q) → Q (ds.map g) → (mapG f ds).p Q
  | [], h, hQ => hQ
  | d :: r, h, hQ => h d (List.mem_cons_self ..) _ (mapG_v g (ds := r) (fun x hx => h x (List.mem_cons_of_mem _ hx)) hQ)
/-! joins; surroundings that shrink -/
theorem si_ifH (hc : TI ρ ut mt) (ha : (∀ (ρ' : DEnv) (m' : M β), SI Ψ E ρ' rest m' → SI Ψ { E with nx := rest E } ρ' sNext m') → SI Ψ { E with nx := rest E } ρ us m) (hb : (∀ (ρ' : DEnv) (m' : M β), SI Ψ E ρ' rest m' → SI Ψ { E with nx := rest E } ρ' sNext m') → SI Ψ { E with nx := rest E } ρ us2 m2) : SI Ψ E ρ (sSeq (sIf ut us us2) rest) (ite3 mt m m2) :=
  si_if hc (ha fun _ _ h => h) (hb fun _ _ h => h)
theorem tgs_n {d : D} {mm : M γ} {Q : γ → Prop} (h : run mm Q) (hk : SI Q E (ρ.set i (some (false, d))) us mm) : TG1 (gN i) d ρ (us E) := tg_n (hk h)
theorem tgs_2 {d : D} {k : D → D → M γ} {Q : γ → Prop} (h : run (un2 d k) Q) (hk : ∀ a b, SI Q E ((ρ.set i (some (false, a))).set j (some (false, b))) us (k a b)) : TG1 (gT [gN i, gN j]) d ρ (us E) := tg_2 h hk
theorem tgs_3 {d : D} {k : D → D → D → M γ} {Q : γ → Prop} (h : run (un3 d k) Q) (hk : ∀ a b c, SI Q E (((ρ.set i (some (false, a))).set j (some (false, b))).set l (some (false, c))) us (k a b c)) : TG1 (gT [gN i, gN j, gN l]) d ρ (us E) := tg_3 h hk
theorem tgs_4 {d : D} {n : Nat} {k : D → D → D → D → M γ} {Q : γ → Prop} (h : run (un4 d k) Q) (hk : ∀ a b c e, SI Q E ((((ρ.set i (some (false, a))).set j (some (false, b))).set l (some (false, c))).set n (some (false, e))) us (k a b c e)) : TG1 (gT [gN i, gN j, gN l, gN n]) d ρ (us E) := tg_4 h hk
theorem tgs_1_2 {d : D} {k : D → D → D → M γ} {Q : γ → Prop} (h : run (un2 d fun a p => un2 p fun b c => k a b c) Q) (hk : ∀ a b c, SI Q E (((ρ.set i (some (false, a))).set j (some (false, b))).set l (some (false, c))) us (k a b c)) : TG1 (gT [gN i, gT [gN j, gN l]]) d ρ (us E) := tg_1_2 h hk
theorem tgs_2_1 {d : D} {k : D → D → D → M γ} {Q : γ → Prop} (h : run (un2 d fun p c => un2 p fun a b => k a b c) Q) (hk : ∀ a b c, SI Q E (((ρ.set i (some (false, a))).set j (some (false, b))).set l (some (false, c))) us (k a b c)) : TG1 (gT [gT [gN i, gN j], gN l]) d ρ (us E) := tg_2_1 h hk
theorem tgs_3_1 {d : D} {n : Nat} {k : D → D → D → D → M γ} {Q : γ → Prop} (h : run (un2 d fun p e => un3 p fun a b c => k a b c e) Q) (hk : ∀ a b c e, SI Q E ((((ρ.set i (some (false, a))).set j (some (false, b))).set l (some (false, c))).set n (some (false, e))) us (k a b c e)) : TG1 (gT [gT [gN i, gN j, gN l], gN n]) d ρ (us E) := tg_3_1 h hk
theorem tgs_1_3 {d : D} {n : Nat} {k : D → D → D → D → M γ} {Q : γ → Prop} (h : run (un2 d fun a p => un3 p fun b c e => k a b c e) Q) (hk : ∀ a b c e, SI Q E ((((ρ.set i (some (false, a))).set j (some (false, b))).set l (some (false, c))).set n (some (false, e))) us (k a b c e)) : TG1 (gT [gN i, gT [gN j, gN l, gN n]]) d ρ (us E) := tg_1_3 h hk
theorem lenOk {n m : Nat} (h : Nat.ble n m = true) : n ≤ m := Nat.le_of_ble_eq_true h
def withK (K : τ → M β) (b : (τ → M β) → M β) : M β := b K
@[simp] theorem withK_eq (K : τ → M β) (b : (τ → M β) → M β) : withK K b = b K := rfl
theorem si_ifJ {K : τ → M β} {mkJ : τ → DEnv} {fa fb : (τ → M β) → M β} (hc : TI ρ ut mt) (hK : ∀ s, SI Ψ E (mkJ s) rest (K s))
    (ha : ∀ k : τ → M β, (∀ s ρ', Le (mkJ s) ρ' → run (k s) Ψ → sBody rest E ρ') → SI Ψ { E with nx := sBody rest E } ρ us (fa k))
    (hb : ∀ k : τ → M β, (∀ s ρ', Le (mkJ s) ρ' → run (k s) Ψ → sBody rest E ρ') → SI Ψ { E with nx := sBody rest E } ρ us2 (fb k)) : SI Ψ E ρ (sSeq (sIf ut us us2) (sBody rest)) (withK K fun k => ite3 mt (fa k) (fb k)) :=
  si_if hc (ha K fun s ρ' hl q => si_weak hl (hK s) q) (hb K fun s ρ' hl q => si_weak hl (hK s) q)
def bndP (m : M (D × D)) (k : D → D → M β) : M β := bnd m fun p => k p.1 p.2
@[simp] theorem bndP_some (a b : D) (k : D → D → Option β) : bndP (some (a, b)) k = k a b := rfl
@[simp] theorem bndP_p (m : P (D × D)) (k : D → D → P β) (Q : β → Prop) : (bndP m k).p Q = m.p fun p => (k p.1 p.2).p Q := rfl
theorem si_popB {d : D} {k2 : D → D → M β} (hk : ∀ a b, SI Ψ E ((ρ.set i (some (true, a))).set j (some (false, b))) rest (k2 a b)) (hi : ρ[i]? = some (some (true, d)) := by rfl) : SI Ψ E ρ (sSeq (sMethV allM j i mPop uNil) rest) (bndP (popL d) k2) := si_pop hk hi
theorem si_popAtB {d : D} {k2 : D → D → M β} (he : EI (hide ρ) ua ta ma) (hk : ∀ a b, SI Ψ E ((ρ.set i (some (true, a))).set j (some (false, b))) rest (k2 a b)) (hi : ρ[i]? = some (some (true, d)) := by rfl) : SI Ψ E ρ (sSeq (sMethV noM j i mPopAt (uCons ua uNil)) rest) (bndP (popAtL d ma) k2) := si_popAt he hk hi
theorem settle_or (d : D) : settle allM t d ρ = ρ ∨ settle allM t d ρ = frzA ρ := by
  unfold settle
  split
  · exact Or.inl rfl
  · exact Or.inr (freeze_all ρ)
theorem le_set {ρ1 ρ2 : DEnv} (h : Le ρ1 ρ2) (i : Nat) (x : Option (Bool × D)) : Le (ρ1.set i x) (ρ2.set i x) := by
  induction ρ1 generalizing ρ2 i with
  | nil => cases ρ2 with
    | nil => trivial
    | cons b s => exact h.elim
  | cons a r ih =>
    cases ρ2 with
    | nil => cases a <;> exact h.elim
    | cons b s =>
      cases i with
      | zero =>
        cases a with
        | none => cases x with
          | none => exact h
          | some x => exact ⟨rfl, h⟩
        | some y => cases x with
          | none => exact h.2
          | some x => exact ⟨rfl, h.2⟩
      | succ i =>
        cases a with
        | none => exact ih h i
        | some y => exact ⟨h.1, ih h.2 i⟩
theorem si_asgZ (he : EI ρ ue t mo) (h1 : Le ρ0 ρ) (h2 : Le ρ0 (frzA ρ)) (hk : ∀ d, SI Ψ E (ρ0.set i (some (t, d))) rest (kf d)) : SI Ψ E ρ (sSeq (sAsg i ue) (sBody rest)) (bnd mo kf) := fun h => by
  refine he _ (Mo.mono (fun d hd => ?_) (rb h))
  show sBody rest E ((settle allM t d ρ).set i (some (t, d)))
  refine si_weak ?_ (hk d) hd
  rcases settle_or (t := t) (ρ := ρ) d with e | e <;> rw [e]
  · exact le_set h1 _ _
  · exact le_set h2 _ _
theorem si_asgGZ (he : EI ρ ue t mo) (h1 : Le ρ0 ρ) (h2 : Le ρ0 (frzA ρ)) (hk : ∀ d, run (kf d) Ψ → TG1 gt d ρ0 (rest E)) : SI Ψ E ρ (sSeq (sAsgG gt ue) (sBody rest)) (bnd mo kf) := fun h => by
  refine he _ (Mo.mono (fun d hd => ?_) (rb h))
  obtain ⟨L, hL, hq⟩ := hk d hd
  show match gt d with
    | some L => sBody rest E (setAll (settle allM t d ρ) (dset L))
    | none => False
  rw [hL]
  refine ⟨E, _, ?_, ULe.refl _, hq⟩
  rcases settle_or (t := t) (ρ := ρ) d with e | e <;> rw [e]
  · exact loop_inv.le_setAll _ h1
  · exact loop_inv.le_setAll _ h2
theorem si_exprZ (he : EI ρ ue t mo) (h1 : Le ρ0 ρ) (h2 : Le ρ0 (frzA ρ)) (hk : SI Ψ E ρ0 rest m) : SI Ψ E ρ (sSeq (sExpr ue) (sBody rest)) (bnd mo fun _ => m) := fun h => by
  refine he _ (Mo.mono (fun d hd => ?_) (rb h))
  show sBody rest E (settle allM t d ρ)
  refine si_weak ?_ hk hd
  rcases settle_or (t := t) (ρ := ρ) d with e | e <;> rw [e]
  · exact h1
  · exact h2
section
variable {mk : σ → DEnv} {f : D → σ → M (Ctl σ)} {fs : D → σ → M σ} {s0 : σ} {kn : σ → M β} {kr : D → M β}
theorem si_forZC (he : EI ρ ue ta me) (hb : BodyC t gt mk ubd f) (h1 : Le (mk s0) ρ) (h2 : Le (mk s0) (frzA ρ)) (hk : ∀ s, SI Ψ E (mk s) rest (kn s)) (hr : ∀ d, run (kr d) Ψ → E.rt t d) : SI Ψ E ρ (sSeq (sForF ue gt (sBody ubd)) (sBody rest)) (bnd (op1 oItems me) fun ds => bnd (forC f ds s0) (ctlK kr kn)) := fun h => by
  refine he _ (Mo.mono (fun d hd => ?_) (rb (rb h)))
  obtain ⟨ds, e, hd⟩ := run_ofO.mp hd
  show itemsOf (fun ds => HoldL (gt, sBody ubd, _) ds (settle allM ta d ρ) ⟨⟩) d
  refine items_of e (holdL (si_loopC hb ?_ hk hr hd))
  rcases settle_or (t := ta) (ρ := ρ) d with e | e <;> rw [e]
  · exact h1
  · exact h2
theorem si_forZS (he : EI ρ ue ta me) (hb : BodyS gt mk ubd fs) (h1 : Le (mk s0) ρ) (h2 : Le (mk s0) (frzA ρ)) (hk : ∀ s, SI Ψ E (mk s) rest (kn s)) : SI Ψ E ρ (sSeq (sForF ue gt (sBody ubd)) (sBody rest)) (bnd (op1 oItems me) fun ds => bnd (forS fs ds s0) kn) := fun h => by
  refine he _ (Mo.mono (fun d hd => ?_) (rb (rb h)))
  obtain ⟨ds, e, hd⟩ := run_ofO.mp hd
  show itemsOf (fun ds => HoldL (gt, sBody ubd, _) ds (settle allM ta d ρ) ⟨⟩) d
  refine items_of e (holdL (si_loopS hb ?_ hk hd))
  rcases settle_or (t := ta) (ρ := ρ) d with e | e <;> rw [e]
  · exact h1
  · exact h2
end
/-! insert -/
@[simp] def insO (ds : List D) (k x : D) : Option D := match k with
  | .int n => if ds.length < sizeLine ∧ 0 ≤ n ∧ n < 2 ^ 62 then some (.lst (ds.take n.toNat ++ [x] ++ ds.drop n.toNat)) else none
  | _ => none
def insL (xs : D) (mk mx : M D) : M D := bnd (ofO (asL xs)) fun ds => bnd mk fun k => bnd mx fun x => ofO (insO ds k x)
@[simp] theorem insL_some (ds : List D) (k x : D) : insL (.lst ds) (some k) (some x) = insO ds k x := rfl
@[simp] theorem insL_p (xs : D) (a b : P D) (Q : D → Prop) : (insL xs a b).p Q = ∃ ds, asL xs = some ds ∧ a.p fun k => b.p fun x => ∃ d, insO ds k x = some d ∧ Q d := rfl
theorem ins_ok {ds : List D} {k x d : D} (e : insO ds k x = some d) (K : List D → D → Prop) (h : ∀ ds', d = .lst ds' → K ds' .non) : mInsert ds [k, x] K := by
  cases k with
  | int n =>
    unfold insO at e
    dsimp only at e
    split at e
    · rename_i hh
      cases e
      exact ⟨hh, h _ rfl⟩
    · cases e
  | _ => cases e
theorem si_insN {d : D} (ha : EI (hide ρ) ua ta ma) (hb : EI (hide ρ) ub tb mb) (hk : ∀ d, SI Ψ E (ρ.set i (some (true, d))) rest (kf d)) (hi : ρ[i]? = some (some (true, d)) := by rfl) : SI Ψ E ρ (sSeq (sMeth noM i mInsert (uCons ua (uCons ub uNil))) rest) (bnd (insL d ma mb) kf) := fun h => by
  obtain ⟨ds, e, h⟩ := run_ofO.mp (rb (rb h))
  have e := asL_eq e
  refine ⟨own_of hi e trivial, ?_⟩
  rw [vis_no]
  refine ha _ (Mo.mono (fun x hx => hb _ (Mo.mono (fun y hy => ?_) (rb hx))) (rb h))
  show ownAt (settleL noM [x, y] ρ) i fun ds => mInsert ds [x, y] fun ds' _ => rest E ((settleL noM [x, y] ρ).set i (some (true, .lst ds')))
  rw [settleL_no]
  obtain ⟨d', e2, q⟩ := run_ofO.mp hy
  refine own_of hi e (ins_ok e2 _ fun ds' e3 => ?_)
  subst e3
  exact hk _ q
theorem si_insS {d : D} (ha : EI ρ ua ta ma) (hb : EI ρ ub tb mb) (hk : ∀ d, SI Ψ E (ρ.set i (some (true, d))) rest (kf d)) (hi : ρ[i]? = some (some (true, d)) := by rfl) : SI Ψ E ρ (sSeq (sMeth allM i mInsert (uCons ua (uCons ub uNil))) rest) (bnd (insL d (nlM false ma) (nlM false mb)) kf) := fun h => by
  obtain ⟨ds, e, h⟩ := run_ofO.mp (rb (rb h))
  have e := asL_eq e
  refine ⟨own_of hi e trivial, ?_⟩
  rw [vis_all]
  refine ha _ (Mo.mono (fun x hx => ?_) (rb (rb h)))
  obtain ⟨x', e3, q3⟩ := run_ofO.mp hx
  obtain ⟨s3, rfl⟩ := nl_of e3
  refine hb _ (Mo.mono (fun y hy => ?_) (rb (rb q3)))
  obtain ⟨y', e4, q4⟩ := run_ofO.mp hy
  obtain ⟨s4, rfl⟩ := nl_of e4
  show ownAt (settleL allM [x', y'] ρ) i fun ds => mInsert ds [x', y'] fun ds' _ => rest E ((settleL allM [x', y'] ρ).set i (some (true, .lst ds')))
  have hs : settleL allM [x', y'] ρ = ρ := by
    have s3 : noLst x' = true := s3
    have s4 : noLst y' = true := s4
    unfold settleL
    rw [if_pos (by simp [s3, s4])]
  rw [hs]
  obtain ⟨d', e2, q⟩ := run_ofO.mp q4
  refine own_of hi e (ins_ok e2 _ fun ds' e3 => ?_)
  subst e3
  exact hk _ q
end
end DL

/-! DLFun5: what the operators do on values; loops and comprehensions over images. -/
namespace DL
open PySem PySem.Spec PyProof.Rows L2
open Mo (ret bnd ofO run run_ret run_bnd run_ofO)
@[simp] theorem oIx_lst (ds : List D) (i : Int) : oIx (.lst ds) (.int i) = atI ds i := rfl
@[simp] theorem oIx_tup (ds : List D) (i : Int) : oIx (.tup ds) (.int i) = atI ds i := rfl
@[simp] theorem ex_c {α : Type} {c : Prop} {a : α} {Q : α → Prop} : (∃ d, (c ∧ a = d) ∧ Q d) ↔ c ∧ Q a := ⟨fun ⟨_, ⟨h, e⟩, q⟩ => by subst e; exact ⟨h, q⟩, fun ⟨h, q⟩ => ⟨a, ⟨h, rfl⟩, q⟩⟩
@[simp] theorem ex_map {α β : Type} {o : Option α} {f : α → β} {Q : β → Prop} : (∃ d, (∃ a, o = some a ∧ f a = d) ∧ Q d) ↔ ∃ a, o = some a ∧ Q (f a) := ⟨fun ⟨_, ⟨a, h, e⟩, q⟩ => by subst e; exact ⟨a, h, q⟩, fun ⟨a, h, q⟩ => ⟨f a, ⟨a, h, rfl⟩, q⟩⟩
theorem withK_p {τ β : Type} {K : τ → P β} {b : (τ → P β) → P β} {Q : β → Prop} (I : τ → Prop) (hK : ∀ s, I s → (K s).p Q) (hb : ∀ k : τ → P β, (∀ s, I s → (k s).p Q) → (b k).p Q) : (withK K b).p Q := hb K hK
theorem ints_of {p : Int → Prop} : ∀ {ys : List D}, (∀ y ∈ ys, ∃ q, y = .int q ∧ p q) → ∃ l : List Int, ys = l.map .int ∧ l.length = ys.length ∧ ∀ q ∈ l, p q
  | [], _ => ⟨[], rfl, rfl, by simp⟩
  | y :: ys, h => by
    obtain ⟨q, rfl, hq⟩ := h y (List.mem_cons_self ..)
    obtain ⟨l, rfl, hl, hp⟩ := ints_of (ys := ys) fun z hz => h z (List.mem_cons_of_mem _ hz)
    refine ⟨q :: l, rfl, by simp, fun z hz => ?_⟩
    rcases List.mem_cons.mp hz with rfl | hz
    · exact hq
    · exact hp z hz
theorem forS_o {σ : Type} {f : D → σ → Option σ} (I : Nat → σ → Prop) : ∀ {ds : List D} {s : σ}, I 0 s → (∀ n d s, ds[n]? = some d → I n s → ∃ s', f d s = some s' ∧ I (n + 1) s') → ∃ s', forS f ds s = some s' ∧ I ds.length s' := by
  have go : ∀ (r pre : List D) (ds : List D) (s : σ), ds = pre ++ r → I pre.length s → (∀ n d s, ds[n]? = some d → I n s → ∃ s', f d s = some s' ∧ I (n + 1) s') → ∃ s', forS f r s = some s' ∧ I ds.length s' := by
    intro r
    induction r with
    | nil => intro pre ds s e h0 hs; rw [List.append_nil] at e; subst e; exact ⟨s, rfl, h0⟩
    | cons d r ih =>
      intro pre ds s e h0 hs
      obtain ⟨s', e1, h1⟩ := hs pre.length d s (by rw [e]; simp) h0
      obtain ⟨s2, e2, h2⟩ := ih (pre ++ [d]) ds s' (by rw [e]; simp) (by simpa using h1) hs
      refine ⟨s2, ?_, h2⟩
      show (f d s).bind (fun s' => forS f r s') = _
      rw [e1]
      exact e2
  intro ds s h0 hs
  exact go ds [] ds s rfl h0 hs
end DL

/-! DLCode: defs with generator expressions: their code objects and tables, from the head. -/
namespace DL
open PySem PySem.Spec PyProof.Rows L2
def Gon (gt : UG) (vs : List Nat) : Prop := ∀ d L, gt d = some L → ∀ p ∈ L, p.1 ∈ vs
theorem gon_n {i : Nat} {vs : List Nat} (h : vs.contains i = true) : Gon (gN i) vs := fun d L e p hp => by
  cases e
  rw [List.mem_singleton.mp hp]
  simpa using h
def GonL (us : List UG) (vs : List Nat) : Prop := ∀ ds L, gTs us ds = some L → ∀ p ∈ L, p.1 ∈ vs
theorem gon_nil {vs : List Nat} : GonL [] vs := fun ds L e p hp => by
  cases ds with
  | nil => cases e; cases hp
  | cons d r => cases e
theorem gon_cons {u : UG} {us : List UG} {vs : List Nat} (h : Gon u vs) (hs : GonL us vs) : GonL (u :: us) vs := fun ds L e p hp => by
  cases ds with
  | nil => cases e
  | cons d r =>
    rw [gTs] at e
    cases h1 : u d with
    | none => rw [h1] at e; cases e
    | some a =>
      cases h2 : gTs us r with
      | none => rw [h1, h2] at e; cases e
      | some b =>
        rw [h1, h2] at e
        cases e
        rcases List.mem_append.mp hp with hp | hp
        · exact h d a h1 p hp
        · exact hs r b h2 p hp
theorem gon_T {us : List UG} {vs : List Nat} (hs : GonL us vs) : Gon (gT us) vs := fun d L e p hp => by
  cases d with
  | tup ds => exact hs ds L e p hp
  | _ => cases e
theorem code_of {K : PySem.W.Frag} {p : Str × Option Str} {x qual : Str} {params : Arguments} {body : List Stmt} {scope : Scope} {dvs : List V} {kws : List (Str × V)} {fd : FuncData} (F : FunD K x qual params body scope dvs kws (He.fAd K p) fd) : fd.code = .ref (He.codeOf K p) := by
  obtain ⟨oc, od, dV, kV, doc, pm, an, cdv, ct, osl, rfl, lk, hcd, _, _⟩ := F.ex
  obtain ⟨c, rfl⟩ := He.codeIn_ref hcd
  rw [He.codeOf_eq lk rfl]
theorem tab_empty {H : Hp} {P : Addr} (h : H P = some (.tbl #[])) : GX.Tab H P :=
  .mk P #[] (fun _ => (0, 0)) h (by simp [TriplesOk]) (fun pos v e => by simp [codeAmong] at e) fun pos e => by simp [codeAmong] at e
theorem tabB_to {base : Heap} {mg : Str → Option Value} {c P : Addr} (t : LamX.TabB base mg c P) : GxR.TabB base mg c P := ⟨t.code, t.bm, t.gP⟩
theorem nodot_by {N : List Str} (h : N.contains (".0" : Str) = false) : (".0" : Str) ∉ N := fun z => by
  rw [List.contains_iff_mem.mpr z] at h
  cases h
end DL

/-! DLRng: list(range(..)), tuple(range(..)). -/
namespace DL
open PySem PySem.Spec PyProof.Rows L2
open Mo (ret bnd ofO run run_ret run_bnd run_ofO)
theorem rep_ints {g : G} {H : Hp} (f : Nat → Int) : ∀ l : List Nat, RepL g H (l.map fun k => D.int (f k)) (l.map fun k => V.int (f k))
  | [] => RepL.nil
  | a :: l => RepL.cons (by rw [Rep]) (rep_ints f l)
theorem rep_rng {g : G} {H : Hp} (a b : Int) : RepL g H (rngD a (b - a).toNat) (rgV a b) := rep_ints _ _
@[simp] def rgC (a b : Int) : Prop := -(2 ^ 62) ≤ a ∧ a < 2 ^ 62 ∧ -(2 ^ 62) ≤ b ∧ b < 2 ^ 62 ∧ (b - a).toNat ≤ 2 ^ 24
instance (a b : Int) : Decidable (rgC a b) := inferInstanceAs (Decidable (_ ∧ _))
@[simp] def fLR1 : D → UK → Prop
  | .int j, Q => rgC 0 j ∧ Q true (.lst (rngD 0 (j - 0).toNat))
  | _, _ => False
@[simp] def fTR1 : D → UK → Prop
  | .int j, Q => rgC 0 j ∧ Q false (.tup (rngD 0 (j - 0).toNat))
  | _, _ => False
@[simp] def fLR2 : D → D → UK → Prop
  | .int i, .int j, Q => rgC i j ∧ Q true (.lst (rngD i (j - i).toNat))
  | _, _, _ => False
@[simp] def fTR2 : D → D → UK → Prop
  | .int i, .int j, Q => rgC i j ∧ Q false (.tup (rngD i (j - i).toNat))
  | _, _, _ => False
section
variable {S : Src} {X : Cx} {a b : Expr} {ua ub : UE} {p p2 pos pos2 : Pos}
theorem je_lr1 (hc : X.calm = true) (hm : X.mg "list" = none) (hm2 : X.mg "range" = none) (ha : JE S X a ua) (hg : Gl X "list" := by rfl) (hg2 : Gl X "range" := by rfl)
    (na : starEach [.Call (.Name "range" p2) [a] [] pos2] X.env = (false, eval (.Call (.Name "range" p2) [a] [] pos2) X.env) :: starEach [] X.env := by rfl) (na2 : starEach [a] X.env = (false, eval a X.env) :: starEach [] X.env := by rfl) :
    JE S X (.Call (.Name "list" p) [.Call (.Name "range" p2) [a] [] pos2] [] pos) (u1 fLR1 ua) := by
  obtain ⟨t, pa, h⟩ := ha.ex
  refine ⟨_, pe_listRg hc hg hm (prg_1 hg2 hm2 pa na2) na, fun ρ σ g H Q P I R hu hP => h ρ σ g H _ _ I R hu fun v H1 e => ?_⟩
  obtain ⟨g1, d, s1, I1, r1, _, q1⟩ := e.rep
  cases d with
  | int j =>
    rw [Rep] at r1
    exact ⟨j, r1, q1.1, fun q hq => hP _ _ ((EPost.newL I1 hq (rep_rng 0 j) q1.2).after s1)⟩
  | _ => exact q1.elim
theorem je_tr1 (hc : X.calm = true) (hm : X.mg "tuple" = none) (hm2 : X.mg "range" = none) (ha : JE S X a ua) (hg : Gl X "tuple" := by rfl) (hg2 : Gl X "range" := by rfl)
    (na : starEach [.Call (.Name "range" p2) [a] [] pos2] X.env = (false, eval (.Call (.Name "range" p2) [a] [] pos2) X.env) :: starEach [] X.env := by rfl) (na2 : starEach [a] X.env = (false, eval a X.env) :: starEach [] X.env := by rfl) :
    JE S X (.Call (.Name "tuple" p) [.Call (.Name "range" p2) [a] [] pos2] [] pos) (u1 fTR1 ua) := by
  obtain ⟨t, pa, h⟩ := ha.ex
  refine ⟨_, pe_tupRg hc hg hm (prg_1 hg2 hm2 pa na2) na, fun ρ σ g H Q P I R hu hP => h ρ σ g H _ _ I R hu fun v H1 e => ?_⟩
  obtain ⟨g1, d, s1, I1, r1, _, q1⟩ := e.rep
  cases d with
  | int j =>
    rw [Rep] at r1
    exact ⟨j, r1, q1.1, fun q hq => hP _ _ ((EPost.newT I1 hq (rep_rng 0 j) q1.2).after s1)⟩
  | _ => exact q1.elim
theorem je_lr2 (hc : X.calm = true) (hm : X.mg "list" = none) (hm2 : X.mg "range" = none) (ha : JE S X a ua) (hb : JE S X b ub) (hg : Gl X "list" := by rfl) (hg2 : Gl X "range" := by rfl)
    (na : starEach [.Call (.Name "range" p2) [a, b] [] pos2] X.env = (false, eval (.Call (.Name "range" p2) [a, b] [] pos2) X.env) :: starEach [] X.env := by rfl) (na2 : starEach [a, b] X.env = (false, eval a X.env) :: starEach [b] X.env := by rfl) (nb : starEach [b] X.env = (false, eval b X.env) :: starEach [] X.env := by rfl) (hp : (backTo pos2 (starEach [b] X.env)).any (·.1) = false := by rfl) :
    JE S X (.Call (.Name "list" p) [.Call (.Name "range" p2) [a, b] [] pos2] [] pos) (u2 fLR2 ua ub) := by
  obtain ⟨t, pa, h⟩ := ha.ex
  obtain ⟨t2, pb, h2⟩ := hb.ex
  refine ⟨_, pe_listRg hc hg hm (prg_2 hg2 hm2 pa pb na2 nb hp) na, fun ρ σ g H Q P I R hu hP => h ρ σ g H _ _ I R hu fun v H1 e => ?_⟩
  obtain ⟨g1, d, s1, I1, r1, _, q1⟩ := e.rep
  refine h2 ρ σ g1 H1 _ _ I1 (R.step I s1) q1 fun v2 H2 e2 => ?_
  obtain ⟨g2, d2, s2, I2, r2, _, q2⟩ := e2.rep
  cases d with
  | int i =>
    cases d2 with
    | int j =>
      rw [Rep] at r1 r2
      exact ⟨i, j, r1, r2, q2.1, fun q hq => hP _ _ ((EPost.newL I2 hq (rep_rng i j) q2.2).after (s1.trans s2))⟩
    | _ => exact q2.elim
  | _ => cases d2 <;> exact q2.elim
theorem je_tr2 (hc : X.calm = true) (hm : X.mg "tuple" = none) (hm2 : X.mg "range" = none) (ha : JE S X a ua) (hb : JE S X b ub) (hg : Gl X "tuple" := by rfl) (hg2 : Gl X "range" := by rfl)
    (na : starEach [.Call (.Name "range" p2) [a, b] [] pos2] X.env = (false, eval (.Call (.Name "range" p2) [a, b] [] pos2) X.env) :: starEach [] X.env := by rfl) (na2 : starEach [a, b] X.env = (false, eval a X.env) :: starEach [b] X.env := by rfl) (nb : starEach [b] X.env = (false, eval b X.env) :: starEach [] X.env := by rfl) (hp : (backTo pos2 (starEach [b] X.env)).any (·.1) = false := by rfl) :
    JE S X (.Call (.Name "tuple" p) [.Call (.Name "range" p2) [a, b] [] pos2] [] pos) (u2 fTR2 ua ub) := by
  obtain ⟨t, pa, h⟩ := ha.ex
  obtain ⟨t2, pb, h2⟩ := hb.ex
  refine ⟨_, pe_tupRg hc hg hm (prg_2 hg2 hm2 pa pb na2 nb hp) na, fun ρ σ g H Q P I R hu hP => h ρ σ g H _ _ I R hu fun v H1 e => ?_⟩
  obtain ⟨g1, d, s1, I1, r1, _, q1⟩ := e.rep
  refine h2 ρ σ g1 H1 _ _ I1 (R.step I s1) q1 fun v2 H2 e2 => ?_
  obtain ⟨g2, d2, s2, I2, r2, _, q2⟩ := e2.rep
  cases d with
  | int i =>
    cases d2 with
    | int j =>
      rw [Rep] at r1 r2
      exact ⟨i, j, r1, r2, q2.1, fun q hq => hP _ _ ((EPost.newT I2 hq (rep_rng i j) q2.2).after (s1.trans s2))⟩
    | _ => exact q2.elim
  | _ => cases d2 <;> exact q2.elim
end
@[simp] def oLR1 : D → Option D
  | .int j => if rgC 0 j then some (.lst (rngD 0 (j - 0).toNat)) else none
  | _ => none
@[simp] def oTR1 : D → Option D
  | .int j => if rgC 0 j then some (.tup (rngD 0 (j - 0).toNat)) else none
  | _ => none
@[simp] def oLR2 : D → D → Option D
  | .int i, .int j => if rgC i j then some (.lst (rngD i (j - i).toNat)) else none
  | _, _ => none
@[simp] def oTR2 : D → D → Option D
  | .int i, .int j => if rgC i j then some (.tup (rngD i (j - i).toNat)) else none
  | _, _ => none
theorem lr1_ok : ∀ x d (Q : UK), oLR1 x = some d → Q true d → fLR1 x Q := by
  intro x d Q e q
  cases x <;> simp only [oLR1] at e <;> first | cases e | (split at e <;> rename_i h <;> first | (cases e; exact ⟨h, q⟩) | cases e)
theorem tr1_ok : ∀ x d (Q : UK), oTR1 x = some d → Q false d → fTR1 x Q := by
  intro x d Q e q
  cases x <;> simp only [oTR1] at e <;> first | cases e | (split at e <;> rename_i h <;> first | (cases e; exact ⟨h, q⟩) | cases e)
theorem lr2_ok : ∀ x y d (Q : UK), oLR2 x y = some d → Q true d → fLR2 x y Q := by
  intro x y d Q e q
  cases x <;> cases y <;> simp only [oLR2] at e <;> first | cases e | (split at e <;> rename_i h <;> first | (cases e; exact ⟨h, q⟩) | cases e)
theorem tr2_ok : ∀ x y d (Q : UK), oTR2 x y = some d → Q false d → fTR2 x y Q := by
  intro x y d Q e q
  cases x <;> cases y <;> simp only [oTR2] at e <;> first | cases e | (split at e <;> rename_i h <;> first | (cases e; exact ⟨h, q⟩) | cases e)
section
variable {M : Type → Type} [Mo M] {β σ : Type} {ρ : DEnv} {ut : UT} {Ψ : β → Prop} {E : UEnds} {rest : US} {t : Bool}
def FUEL : Nat := 65536
theorem si_whileS {mk : σ → DEnv} {ubd : US} {c : σ → M Bool} {f : σ → M (Ctl σ)} {s0 : σ} {kn : σ → M β} {kr : D → M β} {n : Nat} (hc : ∀ s, TI (mk s) ut (c s))
    (hb : ∀ (s : σ) (Ψ : Ctl σ → Prop) (E' : UEnds), (∀ s ρ', Le (mk s) ρ' → Ψ (.nx s) → E'.nx ρ') → (∀ s ρ', Le (mk s) ρ' → Ψ (.nx s) → E'.ct ρ') → (∀ s ρ', Le (mk s) ρ' → Ψ (.bk s) → E'.bk ρ') → (∀ d, Ψ (.rt d) → E'.rt t d) → SI Ψ E' (mk s) ubd (f s))
    (h0 : Le (mk s0) ρ) (hk : ∀ s, SI Ψ E (mk s) rest (kn s)) (hr : ∀ d, run (kr d) Ψ → E.rt t d) : SI Ψ E ρ (sSeq (sWhile (tBody ut) (sBody ubd)) (sBody rest)) (bnd (whileC c f n s0) (ctlK kr kn)) := si_while hc hb h0 hk hr
end
/-- a while that ends within n turns -/
theorem while_o {σ : Type} {c : σ → Option Bool} {f : σ → Option (Ctl σ)} {Q : Ctl σ → Prop} (I : Nat → σ → Prop) (hs : ∀ n s, I n s → (c s = some false ∧ Q (.nx s)) ∨ (c s = some true ∧ ∃ r, f s = some r ∧ match r with
    | .nx s' => ∃ m, n = m + 1 ∧ I m s'
    | .bk s' => Q (.nx s')
    | .rt d => Q (.rt d))) : ∀ (n k : Nat) (s : σ), n < k → I n s → ∃ r, whileC c f k s = some r ∧ Q r
  | n, 0, s, h, _ => absurd h (Nat.not_lt_zero n)
  | n, k + 1, s, h, i => by
    rcases hs n s i with ⟨e, q⟩ | ⟨e, r, e2, q⟩
    · refine ⟨.nx s, ?_, q⟩
      show (c s).bind _ = _
      rw [e]
      rfl
    · cases r with
      | nx s' =>
        obtain ⟨m, rfl, hm⟩ := q
        obtain ⟨r, e3, q3⟩ := while_o I hs m k s' (by omega) hm
        refine ⟨r, ?_, q3⟩
        show (c s).bind _ = _
        rw [e]
        show (f s).bind _ = _
        rw [e2]
        exact e3
      | bk s' =>
        refine ⟨_, ?_, q⟩
        show (c s).bind _ = _
        rw [e]
        show (f s).bind _ = _
        rw [e2]
        rfl
      | rt d =>
        refine ⟨_, ?_, q⟩
        show (c s).bind _ = _
        rw [e]
        show (f s).bind _ = _
        rw [e2]
        rfl
/-! a, b, c = x, y, [] -/
@[simp] def sPar3N (i j l : Nat) (u1 u2 : UE) (D : UEnds) (ρ : DEnv) : Prop := uCons u1 (uCons u2 uNil) ρ fun ds => match ds with
  | [d1, d2] => D.nx ((((settleL allM ds ρ).set i (some (false, d1))).set j (some (false, d2))).set l (some (true, .lst [])))
  | _ => False
theorem js_par3N {S : Src} {X : Cx} {pos : Pos} {i j l : Nat} {x y z : Str} {a b : Expr} {u1 u2 : UE} {px py pz pt pl : Pos} {kt k2 pt2} (hc : X.calm = true) (hN : X.N.Nodup) (ha : JE S X a u1) (hb : JE S X b u2) (hi : X.N[i]? = some x := by rfl) (hj : X.N[j]? = some y := by rfl) (hl : X.N[l]? = some z := by rfl) (hij : i ≠ j := by decide) (hil : i ≠ l := by decide) (hjl : j ≠ l := by decide)
    (hx : X.env.scope.names.lookup x = some .local := by rfl) (hy : X.env.scope.names.lookup y = some .local := by rfl) (hz : X.env.scope.names.lookup z = some .local := by rfl)
    (hs1 : starEach [a, b, .List [] pl] X.env = (false, eval a X.env) :: starEach [b, .List [] pl] X.env := by rfl) (hs2 : starEach [b, .List [] pl] X.env = (false, eval b X.env) :: starEach [.List [] pl] X.env := by rfl) (hs3 : starEach [.List [] pl] X.env = (false, eval (.List [] pl) X.env) :: starEach [] X.env := by rfl)
    (hw : swappedStores [.Tuple [.Name x px, .Name y py, .Name z pz] kt pt] (.Tuple [a, b, .List [] pl] k2 pt2) X.env = pure (some [x, y, z]) := by rfl)
    (hs : swapsWithSole [.Tuple [.Name x px, .Name y py, .Name z pz] kt pt] (.Tuple [a, b, .List [] pl] k2 pt2) pos.line X.env = pure false := by rfl) :
    JS S X (.Assign [.Tuple [.Name x px, .Name y py, .Name z pz] kt pt] (.Tuple [a, b, .List [] pl] k2 pt2) pos) (sPar3N i j l u1 u2) := by
  obtain ⟨t1, p1, h1⟩ := ha.ex
  obtain ⟨t2, p2, h2⟩ := hb.ex
  refine ⟨_, ps_par3 hc hN hi hj hl hij hil hjl hx hy hz (pa_cons p1 (pa_cons p2 (pa_cons (pe_lst pa_nil) pa_nil hs3) hs2) hs1) hw hs, fun g0 B g H ρ σ E E' I hu gl => ?_⟩
  let te : TE := fun _ H P => 0 ≤ sizeLine ∧ ∀ p, H p = none → P (.ref p) (upd H p (.lst []))
  have hte : ∀ (ρ : DEnv) (σ : L2.St) (g : G) (H : Hp) (Q : UK) (P : VK), HInv S g H → RepS g H ρ σ → (fun (_ : DEnv) (Q : UK) => Q true (.lst [])) ρ Q → (∀ v H', EPost S g H Q v H' → P v H') → te σ H P := fun ρ σ g H Q P I R hu hP => ⟨Nat.zero_le _, fun p np => hP _ _ (EPost.newL I np RepL.nil hu)⟩
  let ta : TA := fun σ H P => t1 σ H fun v H1 => t2 σ H1 fun w H2 => P [v, w] H2
  have hta : ∀ (ρ : DEnv) (σ : L2.St) (g : G) (H : Hp) (Q : List D → Prop) (P : List V → Hp → Prop), HInv S g H → RepS g H ρ σ → uCons u1 (uCons u2 uNil) ρ Q → (∀ vs H', APost S g H Q vs H' → P vs H') → ta σ H P := fun ρ σ g H Q P I R hu hP => h1 ρ σ g H _ _ I R hu fun v H1 e1 => by
    obtain ⟨g1, d1, s1, I1, r1, _, q1⟩ := e1.rep
    refine h2 ρ σ g1 H1 _ _ I1 (R.step I s1) q1 fun w H2 e2 => ?_
    obtain ⟨g2, d2, s2, I2, r2, _, q2⟩ := e2.rep
    exact hP [v, w] H2 ⟨g2, [d1, d2], s1.trans s2, I2, RepL.cons (r1.step I1 s2) (RepL.cons r2 RepL.nil), q2⟩
  show ta σ H fun vs H2 => match vs with
    | [v, w] => te σ H2 fun x H3 => ∃ u v' w', [v, w, x] = [u, v', w'] ∧ E'.nx (((σ.set i (some u)).set j (some v')).set l (some w')) H3
    | _ => False
  refine I.args hta hu fun vs H2 ds g2 I2 r q => ?_
  split at q
  · rename_i d1 d2
    simp only [RepL] at r
    obtain ⟨v, r', rfl, r1, w, r2, rfl, r3, rfl⟩ := r
    have I3 := (I2.set (i := i) (t := false) r1 (fun z => (by cases z))).set (i := j) (t := false) r3 (fun z => (by cases z))
    show te ((σ.set i (some v)).set j (some w)) H2 (fun x H3 => ∃ u v' w', [v, w, x] = [u, v', w'] ∧ E'.nx (((σ.set i (some u)).set j (some v')).set l (some w')) H3)
    refine I3.expr noM (Q := fun t d => t = true ∧ d = .lst []) hte ⟨rfl, rfl⟩ fun x H3 t d g3 I4 r4 f4 _ q4 => ?_
    obtain ⟨rfl, rfl⟩ := q4
    rw [settle_no] at I4
    refine ⟨v, w, x, rfl, gl.nx g3 H3 _ _ (I4.set (i := l) r4 fun z a ea => ?_) q⟩
    refine ⟨I3.st.free (f4 z a ea), fun j' e h3 h4 => ?_⟩
    obtain ⟨a', xs, ds, e1, _, e2, _⟩ := I3.own j' e h3
    rw [h4] at e1
    cases e1
    rw [f4 z a ea] at e2
    cases e2
  · exact q.elim
section
variable {M : Type → Type} [Mo M] {β : Type} {ρ : DEnv} {ua ub : UE} {ta tb : Bool} {ma mb : M D} {Ψ : β → Prop} {E : UEnds} {rest : US} {i j l : Nat}
theorem si_par3N {k2 : D → D → M β} (ha : EI ρ ua ta ma) (hb : EI ρ ub tb mb) (hk : ∀ a b, SI Ψ E (((ρ.set i (some (false, a))).set j (some (false, b))).set l (some (true, .lst []))) rest (k2 a b)) (hF : frzA ρ = ρ := by rfl) :
    SI Ψ E ρ (sSeq (sPar3N i j l ua ub) rest) (bnd ma fun a => bnd mb fun b => k2 a b) := fun h => by
  refine ha _ (Mo.mono (fun a h1 => hb _ (Mo.mono (fun b h2 => ?_) (rb h1))) (rb h))
  show rest E ((((settleL allM [a, b] ρ).set i (some (false, a))).set j (some (false, b))).set l (some (true, .lst [])))
  rw [settleL_F hF]
  exact hk a b h2
end
end DL

/-! DLNew: truth of any datum, [::-1], pop into several names, [x.pop(e) for ..], comprehensions of two clauses. -/
namespace DL
open PySem PySem.Spec PyProof.Rows L2
open Mo (ret bnd ofO run run_ret run_bnd run_ofO)

/-! ### truth -/
@[simp] def isT (Q : Bool → Prop) : D → Prop
  | .bl b => Q b
  | .int i => Q (i != 0)
  | .lst ds => Q (!ds.isEmpty)
  | .tup ds => Q (!ds.isEmpty)
  | .str x => x.length ≤ sizeLine ∧ Q ((x.length : Int) != 0)
  | .non => Q false
  | _ => False
@[simp] def uTru (u : UE) (ρ : DEnv) (Q : (Bool → Prop)) : Prop := u ρ fun _ x => isT Q x
@[simp] def uNotT (u : UE) (ρ : DEnv) (Q : UK) : Prop := u ρ fun _ x => isT (fun k => Q false (.bl (!k))) x
theorem RepL.emp {g : G} {H : Hp} {ds : List D} {vs : List V} (l : RepL g H ds vs) : vs.isEmpty = ds.isEmpty := by
  cases ds with
  | nil => rw [RepL] at l; subst l; rfl
  | cons d ds => rw [RepL] at l; obtain ⟨v, r, rfl, _⟩ := l; rfl
theorem Rep.tru {K : PySem.W.Frag} {g : G} {H : Hp} {d : D} {v : V} {Q : Bool → Prop} (r : Rep g H d v) (q : isT Q d) : ∃ k, TruV K v H k ∧ Q k := by
  cases d with
  | non => rw [Rep] at r; subst r; exact ⟨false, rfl, q⟩
  | bl b => rw [Rep] at r; subst r; exact ⟨b, rfl, q⟩
  | int i => rw [Rep] at r; subst r; exact ⟨_, rfl, q⟩
  | str x => rw [Rep] at r; subst r; exact ⟨_, ⟨q.1, rfl⟩, q.2⟩
  | tup ds =>
    rw [Rep] at r
    obtain ⟨a, xs, rfl, ra, l⟩ := r
    exact ⟨_, .inr (.inl ⟨xs, ra.sq, rfl⟩), by rw [l.emp]; exact q⟩
  | lst ds =>
    rw [Rep] at r
    obtain ⟨a, xs, rfl, ra, l⟩ := r
    exact ⟨_, .inl ⟨xs, ra.sq, rfl⟩, by rw [l.emp]; exact q⟩
  | src => exact q.elim
  | scr _ _ _ => exact q.elim
section
variable {S : Src} {X : Cx} {pos : Pos} {a : Expr} {ua : UE}
theorem jt_tru {e : Expr} {u : UE} (h : JE S X e u) (he : ∀ whole, isTrue e X.env whole = (do let v ← whole; standAt e.pos; holding [v] (truthy v)) := by intro _; rfl) : JT S X e (uTru u) := by
  obtain ⟨t1, p1, h1⟩ := h.ex
  refine ⟨_, pt_truth p1 he, fun ρ σ g H Q P I R hu hP => h1 ρ σ g H _ _ I R hu fun v H' e => ?_⟩
  obtain ⟨g1, d, s1, I1, r1, _, q1⟩ := e.rep
  obtain ⟨k, hk, q⟩ := r1.tru (K := X.K) q1
  exact ⟨k, hk, hP k H' ⟨g1, s1, I1, q⟩⟩
theorem je_notT (ha : JE S X a ua) : JE S X (.UnaryOp .Not a pos) (uNotT ua) := by
  obtain ⟨t, p, h⟩ := ha.ex
  refine ⟨_, pe_notT p, fun ρ σ g H Q P I R hu hP => h ρ σ g H _ _ I R hu fun v H1 e => ?_⟩
  obtain ⟨g1, d, s1, I1, r1, _, q1⟩ := e.rep
  obtain ⟨k, hk, q⟩ := r1.tru (K := X.K) q1
  exact ⟨k, hk, hP _ _ ((EPost.val (d := .bl (!k)) I1 (by rw [Rep]) q).after s1)⟩

/-! ### xs[::-1] -/
@[simp] def fRevL : D → UK → Prop
  | .lst ds, Q => Q true (.lst ds.reverse)
  | _, _ => False
theorem je_revL {e : Expr} {ue : UE} {k : Nat} {p1 p2 p3 : Pos} (h : JE S X e ue) : JE S X (.Subscript e (.Slice none none (some (.UnaryOp .USub (.Constant (.int 1) k p1) p2)) p3) pos) (u1 fRevL ue) := by
  obtain ⟨t, p, h⟩ := h.ex
  refine ⟨_, pe_revL p, fun ρ σ g H Q P I R hu hP => h ρ σ g H _ _ I R hu fun v H1 e => ?_⟩
  obtain ⟨g1, d, s1, I1, r1, _, q1⟩ := e.rep
  cases d with
  | lst ds =>
    rw [Rep] at r1
    obtain ⟨a, xs, rfl, ra, l⟩ := r1
    exact ⟨a, xs, rfl, ra.sq, fun p hp => hP _ _ ((EPost.newL I1 hp l.reverse q1).after s1)⟩
  | _ => exact (show False from q1).elim

/-! ### a, b = x.pop() -/
@[simp] def sMethG (i : Nat) (f : MtF) (gt : UG) (D : UEnds) (ρ : DEnv) : Prop := ownAt ρ i fun ds => f ds [] fun ds' d => match gt d with
  | some L => D.nx (setAll (ρ.set i (some (true, .lst ds'))) (dset L))
  | none => False
theorem js_methG0 {x name : Str} {id : String} {i : Nat} {p1 p2 p3 : Pos} {r : V → List V → Hp → VK → Prop} {f : MtF} {tg : Expr} {gt : UG} {vs : List Nat} (slot : Slot "list" name id) (hty : typeOf (.builtin id) = pure (.type "method_descriptor")) (hm : MtR X id r) (hl : LiftM S r f) (hi : X.N[i]? = some x) (hg : JG S X tg gt vs)
    (hv : Vis X.env.scope x := by first | exact Or.inl rfl | exact Or.inr (Or.inl rfl) | exact Or.inr (Or.inr rfl)) (hd : (x == ("__debug__" : Str)) = false := by decide) (hcd : (x == ("__classdict__" : Str)) = false := by decide)
    (hbase : attributeBase (.Name x p1) name X.env (eval (.Name x p1) X.env) = eval (.Name x p1) X.env := by rfl) (hline : (p2.endLine == p3.line) = true := by rfl)
    (hs : swapsWithSole [tg] (.Call (.Attribute (.Name x p1) name p2) [] [] p3) pos.line X.env = pure false := by rfl) (hw : swappedStores [tg] (.Call (.Attribute (.Name x p1) name p2) [] [] p3) X.env = pure none := by rfl)
    (h1 : (assignEach [tg] X.env).map (·.2) = [assign tg X.env] := by rfl) :
    JS S X (.Assign [tg] (.Call (.Attribute (.Name x p1) name p2) [] [] p3) pos) (sMethG i f gt) := by
  obtain ⟨⟨tg', pg, hg⟩, _⟩ := hg
  refine ⟨_, ps_asg (pe_bm0 PySem.F.plainAttrs_list slot hty hm (pv i hi hv hd hcd) hbase hline) pg hs hw h1, fun g0 B g H ρ σ E E' I hu gl => ?_⟩
  have hS : settleL allM [] ρ = ρ := by unfold settleL; rw [if_pos (by simp)]
  have ho : ownAt ρ i (fun _ => True) := by
    obtain ⟨ds, e, _⟩ := ownAt_of hu
    unfold ownAt; rw [e]; trivial
  refine meth_core (K := X.K) (ta := tNil) (u := uNil) (W := fun as ds' d => match gt d with
    | some L => as = [] ∧ E.nx (setAll (ρ.set i (some (true, .lst ds'))) (dset L))
    | none => False) I allM hl (fun ρ σ g H Q P I R hu hP => hP [] H ⟨g, [], Step.refl g H, I, RepL.nil, hu⟩) ho ?_ fun v H' as ds' d g' I' rd w => ?_
  · show ownAt (settleL allM [] ρ) i _
    rw [hS]
    obtain ⟨ds, e, h⟩ := ownAt_of hu
    unfold ownAt; rw [e]
    have : (fun (ds' : List D) (d : D) => match gt d with
      | some L => ([] : List D) = [] ∧ E.nx (setAll (ρ.set i (some (true, D.lst ds'))) (dset L))
      | none => False) = fun ds' d => match gt d with
      | some L => E.nx (setAll (ρ.set i (some (true, D.lst ds'))) (dset L))
      | none => False := by
      funext ds' d
      cases gt d <;> simp
    show f ds [] _
    rw [this]
    exact h
  · cases e1 : gt d with
    | none => rw [e1] at w; exact w.elim
    | some L =>
      rw [e1] at w
      obtain ⟨rfl, w⟩ := w
      rw [hS] at I'
      exact hg g' H' σ d v L _ rd e1 fun M hM => gl.nx g' H' _ _ (hM.inv I') w
end

/-! ### return [x.pop(e) for .. in numbers] -/
section
variable {S : Src} {g0 g : G} {B H : Hp} {ρ : DEnv} {σ : L2.St}
theorem SInv.wipe (I : SInv S g0 B g H ρ σ) (vs : List Nat) : SInv S g0 B g H (wipeD ρ vs) (L2.wipe σ vs) where
  st := I.st
  hi := I.hi
  len := by rw [wipeD_len, wipe_length]; exact I.len
  own := fun i d e => by
    obtain ⟨h1, h2⟩ := wipeD_some e
    rw [wipe_out h2]
    exact I.own i d h1
  inj := fun i j d e a h1 h2 h3 h4 => by
    obtain ⟨k1, k2⟩ := wipeD_some h1
    obtain ⟨k3, k4⟩ := wipeD_some h2
    rw [wipe_out k2] at h3
    rw [wipe_out k4] at h4
    exact I.inj i j d e a k1 k3 h3 h4
  imm := fun i d e => by
    obtain ⟨h1, h2⟩ := wipeD_some e
    rw [wipe_out h2]
    exact I.imm i d h1
theorem SInv.snoc (I : SInv S g0 B g H ρ σ) {t : Bool} {d : D} {v : V} (r : RepT g H t d v) (f : t = true → ∀ a, v = .ref a → B a = none ∧ ∀ (j : Nat) (e : D), ρ[j]? = some (some (true, e)) → σ[j]? ≠ some (some (V.ref a))) :
    SInv S g0 B g H (ρ ++ [some (t, d)]) (σ ++ [some v]) := by
  have hl := I.len
  have J : SInv S g0 B g H (ρ ++ [none]) (σ ++ [none]) := by
    have at_ : ∀ (j : Nat) (x : Bool × D), (ρ ++ [none])[j]? = some (some x) → ρ[j]? = some (some x) ∧ (σ ++ [none])[j]? = σ[j]? := fun j x e => by
      by_cases hj : j < ρ.length
      · rw [List.getElem?_append_left hj] at e
        exact ⟨e, List.getElem?_append_left (by omega)⟩
      · have hj2 : j = ρ.length := by
          have := (List.getElem?_eq_some_iff.mp e).1
          rw [List.length_append, List.length_singleton] at this
          omega
        subst hj2
        rw [List.getElem?_append_right (Nat.le_refl _), Nat.sub_self] at e
        cases e
    refine ⟨I.st, I.hi, by rw [List.length_append, List.length_append, hl]; rfl, fun j d e => ?_, fun j k d e a h1 h2 h3 h4 => ?_, fun j d e => ?_⟩
    · obtain ⟨e1, e2⟩ := at_ j _ e
      rw [e2]; exact I.own j d e1
    · obtain ⟨e1, e2⟩ := at_ j _ h1
      obtain ⟨e3, e4⟩ := at_ k _ h2
      rw [e2] at h3
      rw [e4] at h4
      exact I.inj j k d e a e1 e3 h3 h4
    · obtain ⟨e1, e2⟩ := at_ j _ e
      rw [e2]; exact I.imm j d e1
  have := J.set (i := ρ.length) r fun z a ea => by
    obtain ⟨f1, f2⟩ := f z a ea
    refine ⟨f1, fun j e h1 h2 => ?_⟩
    by_cases hj : j < ρ.length
    · rw [List.getElem?_append_left hj] at h1
      rw [List.getElem?_append_left (by omega)] at h2
      exact absurd h2 (f2 j e h1)
    · have := (List.getElem?_eq_some_iff.mp h1).1
      rw [List.length_append, List.length_singleton] at this
      omega
  have e1 : (ρ ++ [none]).set ρ.length (some (t, d)) = ρ ++ [some (t, d)] := by simp
  have e2 : (σ ++ [none]).set ρ.length (some v) = σ ++ [some v] := by rw [hl]; simp
  rw [e1, e2] at this
  exact this
end
section
variable {S : Src} {g0 g : G} {B H : Hp} {ρ : DEnv} {σ : L2.St}
theorem SInv.unsnoc {a : Option (Bool × D)} {b : Option V} (I : SInv S g0 B g H (ρ ++ [a]) (σ ++ [b])) : SInv S g0 B g H ρ σ := by
  have hl : ρ.length = σ.length := by
    have := I.len
    rw [List.length_append, List.length_append, List.length_singleton, List.length_singleton] at this
    omega
  have at_ : ∀ (j : Nat) (x : Bool × D), ρ[j]? = some (some x) → (ρ ++ [a])[j]? = some (some x) ∧ (σ ++ [b])[j]? = σ[j]? := fun j x e => by
    have hj : j < ρ.length := (List.getElem?_eq_some_iff.mp e).1
    exact ⟨by rw [List.getElem?_append_left hj]; exact e, List.getElem?_append_left (by omega)⟩
  refine ⟨I.st, I.hi, hl, fun j d e => ?_, fun j k d e a h1 h2 h3 h4 => ?_, fun j d e => ?_⟩
  · obtain ⟨e1, e2⟩ := at_ j _ e
    rw [← e2]; exact I.own j d e1
  · obtain ⟨e1, e2⟩ := at_ j _ h1
    obtain ⟨e3, e4⟩ := at_ k _ h2
    rw [← e2] at h3
    rw [← e4] at h4
    exact I.inj j k d e a e1 e3 h3 h4
  · obtain ⟨e1, e2⟩ := at_ j _ e
    rw [← e2]; exact I.imm j d e1
end
def popU (i : Nat) (gt : UG) (ue : UE) : List D → DEnv → List D → (List D → Prop) → Prop
  | [], _, ys, k => k ys
  | d :: r, ρ, ys, k => match gt d with
    | some L => ownAt ρ i (fun _ => True) ∧ ue (setAll ρ (dset L)) fun _ kd => ownAt ρ i fun ds => mPopAt ds [kd] fun ds' y => popU i gt ue r (ρ.set i (some (true, .lst ds'))) (ys ++ [y]) k
    | none => False
@[simp] def sRetPop (i : Nat) (ui : UI) (gt : UG) (ue : UE) (vs : List Nat) (D : UEnds) (ρ : DEnv) : Prop := ownAt ρ i (fun _ => True) ∧ ui ρ fun items => items.length ≤ sizeLine ∧ popU i gt ue items (wipeD ρ vs) [] fun ys => D.rt true (.lst ys)
section
variable {S : Src} {X : Cx} {pos : Pos}
theorem setAll_len {α : Type} : ∀ {M : List (Nat × α)} {σ : List α}, (setAll σ M).length = σ.length
  | [], _ => rfl
  | p :: M, σ => by
    show (setAll (σ.set p.1 p.2) M).length = _
    rw [setAll_len, List.length_set]
theorem setAll_out {α : Type} {j : Nat} : ∀ {M : List (Nat × α)} {σ : List α}, (∀ p ∈ M, p.1 ≠ j) → (setAll σ M)[j]? = σ[j]?
  | [], _, _ => rfl
  | p :: M, σ, h => by
    show (setAll (σ.set p.1 p.2) M)[j]? = _
    rw [setAll_out fun q hq => h q (List.mem_cons_of_mem _ hq), List.getElem?_set_ne (h p (List.mem_cons_self ..))]
theorem js_retPop {i : Nat} {x : Str} {p1 p2 p3 pos' : Pos} {e tg iter : Expr} {scope : Scope} {own : List (Str × Nat)} {ui : UI} {gt : UG} {ue : UE} (hc : X.calm = true) (hN : X.N.Nodup) (hi : JR S X tg iter ui) (ok : BlkOk X.N X.env.scope scope own)
    (hg : ∀ (s : Shared) (H : Hp) (C : Addr) (cl : List (Str × Addr)) (fp : List Addr), JG S (X.blk s H scope (compEnvC scope cl C X.env) fp) tg gt (own.map (·.2)))
    (he : ∀ (s : Shared) (H : Hp) (C : Addr) (cl : List (Str × Addr)) (fp : List Addr), JE S (X.blk s H scope (compEnvC scope cl C X.env) fp) e ue)
    (hx : X.N[i]? = some x) (hio : i ∉ own.map (·.2)) (hd : (x == ("__debug__" : Str)) = false := by decide) (hcd : (x == ("__classdict__" : Str)) = false := by decide)
    (hv : ∀ (s : Shared) (H : Hp) (C : Addr) (cl : List (Str × Addr)) (fp : List Addr), Vis (X.blk s H scope (compEnvC scope cl C X.env) fp).env.scope x := by intro _ _ _ _ _; first | exact Or.inl rfl | exact Or.inr (Or.inl rfl) | exact Or.inr (Or.inr rfl))
    (hbase : ∀ (s : Shared) (H : Hp) (C : Addr) (cl : List (Str × Addr)) (fp : List Addr), attributeBase (.Name x p1) "pop" (X.blk s H scope (compEnvC scope cl C X.env) fp).env (eval (.Name x p1) (X.blk s H scope (compEnvC scope cl C X.env) fp).env) = eval (.Name x p1) (X.blk s H scope (compEnvC scope cl C X.env) fp).env := by intro _ _ _ _ _; rfl)
    (hfew : ∀ env, ((backTo p3 (starEach [e] env)).all (fun x => !x.1) && (backToKw p3 (keywordEach [] env)).all (fun x => x.1.isSome)
      && decide (([e] : List Expr).length + ([] : List Keyword).length + (if ([] : List Keyword).isEmpty then 0 else 1) < 30)) = true := by intro _; rfl)
    (hline : (p2.endLine == p3.line) = true := by rfl) (hst : ∀ env, starEach [e] env = (false, eval e env) :: starEach [] env := by intro _; rfl) (hplain : ∀ env, (backTo p3 (starEach [] env)).any (·.1) = false := by intro _; rfl)
    (hs : ∀ x, foldedSetIterable iter X.env x = pure x := by intro _; rfl) :
    JS S X (.Return (some (.ListComp (.Call (.Attribute (.Name x p1) "pop" p2) [e] [] p3) [⟨tg, iter, [], 0⟩] scope pos)) pos') (sRetPop i ui gt ue (own.map (·.2))) := by
  obtain ⟨w, pw, hi⟩ := hi.ex
  refine ⟨_, ps_ret (pe_lc (te := tBM X.K "list" rPopAt (tVar i) (tCons (canE S ue) tNil)) hc hN pw ok (fun s H C cl fp => (hg s H C cl fp).can) (fun s H C cl fp => pts_nil)
    (fun s H C cl fp => pe_bm PySem.F.plainAttrs_list PySem.F.slot_list_pop PySem.F.type_list_pop mt_popAt (pv i hx (hv s H C cl fp) hd hcd) (pa_cons (he s H C cl fp).can pa_nil (hst _)) (hbase s H C cl fp) (hfew _) hline (hst _) (hplain _)) hs), fun g0 B g H ρ σ E E' I hu gl => ?_⟩
  obtain ⟨ho, hu⟩ := hu
  obtain ⟨gv, Iv, Rv, fin⟩ := I.view allM
  rw [vis_all] at Rv
  show tLc w (canG gt) tYes (tBM X.K "list" rPopAt (tVar i) (tCons (canE S ue) tNil)) (own.map (·.2)) σ H E'.rt
  refine hi _ σ gv H _ _ Iv Rv hu fun J H1 g1' items s1 I1' W hq A hA => ?_
  obtain ⟨hz, hq⟩ := hq
  obtain ⟨_, g1, I1, _⟩ := fin g1' H1 s1 I1'
  -- the list is laid
  have hBA : B A = none := I1.st.free hA
  have I2 := (I1.wipe (own.map (·.2))).step (Step.laid g1 (.lst []) hA) (I1.hi.laid _ hA)
  have nA : ∀ (j : Nat) (d : D) (a : Addr), (wipeD ρ (own.map (·.2)))[j]? = some (some (true, d)) → (L2.wipe σ (own.map (·.2)))[j]? = some (some (V.ref a)) → a ≠ A := fun j d a h1 h2 z => by
    obtain ⟨a', xs, ds, e1, _, e2, _⟩ := (I1.wipe (own.map (·.2))).own j d h1
    rw [h2] at e1; cases e1
    rw [z, hA] at e2; cases e2
  have I3 := I2.snoc (t := true) (d := .lst []) (v := .ref A) ⟨A, [], [], rfl, rfl, upd_same, I1.hi.nfz hA, I1.hi.nrl hA, RepL.nil⟩ fun _ a ea => by
    cases ea
    exact ⟨hBA, fun j e h1 h2 => nA j e A h1 h2 rfl⟩
  have hlen : (wipeD ρ (own.map (·.2))).length = σ.length := by rw [wipeD_len]; exact I.len
  have hwl : (L2.wipe σ (own.map (·.2))).length = σ.length := wipe_length ..
  refine ⟨fun n m H' => m = items.length - n ∧ n ≤ items.length ∧ ∃ g' ρ' ys, SInv S g0 B g' H' (ρ' ++ [some (true, .lst ys)]) (L2.wipe σ (own.map (·.2)) ++ [some (.ref A)]) ∧ ρ'.length = σ.length ∧ ys.length ≤ n ∧ popU i gt ue (items.drop n) ρ' ys fun ys => E.rt true (.lst ys),
    ⟨items.length, by simp, Nat.zero_le _, g1, _, [], I3, hlen, Nat.zero_le _, hq⟩, ?_⟩
  rintro n m H2 ⟨rfl, hn, g2, ρ2, ys, J2, hl2, hy, h2⟩
  by_cases hlt : n < items.length
  · refine .inr ⟨(W g2 H2).go n g2 H2 (Up.refl ..) J2.hi hlt, fun H' => ∃ g' ρ' ys, SInv S g0 B g' H' (ρ' ++ [some (true, .lst ys)]) (L2.wipe σ (own.map (·.2)) ++ [some (.ref A)]) ∧ ρ'.length = σ.length ∧ ys.length ≤ n + 1 ∧ popU i gt ue (items.drop (n + 1)) ρ' ys fun ys => E.rt true (.lst ys),
      fun H' ⟨g', ρ', ys, a1, a2, a3, a4⟩ => ⟨items.length - (n + 1), by omega, rfl, hlt, g', ρ', ys, a1, a2, a3, a4⟩, fun x H3 y => ?_⟩
    have hdn : items[n]? = some items[n] := List.getElem?_eq_getElem hlt
    obtain ⟨g3, s3, I3', r3⟩ := (W g2 H2).yld n g2 H2 x H3 items[n] (Up.refl ..) J2.hi hdn y
    have J3 := J2.step s3 I3'
    rw [List.drop_eq_getElem_cons hlt] at h2
    unfold popU at h2
    cases e : gt items[n] with
    | none => rw [e] at h2; exact h2.elim
    | some L =>
      rw [e] at h2
      have hon := (hg X.s_0 H 0 [] []).on items[n] L e
      obtain ⟨ho2, h2⟩ := h2
      have hil : i < ρ2.length := by
        obtain ⟨ds, e0, _⟩ := ownAt_of ho2
        exact (List.getElem?_eq_some_iff.mp e0).1
      obtain ⟨ds0, e0, _⟩ := ownAt_of ho2
      have e1 : (ρ2 ++ [some (true, D.lst ys)])[i]? = some (some (true, .lst ds0)) := by rw [List.getElem?_append_left hil]; exact e0
      obtain ⟨b, xs0, ds0', hb1, _, hb3, _⟩ := J3.own i _ e1
      rw [List.getElem?_append_left (by rw [hwl, ← hl2]; exact hil)] at hb1
      -- what the target and the argument see
      have J3x := J3.snoc (t := false) (d := items[n]) (v := x) r3 (fun z => by cases z)
      obtain ⟨gw, Iw, Rw, fin3⟩ := J3x.view allM
      rw [vis_all] at Rw
      have rx : Rep gw H3 items[n] x := by
        obtain ⟨v, hv, r⟩ := Rw.get (ρ2.length + 1) false items[n] (by simp)
        have : (L2.wipe σ (own.map (·.2)) ++ [some (V.ref A)] ++ [some x])[ρ2.length + 1]? = some (some x) := by rw [hl2, ← hwl]; simp
        rw [this] at hv
        cases hv
        exact r
      have Rw2 : RepS gw H3 ρ2 (L2.wipe σ (own.map (·.2))) := ⟨by rw [hl2, hwl], fun j t d e => by
        have hj : j < ρ2.length := (List.getElem?_eq_some_iff.mp e).1
        have hj2 : j < (L2.wipe σ (own.map (·.2))).length := by rw [hwl, ← hl2]; exact hj
        obtain ⟨v, hv, r⟩ := Rw.get j t d (by rw [List.getElem?_append_left (by rw [List.length_append]; omega), List.getElem?_append_left hj]; exact e)
        rw [List.getElem?_append_left (by rw [List.length_append]; omega), List.getElem?_append_left hj2] at hv
        exact ⟨v, hv, r⟩⟩
      refine ⟨gw, items[n], L, rx, e, fun M hM => ⟨(wipe_setAll (hM.on hon)).trans ?_, ?_⟩⟩
      · exact (List.ext_getElem? fun j => by
          by_cases hj : j ∈ own.map (·.2)
          · rw [wipe_in hj, wipe_in hj]
            cases (σ[j]?) <;> rfl
          · rw [wipe_out hj])
      have hio2 : ∀ p ∈ M, p.1 ≠ i := fun p hp z => hio (by rw [← z]; exact hM.on hon p hp)
      show tBM X.K "list" rPopAt (tVar i) (tCons (canE S ue) tNil) (setAll (L2.wipe σ (own.map (·.2))) M) H3 _
      refine ⟨.ref b, by rw [setAll_out hio2]; exact hb1, .inl ⟨rfl, xs0, .inl (.inl hb3)⟩, ?_⟩
      refine ⟨_, gw, _, Iw, hM.reps Rw2, h2, fun v H4 ep => ?_⟩
      obtain ⟨g4, kd, s4, I4, r4, _, q4⟩ := ep.rep
      obtain ⟨_, g5, J5x, _⟩ := fin3 g4 H4 s4 I4
      have J5 := J5x.unsnoc
      obtain ⟨ds, e5, q5⟩ := ownAt_of q4
      have e6 : (ρ2 ++ [some (true, D.lst ys)])[i]? = some (some (true, .lst ds)) := by rw [List.getElem?_append_left hil]; exact e5
      obtain ⟨b', xs, ds', k1, k0, k2, k3, k4, k5, k6⟩ := J5.own i _ e6
      cases k0
      rw [List.getElem?_append_left (by rw [hwl, ← hl2]; exact hil), hb1] at k1
      cases k1
      have rk : RepL g5 H4 [kd] [v] := by
        cases kd with
        | int k =>
          rw [Rep] at r4
          exact RepL.cons (by rw [Rep]; exact r4) RepL.nil
        | _ => exact (show False from q5).elim
      unfold tNil
      dsimp only
      refine liftm_popAt (S := S) g5 H4 b xs ds [v] [kd] _ _ k2 k6 rk q5 fun xs' ds' yv y l' rd w => ?_
      have J6 := J5.put e6 (p := b) (by rw [List.getElem?_append_left (by rw [hwl, ← hl2]; exact hil)]; exact hb1) l'
      rw [List.set_append_left _ _ hil] at J6
      have rd6 : Rep g5 (L2.upd H4 b (.lst xs')) y yv := Rep.up (Up.upd k2 k4) y yv rd
      have e7 : (ρ2.set i (some (true, D.lst ds')) ++ [some (true, D.lst ys)])[ρ2.length]? = some (some (true, .lst ys)) := by rw [List.getElem?_append_right (by simp)]; simp
      have e8 : (L2.wipe σ (own.map (·.2)) ++ [some (V.ref A)])[ρ2.length]? = some (some (.ref A)) := by rw [hl2, ← hwl]; simp
      obtain ⟨a8, acc, ds8, m1, m0, m2, m3, m4, m5, m6⟩ := J6.own _ _ e7
      cases m0
      rw [e8] at m1
      cases m1
      have J7 := J6.put e7 (p := A) e8 (m6.append (RepL.cons rd6 RepL.nil))
      rw [List.set_append_right _ _ (by simp)] at J7
      have e9 : ([some (true, D.lst ys)] : DEnv).set (ρ2.length - (ρ2.set i (some (true, D.lst ds'))).length) (some (true, D.lst (ys ++ [y]))) = [some (true, .lst (ys ++ [y]))] := by simp
      rw [e9] at J7
      exact ⟨acc, m2, by rw [m6.len]; omega, g5, _, ys ++ [y], J7, by rw [List.length_set]; exact hl2, by rw [List.length_append]; show ys.length + 1 ≤ n + 1; omega, w⟩
  · have en : n = items.length := by omega
    subst en
    refine .inl ⟨(W g2 H2).stop _ g2 H2 (Up.refl ..) J2.hi (Nat.le_refl _), ?_⟩
    rw [List.drop_length] at h2
    have e0 : (ρ2 ++ [some (true, D.lst ys)])[ρ2.length]? = some (some (true, .lst ys)) := by simp
    obtain ⟨a, xs, ds, h1, hd1, h3, h4, h5, h6, h7⟩ := J2.own _ _ e0
    cases hd1
    have : a = A := by
      rw [hl2, ← hwl] at h1
      simp at h1
      exact h1.symm
    subst this
    exact gl.rt g2 H2 (.ref a) true (.lst ys) J2.st J2.hi ⟨a, xs, ys, rfl, rfl, h3, h5, h6, h7⟩ (fun _ b eb => by cases eb; exact h4) h2
end

/-! ### comprehensions of two clauses -/
def lc2U (gt : UG) (ut : UT) (ui1 : UI) (gt1 : UG) (ut1 : UT) (ue : UE) (vs1 : List Nat) (ρ : DEnv) : List D → List D → (List D → Prop) → Prop
  | [], ys, k => k ys
  | d :: r, ys, k => match gt d with
    | some L => ut (setAll ρ (dset L)) fun b => if b = true then ui1 (setAll ρ (dset L)) fun es => es.length ≤ 4000 ∧ lcU (wipeD (setAll ρ (dset L)) vs1) gt1 ut1 ue es ys fun ys' => lc2U gt ut ui1 gt1 ut1 ue vs1 ρ r ys' k else lc2U gt ut ui1 gt1 ut1 ue vs1 ρ r ys k
    | none => False
@[simp] def uLc2 (ui : UI) (gt : UG) (ut : UT) (ui1 : UI) (gt1 : UG) (ut1 : UT) (ue : UE) (vs vs1 : List Nat) (ρ : DEnv) (Q : UK) : Prop := ui ρ fun ds => ds.length ≤ 4000 ∧ lc2U gt ut ui1 gt1 ut1 ue vs1 (wipeD ρ vs) ds [] fun ys => Q true (.lst ys)
section
variable {S : Src} {X : Cx}
theorem wipe_back {σ : L2.St} {vs : List Nat} : L2.wipe (L2.wipe σ vs) vs = L2.wipe σ vs := List.ext_getElem? fun j => by
  by_cases hj : j ∈ vs
  · rw [wipe_in hj, wipe_in hj]
    cases (σ[j]?) <;> rfl
  · rw [wipe_out hj]
theorem lift_lc2 {ui ui1 : UI} {gt gt1 : UG} {ut ut1 : UT} {ue : UE} {vs vs1 : List Nat} (hon : ∀ d L, gt d = some L → ∀ p ∈ L, p.1 ∈ vs) (hon1 : ∀ d L, gt1 d = some L → ∀ p ∈ L, p.1 ∈ vs1) {ρ : DEnv} {σ : L2.St} {g : G} {H : Hp} {Q : UK} {P : VK} (I : HInv S g H) (R : RepS g H ρ σ) (hu : uLc2 ui gt ut ui1 gt1 ut1 ue vs vs1 ρ Q) (hP : ∀ v H', EPost S g H Q v H' → P v H') :
    tLc2 (canI S ui) (canG gt) (canT S ut) (canI S ui1) (canG gt1) (canT S ut1) (canE S ue) vs vs1 σ H P := by
  refine ⟨ρ, g, _, I, R, hu, fun J H1 g1 ds s1 I1 W hq A hA => ?_⟩
  obtain ⟨hz, hq⟩ := hq
  have hsz : (sizeLine : Nat) = 16777216 := by rw [sizeLine_eq]
  refine ⟨fun i m H' => m = ds.length - i ∧ i ≤ ds.length ∧ ∃ g' ys, Fills S g1 H1 A g' H' ys ∧ ys.length ≤ 4000 * i ∧ lc2U gt ut ui1 gt1 ut1 ue vs1 (wipeD ρ vs) (ds.drop i) ys fun ys => Q true (.lst ys), ⟨ds.length, by simp, Nat.zero_le _, g1, [], ?_, Nat.zero_le _, hq⟩, ?_⟩
  · exact ⟨Step.laid g1 _ hA, I1.laid _ hA, ⟨[], upd_same, RepL.nil⟩, I1.nfz hA, I1.nrl hA⟩
  rintro i m H2 ⟨rfl, hi, g2, ys, F, hy, h2⟩
  by_cases hlt : i < ds.length
  · refine .inr ⟨W.go i g2 H2 (F.st.up I1) F.hi hlt, fun H' => ∃ g' ys, Fills S g1 H1 A g' H' ys ∧ ys.length ≤ 4000 * (i + 1) ∧ lc2U gt ut ui1 gt1 ut1 ue vs1 (wipeD ρ vs) (ds.drop (i + 1)) ys fun ys => Q true (.lst ys), fun H' ⟨g', ys, F', h3, h4⟩ => ⟨ds.length - (i + 1), by omega, rfl, hlt, g', ys, F', h3, h4⟩, fun x H3 y => ?_⟩
    have hd : ds[i]? = some ds[i] := List.getElem?_eq_getElem hlt
    obtain ⟨g3, s3, I3, r3⟩ := W.yld i g2 H2 x H3 ds[i] (F.st.up I1) F.hi hd y
    have F3 := F.step s3 I3
    rw [List.drop_eq_getElem_cons hlt] at h2
    unfold lc2U at h2
    cases e : gt ds[i] with
    | none => rw [e] at h2; exact h2.elim
    | some L =>
      rw [e] at h2
      refine ⟨g3, ds[i], L, r3, e, fun M hM => ⟨(wipe_setAll (hM.on (hon _ _ e))).trans wipe_back, ?_⟩⟩
      have Rw : RepS g3 H3 (wipeD ρ vs) (L2.wipe σ vs) := ((R.step I (s1.trans F3.st)).wipe vs)
      have Rs := hM.reps Rw
      refine ⟨_, g3, _, I3, Rs, h2, fun b H4 tp => ?_⟩
      obtain ⟨g4, s4, I4, q4⟩ := tp
      have F4 := F3.step s4 I4
      cases b with
      | false =>
        simp only [Bool.false_eq_true, if_false] at q4 ⊢
        exact ⟨g4, ys, F4, by omega, q4⟩
      | true =>
        simp only [if_true] at q4 ⊢
        refine ⟨_, g4, _, I4, Rs.step I3 s4, q4, fun J1 H5 g5 es s5 I5 W1 hq5 => ?_⟩
        obtain ⟨hz1, hq5⟩ := hq5
        have F5 := F4.step s5 I5
        have R5 := (Rs.step I3 s4).step I4 s5
        refine ⟨fun j k H' => k = es.length - j ∧ j ≤ es.length ∧ ∃ g' ys', Up g5 H5 g' H' ∧ Fills S g1 H1 A g' H' ys' ∧ ys'.length ≤ 4000 * i + j ∧ lcU (wipeD (setAll (wipeD ρ vs) (dset L)) vs1) gt1 ut1 ue (es.drop j) ys' fun ys' => lc2U gt ut ui1 gt1 ut1 ue vs1 (wipeD ρ vs) (ds.drop (i + 1)) ys' fun ys => Q true (.lst ys),
          ⟨es.length, by simp, Nat.zero_le _, g5, ys, Up.refl _ _, F5, by omega, hq5⟩, ?_⟩
        rintro j k H6 ⟨rfl, hj, g6, ys6, u6, F6, hy6, h6⟩
        by_cases hlt1 : j < es.length
        · refine .inr ⟨W1.go j g6 H6 u6 F6.hi hlt1, fun H' => ∃ g' ys', Up g5 H5 g' H' ∧ Fills S g1 H1 A g' H' ys' ∧ ys'.length ≤ 4000 * i + (j + 1) ∧ lcU (wipeD (setAll (wipeD ρ vs) (dset L)) vs1) gt1 ut1 ue (es.drop (j + 1)) ys' fun ys' => lc2U gt ut ui1 gt1 ut1 ue vs1 (wipeD ρ vs) (ds.drop (i + 1)) ys' fun ys => Q true (.lst ys),
            fun H' ⟨g', ys', a1, a2, a3, a4⟩ => ⟨es.length - (j + 1), by omega, rfl, hlt1, g', ys', a1, a2, a3, a4⟩, fun x1 H7 y1 => ?_⟩
          have hd1 : es[j]? = some es[j] := List.getElem?_eq_getElem hlt1
          obtain ⟨g7, s7, I7, r7⟩ := W1.yld j g6 H6 x1 H7 es[j] u6 F6.hi hd1 y1
          have F7 := F6.step s7 I7
          have u7 := u6.trans (s7.up F6.hi)
          rw [List.drop_eq_getElem_cons hlt1] at h6
          unfold lcU at h6
          cases e1 : gt1 es[j] with
          | none => rw [e1] at h6; exact h6.elim
          | some L1 =>
            rw [e1] at h6
            refine ⟨g7, es[j], L1, r7, e1, fun M1 hM1 => ⟨(wipe_setAll (hM1.on (hon1 _ _ e1))).trans wipe_back, ?_⟩⟩
            have R7 : RepS g7 H7 (wipeD (setAll (wipeD ρ vs) (dset L)) vs1) (L2.wipe (setAll (L2.wipe σ vs) M) vs1) := RepS.wipe ⟨R5.len, fun i t d e => by
              obtain ⟨v, hv, r⟩ := R5.get i t d e
              exact ⟨v, hv, Rep.up u7 d v r⟩⟩ vs1
            have Rs7 := hM1.reps R7
            refine ⟨_, g7, _, I7, Rs7, h6, fun b1 H8 tp1 => ?_⟩
            obtain ⟨g8, s8, I8, q8⟩ := tp1
            have F8 := F7.step s8 I8
            have u8 := u7.trans (s8.up I7)
            cases b1 with
            | false =>
              simp only [Bool.false_eq_true, if_false] at q8 ⊢
              exact ⟨g8, ys6, u8, F8, by omega, q8⟩
            | true =>
              simp only [if_true] at q8 ⊢
              refine ⟨_, g8, _, I8, Rs7.step I7 s8, q8, fun v H9 e9 => ?_⟩
              obtain ⟨g9, yd, s9, I9, r9, _, q9⟩ := e9.rep
              have F9 := F8.step s9 I9
              obtain ⟨acc, ea, la⟩ := F9.at_
              refine ⟨acc, ea, by rw [la.len, hsz]; omega, g9, ys6 ++ [yd], (u8.trans (s9.up I8)).trans (Up.upd ea F9.nf), F9.app hA ea r9, by rw [List.length_append]; show ys6.length + 1 ≤ 4000 * i + (j + 1); omega, q9⟩
        · have e' : j = es.length := by omega
          subst e'
          rw [List.drop_length] at h6
          exact .inl ⟨W1.stop _ g6 H6 u6 F6.hi (Nat.le_refl _), g6, ys6, F6, by omega, h6⟩
  · have e : i = ds.length := by omega
    subst e
    refine .inl ⟨W.stop _ g2 H2 (F.st.up I1) F.hi (Nat.le_refl _), hP _ _ ?_⟩
    rw [List.drop_length] at h2
    obtain ⟨acc, ea, la⟩ := F.at_
    exact ⟨g2, true, .lst ys, s1.trans F.st, F.hi, ⟨A, acc, ys, rfl, rfl, ea, F.nf, F.nr, la⟩, fun _ a e => by cases e; exact s1.free hA, h2⟩
theorem je_lc2 {elt tg iter tg1 iter1 : Expr} {ifs ifs1 : List Expr} {scope : Scope} {own : List (Str × Nat)} {vs1 : List Nat} {pos : Pos} {ui ui1 : UI} {gt gt1 : UG} {ut ut1 : UT} {ue : UE} (hc : X.calm = true) (hN : X.N.Nodup) (hi : JI S X tg iter ui) (ok : BlkOk X.N X.env.scope scope own) (hv : ∀ i ∈ vs1, i ∈ own.map (·.2))
    (hg : ∀ (s : Shared) (H : Hp) (C : Addr) (cl : List (Str × Addr)) (fp : List Addr), JG S (X.blk s H scope (compEnvC scope cl C X.env) fp) tg gt (own.map (·.2))) (ht : ∀ (s : Shared) (H : Hp) (C : Addr) (cl : List (Str × Addr)) (fp : List Addr), JTs S (X.blk s H scope (compEnvC scope cl C X.env) fp) ifs ut)
    (hi1 : ∀ (s : Shared) (H : Hp) (C : Addr) (cl : List (Str × Addr)) (fp : List Addr), JI S (X.blk s H scope (compEnvC scope cl C X.env) fp) tg1 iter1 ui1)
    (hg1 : ∀ (s : Shared) (H : Hp) (C : Addr) (cl : List (Str × Addr)) (fp : List Addr), JG S (X.blk s H scope (compEnvC scope cl C X.env) fp) tg1 gt1 vs1) (ht1 : ∀ (s : Shared) (H : Hp) (C : Addr) (cl : List (Str × Addr)) (fp : List Addr), JTs S (X.blk s H scope (compEnvC scope cl C X.env) fp) ifs1 ut1)
    (he : ∀ (s : Shared) (H : Hp) (C : Addr) (cl : List (Str × Addr)) (fp : List Addr), JE S (X.blk s H scope (compEnvC scope cl C X.env) fp) elt ue) (hs : ∀ x, foldedSetIterable iter X.env x = pure x := by intro _; rfl) (hs1 : ∀ env x, foldedSetIterable iter1 env x = pure x := by intro _ _; rfl) :
    JE S X (.ListComp elt [⟨tg, iter, ifs, 0⟩, ⟨tg1, iter1, ifs1, 0⟩] scope pos) (uLc2 ui gt ut ui1 gt1 ut1 ue (own.map (·.2)) vs1) :=
  ⟨_, pe_lc2 hc hN hi.can ok hv (fun s H C cl fp => (hg s H C cl fp).can) (fun s H C cl fp => (ht s H C cl fp).ps) (fun s H C cl fp => (hi1 s H C cl fp).can) (fun s H C cl fp => (hg1 s H C cl fp).can) (fun s H C cl fp => (ht1 s H C cl fp).ps) (fun s H C cl fp => (he s H C cl fp).can) hs hs1,
    fun ρ σ g H Q P I R hu hP => lift_lc2 ((hg X.s_0 H 0 [] []).on) ((hg1 X.s_0 H 0 [] []).on) I R hu hP⟩
theorem js_setLc2 {i : Nat} {y : Str} {py : Pos} {elt tg iter tg1 iter1 : Expr} {ifs ifs1 : List Expr} {scope : Scope} {own : List (Str × Nat)} {vs1 : List Nat} {pos spos : Pos} {ui ui1 : UI} {gt gt1 : UG} {ut ut1 : UT} {ue : UE} (hc : X.calm = true) (hN : X.N.Nodup) (hy : X.N[i]? = some y) (hyl : X.env.scope.names.lookup y = some .local)
    (hsw : swapsWith (.ListComp elt [⟨tg, iter, ifs, 0⟩, ⟨tg1, iter1, ifs1, 0⟩] scope pos) (some (.Name y py)) spos.line X.env = pure true) (hi : JI S X tg iter ui) (ok : BlkOk X.N X.env.scope scope own) (hv : ∀ i ∈ vs1, i ∈ own.map (·.2))
    (hg : ∀ (s : Shared) (H : Hp) (C : Addr) (cl : List (Str × Addr)) (fp : List Addr), JG S (X.blk s H scope (compEnvC scope cl C X.env) fp) tg gt (own.map (·.2))) (ht : ∀ (s : Shared) (H : Hp) (C : Addr) (cl : List (Str × Addr)) (fp : List Addr), JTs S (X.blk s H scope (compEnvC scope cl C X.env) fp) ifs ut)
    (hi1 : ∀ (s : Shared) (H : Hp) (C : Addr) (cl : List (Str × Addr)) (fp : List Addr), JI S (X.blk s H scope (compEnvC scope cl C X.env) fp) tg1 iter1 ui1)
    (hg1 : ∀ (s : Shared) (H : Hp) (C : Addr) (cl : List (Str × Addr)) (fp : List Addr), JG S (X.blk s H scope (compEnvC scope cl C X.env) fp) tg1 gt1 vs1) (ht1 : ∀ (s : Shared) (H : Hp) (C : Addr) (cl : List (Str × Addr)) (fp : List Addr), JTs S (X.blk s H scope (compEnvC scope cl C X.env) fp) ifs1 ut1)
    (he : ∀ (s : Shared) (H : Hp) (C : Addr) (cl : List (Str × Addr)) (fp : List Addr), JE S (X.blk s H scope (compEnvC scope cl C X.env) fp) elt ue) (hs : ∀ x, foldedSetIterable iter X.env x = pure x := by intro _; rfl) (hs1 : ∀ env x, foldedSetIterable iter1 env x = pure x := by intro _ _; rfl) :
    JS S X (.Assign [.Name y py] (.ListComp elt [⟨tg, iter, ifs, 0⟩, ⟨tg1, iter1, ifs1, 0⟩] scope pos) spos) (sAsg i (uLc2 ui gt ut ui1 gt1 ut1 ue (own.map (·.2)) vs1)) :=
  ⟨_, ps_setLc2 hc hN hy hyl hsw hi.can ok hv (fun s H C cl fp => (hg s H C cl fp).can) (fun s H C cl fp => (ht s H C cl fp).ps) (fun s H C cl fp => (hi1 s H C cl fp).can) (fun s H C cl fp => (hg1 s H C cl fp).can) (fun s H C cl fp => (ht1 s H C cl fp).ps) (fun s H C cl fp => (he s H C cl fp).can) hs hs1,
    fun g0 B g H ρ σ D D' I hu gl => asg_core I allM gl (fun ρ σ g H Q P I R hu hP => lift_lc2 ((hg X.s_0 H 0 [] []).on) ((hg1 X.s_0 H 0 [] []).on) I R hu hP) (by rw [vis_all]; exact hu)⟩
end

/-! ### as functions -/
section
variable {M : Type → Type} [Mo M] {α β γ σ : Type} {ρ ρ2 : DEnv} {u ua ub uc ue uk : UE} {ta tb tc t : Bool} {ma mb mc me mo : M D} {ut ut1 : UT} {mt mt1 : M Bool} {ui ui1 : UI} {mi mi1 : M (List D)} {gt gt1 : UG}
  {Ψ : β → Prop} {E : UEnds} {rest us us2 : US} {kf : D → M β} {m m2 : M β} {i j l : Nat}
@[simp] def asT : D → Option Bool
  | .bl b => some b
  | .int i => some (i != 0)
  | .lst ds => some (!ds.isEmpty)
  | .tup ds => some (!ds.isEmpty)
  | .str x => if x.length ≤ sizeLine then some ((x.length : Int) != 0) else none
  | .non => some false
  | _ => none
theorem asT_of {d : D} {b : Bool} {Q : Bool → Prop} (e : asT d = some b) (q : Q b) : isT Q d := by
  cases d <;> simp only [asT] at e <;> first
    | (cases e; exact q)
    | (split at e <;> rename_i h <;> first | (cases e; exact ⟨h, q⟩) | cases e)
    | cases e
def truM (m : M D) : M Bool := bnd m fun d => ofO (asT d)
@[simp] theorem truM_some (d : D) : truM (M := Option) (some d) = asT d := rfl
@[simp] theorem truM_p (m : P D) (Q : Bool → Prop) : (truM m).p Q = m.p fun d => ∃ b, asT d = some b ∧ Q b := rfl
theorem ti_tru (ha : EI ρ ua ta ma) : TI ρ (uTru ua) (truM ma) := fun Q hq => by
  refine ha _ (Mo.mono (fun x hx => ?_) (rb hq))
  obtain ⟨b, e, q⟩ := run_ofO.mp hx
  exact asT_of e q
theorem ei_notT (ha : EI ρ ua ta ma) : EI ρ (uNotT ua) false (vB (DL.tNot (truM ma))) := fun Q hq => by
  refine ha _ (Mo.mono (fun x hx => ?_) (rb (rb (rb hq))))
  obtain ⟨b, e, q⟩ := run_ofO.mp hx
  exact asT_of e (rr (Q := fun d => Q false d) (rr (a := !b) q))
@[simp] def oRevL : D → Option D
  | .lst ds => some (.lst ds.reverse)
  | _ => none
theorem revL_ok : ∀ x d (Q : UK), oRevL x = some d → Q true d → fRevL x Q := by
  intro x d Q e q
  cases x <;> simp only [oRevL, fRevL] at e ⊢ <;> cases e
  exact q
theorem si_popG {d : D} {k2 : D → D → M β} (hk : ∀ a b, run (k2 a b) Ψ → TG1 gt b (ρ.set i (some (true, a))) (rest E)) (hi : ρ[i]? = some (some (true, d)) := by rfl) : SI Ψ E ρ (sSeq (sMethG i mPop gt) rest) (bndP (popL d) k2) := fun h => by
  obtain ⟨ds, e, h⟩ := run_ofO.mp (rb (rb h))
  have e := asL_eq e
  obtain ⟨p, e2, q⟩ := run_ofO.mp h
  show ownAt ρ i fun ds => ∃ d, ds[ds.length - 1]? = some d ∧ match gt d with
    | some L => rest E (setAll (ρ.set i (some (true, .lst ds.dropLast))) (dset L))
    | none => False
  unfold popO at e2
  split at e2
  · rename_i d' hd
    cases e2
    obtain ⟨L, hL, hq⟩ := hk _ _ q
    exact own_of hi e ⟨d', hd, by rw [hL]; exact hq⟩
  · cases e2
/-- [x.pop(e) for ..] -/
def popG (f : D → D → M (D × D)) : List D → D → M (List D)
  | [], _ => ret []
  | d :: r, s => bnd (f d s) fun p => bnd (popG f r p.1) fun ys => ret (p.2 :: ys)
theorem popU_of {f : D → D → M (D × D)} {mk : D → DEnv} {K : List D → Prop} (hm : ∀ s, (mk s)[i]? = some (some (true, s))) (hset : ∀ s s', (mk s).set i (some (true, s')) = mk s')
    (hb : ∀ (d s : D) (Q : D → D → Prop), (∃ ds, s = .lst ds) → run (f d s) (fun p => Q p.1 p.2) → TG1 gt d (mk s) fun ρ2 => ue ρ2 fun _ kd => ∃ ds, s = .lst ds ∧ mPopAt ds [kd] fun ds' y => Q (.lst ds') y) : ∀ (ds acc : List D) (s : D), (∃ l, s = .lst l) → run (popG f ds s) (fun ys => K (acc ++ ys)) → popU i gt ue ds (mk s) acc K
  | [], acc, s, _, h => by
    have h := rr (Q := fun ys => K (acc ++ ys)) h
    rw [List.append_nil] at h
    rw [popU]; exact h
  | d :: r, acc, s, ⟨l, hl⟩, h => by
    subst hl
    obtain ⟨L, hL, hu⟩ := hb d (.lst l) (fun s' y => (∃ l', s' = .lst l') → popU i gt ue r (mk s') (acc ++ [y]) K) ⟨l, rfl⟩ (Mo.mono (fun p hp hp2 => popU_of hm hset hb r (acc ++ [p.2]) p.1 hp2 (Mo.mono (fun ys h => by
      have h := rr (Q := fun ys => K (acc ++ ys)) h
      rw [List.append_assoc]; exact h) (rb hp))) (rb h))
    unfold popU
    rw [hL]
    refine ⟨by unfold ownAt; rw [hm]; trivial, ?_⟩
    have e : (fun (_ : Bool) kd => ∃ ds, D.lst l = .lst ds ∧ mPopAt ds [kd] fun ds' y => (∃ l', D.lst ds' = .lst l') → popU i gt ue r (mk (.lst ds')) (acc ++ [y]) K) = fun _ kd => ownAt (mk (.lst l)) i fun ds => mPopAt ds [kd] fun ds' y => popU i gt ue r ((mk (.lst l)).set i (some (true, .lst ds'))) (acc ++ [y]) K := by
      funext _ kd
      unfold ownAt
      rw [hm]
      refine propext ⟨fun ⟨ds, e1, h⟩ => ?_, fun h => ⟨l, rfl, ?_⟩⟩
      · cases e1
        have e2 : (fun ds' y => (∃ l', D.lst ds' = .lst l') → popU i gt ue r (mk (.lst ds')) (acc ++ [y]) K) = fun ds' y => popU i gt ue r ((mk (.lst l)).set i (some (true, .lst ds'))) (acc ++ [y]) K := by
          funext ds' y
          rw [hset]
          exact propext ⟨fun h => h ⟨_, rfl⟩, fun h _ => h⟩
        rw [e2] at h
        exact h
      · have e2 : (fun ds' y => (∃ l', D.lst ds' = .lst l') → popU i gt ue r (mk (.lst ds')) (acc ++ [y]) K) = fun ds' y => popU i gt ue r ((mk (.lst l)).set i (some (true, .lst ds'))) (acc ++ [y]) K := by
          funext ds' y
          rw [hset]
          exact propext ⟨fun h => h ⟨_, rfl⟩, fun h _ => h⟩
        rw [e2]
        exact h
    rw [← e]
    exact hu
theorem el_popAt {s : D} {Q : D → D → Prop} {m : M D} (he : EI ρ2 ue t m) (h : run (popAtL s m) fun p => Q p.1 p.2) : ue ρ2 fun _ kd => ∃ ds, s = .lst ds ∧ mPopAt ds [kd] fun ds' y => Q (.lst ds') y := by
  obtain ⟨ds, e, h2⟩ := run_ofO.mp (rb h)
  have e := asL_eq e
  subst e
  refine he _ (Mo.mono (fun kd hk => ⟨ds, rfl, ?_⟩) (rb h2))
  obtain ⟨p, e2, q⟩ := run_ofO.mp hk
  unfold popAtO at e2
  cases kd with
  | int k =>
    dsimp only at e2
    split at e2
    · rename_i hb
      cases e3 : ixN ds.length k with
      | none => rw [e3] at e2; cases e2
      | some n =>
        rw [e3] at e2
        cases e4 : ds[n]? with
        | none => simp [e4] at e2
        | some d =>
          simp [e4] at e2
          subst e2
          exact ⟨hb, n, d, e3, e4, q⟩
    · cases e2
  | _ => cases e2
def retPopM (mi : M (List D)) (f : D → D → M (D × D)) (s : D) : M D := bnd (ofO (asL s)) fun _ => bnd mi fun ds => bnd (ofO (chkL ds)) fun ds => bnd (popG f ds s) fun ys => ret (.lst ys)
@[simp] theorem retPopM_p (mi : P (List D)) (f : D → D → P (D × D)) (s : D) (Q : D → Prop) : (retPopM mi f s).p Q = ∃ l, asL s = some l ∧ mi.p fun ds => ∃ ds', chkL ds = some ds' ∧ (popG f ds' s).p fun ys => Q (.lst ys) := rfl
theorem si_retPop {f : D → D → M (D × D)} {mk : D → DEnv} {vs : List Nat} {s : D} {kr : D → M β} (hw : WI ρ ui mi) (hm : ∀ s, (mk s)[i]? = some (some (true, s))) (hset : ∀ s s', (mk s).set i (some (true, s')) = mk s') (h0 : wipeD ρ vs = mk s)
    (hb : ∀ (d s : D) (Q : D → D → Prop), (∃ ds, s = .lst ds) → run (f d s) (fun p => Q p.1 p.2) → TG1 gt d (mk s) fun ρ2 => ue ρ2 fun _ kd => ∃ ds, s = .lst ds ∧ mPopAt ds [kd] fun ds' y => Q (.lst ds') y)
    (hk : ∀ d, run (kr d) Ψ → E.rt true d) (hi : ρ[i]? = some (some (true, s)) := by rfl) : SI Ψ E ρ (sSeq (sRetPop i ui gt ue vs) sNext) (bnd (retPopM mi f s) kr) := fun h => by
  obtain ⟨l, e, h⟩ := run_ofO.mp (rb (rb h))
  have e := asL_eq e
  refine ⟨own_of hi e trivial, hw _ (Mo.mono (fun ds hd => ?_) (rb h))⟩
  obtain ⟨ds', e, q⟩ := run_ofO.mp (rb hd)
  obtain ⟨hl, rfl⟩ := chk_of e
  refine ⟨hl, ?_⟩
  rw [h0]
  refine popU_of hm hset hb _ [] s ⟨l, by assumption⟩ (Mo.mono (fun ys hy => ?_) (rb q))
  exact hk _ (rr (Q := fun d => run (kr d) Ψ) hy)
/-! two clauses -/
@[simp] def chk4 (ds : List D) : Option (List D) := if ds.length ≤ 4000 then some ds else none
theorem chk4_of {ds ds' : List D} (e : chk4 ds = some ds') : ds.length ≤ 4000 ∧ ds' = ds := by
  unfold chk4 at e
  split at e
  · rename_i h; cases e; exact ⟨h, rfl⟩
  · cases e
theorem chk4_ok {ds : List D} (h : ds.length ≤ 4000) : chk4 ds = some ds := if_pos h
def in4M (mi : M (List D)) (f : D → M D) : M (List D) := bnd mi fun ds => bnd (ofO (chk4 ds)) fun ds => mapG f ds
def in4F (mi : M (List D)) (f : D → M (Option D)) : M (List D) := bnd mi fun ds => bnd (ofO (chk4 ds)) fun ds => filG f ds
@[simp] theorem in4M_some (ds : List D) (f : D → Option D) : in4M (some ds) f = (chk4 ds).bind (mapG f) := rfl
@[simp] theorem in4F_some (ds : List D) (f : D → Option (Option D)) : in4F (some ds) f = (chk4 ds).bind (filG f) := rfl
def catG (f : D → M (List D)) : List D → M (List D)
  | [] => ret []
  | d :: r => bnd (f d) fun a => bnd (catG f r) fun ys => ret (a ++ ys)
theorem catG_some {f : D → Option (List D)} {g : D → List D} : ∀ {ds : List D}, (∀ d ∈ ds, f d = some (g d)) → catG f ds = some (ds.flatMap g)
  | [], _ => rfl
  | d :: r, h => by
    show (f d).bind (fun a => (catG f r).bind fun ys => some (a ++ ys)) = _
    rw [h d (List.mem_cons_self ..), catG_some fun x hx => h x (List.mem_cons_of_mem _ hx)]
    rfl
def lc2M (mi : M (List D)) (f : D → M (List D)) : M (List D) := bnd mi fun ds => bnd (ofO (chk4 ds)) fun ds => catG f ds
@[simp] theorem lc2M_some (ds : List D) (f : D → Option (List D)) : lc2M (some ds) f = (chk4 ds).bind (catG f) := rfl
def In2 (ρ2 : DEnv) (ui1 : UI) (gt1 : UG) (ut1 : UT) (ue : UE) (vs1 : List Nat) (m : M (List D)) : Prop := ∀ (acc : List D) (K : List D → Prop), run m (fun a => K (acc ++ a)) → ui1 ρ2 fun es => es.length ≤ 4000 ∧ lcU (wipeD ρ2 vs1) gt1 ut1 ue es acc K
theorem in2_map {f : D → M D} {vs1 : List Nat} (hw : WI ρ2 ui1 mi1) (hb : ∀ (d : D) (Q : D → Prop), run (f d) Q → TG1 gt1 d (wipeD ρ2 vs1) fun ρ3 => ue ρ3 fun _ y => Q y) : In2 ρ2 ui1 gt1 uYes ue vs1 (in4M mi1 f) := fun acc K h => by
  refine hw _ (Mo.mono (fun ds hd => ?_) (rb h))
  obtain ⟨ds', e, q⟩ := run_ofO.mp (rb hd)
  obtain ⟨hl, rfl⟩ := chk4_of e
  exact ⟨hl, lcU_map (ue := ue) hb _ acc q⟩
theorem in2_fil {f : D → M (Option D)} {vs1 : List Nat} (hw : WI ρ2 ui1 mi1) (hb : ∀ (d : D) (Q : Option D → Prop), run (f d) Q → TG1 gt1 d (wipeD ρ2 vs1) fun ρ3 => ut1 ρ3 fun b => if b = true then ue ρ3 fun _ y => Q (some y) else Q none) : In2 ρ2 ui1 gt1 ut1 ue vs1 (in4F mi1 f) := fun acc K h => by
  refine hw _ (Mo.mono (fun ds hd => ?_) (rb h))
  obtain ⟨ds', e, q⟩ := run_ofO.mp (rb hd)
  obtain ⟨hl, rfl⟩ := chk4_of e
  exact ⟨hl, lcU_fil (ue := ue) hb _ acc q⟩
theorem el2_yes {vs1 : List Nat} {m : M (List D)} {acc : List D} {K : List D → Prop} (hi : In2 ρ2 ui1 gt1 ut1 ue vs1 m) (h : run m (fun a => K (acc ++ a))) : uYes ρ2 fun b => if b = true then ui1 ρ2 fun es => es.length ≤ 4000 ∧ lcU (wipeD ρ2 vs1) gt1 ut1 ue es acc K else K acc := hi acc K h
theorem el2_when {vs1 : List Nat} {m : M (List D)} {acc : List D} {K : List D → Prop} (ht : TI ρ2 ut mt) (hi : In2 ρ2 ui1 gt1 ut1 ue vs1 m) (h : run (ite3 mt m (ret [])) (fun a => K (acc ++ a))) : ut ρ2 fun b => if b = true then ui1 ρ2 fun es => es.length ≤ 4000 ∧ lcU (wipeD ρ2 vs1) gt1 ut1 ue es acc K else K acc :=
  ht _ (Mo.mono (fun b hb => by
    cases b with
    | true => exact hi acc K hb
    | false =>
      have := rr (Q := fun a => K (acc ++ a)) (a := []) hb
      rw [List.append_nil] at this
      exact this) (rb h))
theorem lc2U_of {ρ' : DEnv} {vs1 : List Nat} {f : D → M (List D)} {K : List D → Prop} (hb : ∀ (d : D) (acc : List D) (K : List D → Prop), run (f d) (fun a => K (acc ++ a)) → TG1 gt d ρ' fun ρ2 => ut ρ2 fun b => if b = true then ui1 ρ2 fun es => es.length ≤ 4000 ∧ lcU (wipeD ρ2 vs1) gt1 ut1 ue es acc K else K acc) : ∀ (ds acc : List D), run (catG f ds) (fun ys => K (acc ++ ys)) → lc2U gt ut ui1 gt1 ut1 ue vs1 ρ' ds acc K
  | [], acc, h => by
    have h := rr (Q := fun ys => K (acc ++ ys)) h
    rw [List.append_nil] at h
    rw [lc2U]; exact h
  | d :: r, acc, h => by
    obtain ⟨L, hL, hu⟩ := hb d acc (fun ys' => lc2U gt ut ui1 gt1 ut1 ue vs1 ρ' r ys' K) (Mo.mono (fun a ha => lc2U_of hb r (acc ++ a) (Mo.mono (fun ys h => by
      have h := rr (Q := fun ys => K (acc ++ ys)) h
      rw [List.append_assoc]; exact h) (rb ha))) (rb h))
    unfold lc2U
    rw [hL]
    exact hu
theorem ei_lc2 {vs vs1 : List Nat} {f : D → M (List D)} (hw : WI ρ ui mi) (hb : ∀ (d : D) (acc : List D) (K : List D → Prop), run (f d) (fun a => K (acc ++ a)) → TG1 gt d (wipeD ρ vs) fun ρ2 => ut ρ2 fun b => if b = true then ui1 ρ2 fun es => es.length ≤ 4000 ∧ lcU (wipeD ρ2 vs1) gt1 ut1 ue es acc K else K acc) : EI ρ (uLc2 ui gt ut ui1 gt1 ut1 ue vs vs1) true (lstM (lc2M mi f)) := fun Q hq => by
  refine hw _ (Mo.mono (fun ds hd => ?_) (rb (rb hq)))
  obtain ⟨ds', e, q⟩ := run_ofO.mp (rb hd)
  obtain ⟨hl, rfl⟩ := chk4_of e
  exact ⟨hl, lc2U_of hb _ [] (Mo.mono (fun ys h => rr (Q := fun d => Q true d) h) q)⟩
/-! five names -/
def un5 (d : D) (k : D → D → D → D → D → M γ) : M γ := match d with
  | .tup [a, b, c, e, f] => k a b c e f
  | _ => fail
@[simp] theorem un5_tup (a b c e f : D) (k : D → D → D → D → D → M γ) : un5 (.tup [a, b, c, e, f]) k = k a b c e f := rfl
theorem un5_run {d : D} {k : D → D → D → D → D → M γ} {Q : γ → Prop} (h : run (un5 d k) Q) : ∃ a b c e f, d = .tup [a, b, c, e, f] ∧ run (k a b c e f) Q := by
  unfold un5 at h
  split at h
  · exact ⟨_, _, _, _, _, rfl, h⟩
  · exact (run_fail h).elim
theorem tg_5 {i j l n o : Nat} {d : D} {G : DEnv → Prop} {k : D → D → D → D → D → M γ} {Q : γ → Prop} (h : run (un5 d k) Q) (hk : ∀ a b c e f, run (k a b c e f) Q → G (((((ρ.set i (some (false, a))).set j (some (false, b))).set l (some (false, c))).set n (some (false, e))).set o (some (false, f)))) : TG1 (gT [gN i, gN j, gN l, gN n, gN o]) d ρ G := by
  obtain ⟨a, b, c, e, f, rfl, h⟩ := un5_run h
  exact ⟨_, rfl, hk a b c e f h⟩
theorem tgs_5 {d : D} {n o : Nat} {k : D → D → D → D → D → M γ} {Q : γ → Prop} (h : run (un5 d k) Q) (hk : ∀ a b c e f, SI Q E (((((ρ.set i (some (false, a))).set j (some (false, b))).set l (some (false, c))).set n (some (false, e))).set o (some (false, f))) us (k a b c e f)) : TG1 (gT [gN i, gN j, gN l, gN n, gN o]) d ρ (us E) := tg_5 h hk
end
end DL

/-! DLNew2: x = e if c else x; a, b, c = .. with own lists; xs += ys; x[i], y[j] = a, b. -/
namespace DL
open PySem PySem.Spec PyProof.Rows L2
open Mo (ret bnd ofO run run_ret run_bnd run_ofO)

section
variable {S : Src} {g0 g : G} {B H : Hp} {ρ : DEnv} {σ : L2.St}
theorem SInv.at_ (I : SInv S g0 B g H ρ σ) {i : Nat} {y : Bool × D} (h : ρ[i]? = some (some y)) : ∃ v, σ[i]? = some (some v) := by
  obtain ⟨t, d⟩ := y
  cases t with
  | true =>
    obtain ⟨a, _, _, e, _⟩ := I.own i d h
    exact ⟨_, e⟩
  | false =>
    obtain ⟨v, e, _⟩ := I.imm i d h
    exact ⟨v, e⟩
theorem set_same {α : Type} {l : List α} {i : Nat} {x : α} (h : l[i]? = some x) : l.set i x = l := by
  apply List.ext_getElem?
  intro j
  by_cases e : i = j
  · subst e
    rw [List.getElem?_set_self (List.getElem?_eq_some_iff.mp h).1, h]
  · rw [List.getElem?_set_ne e]
/-- an index is told while other values are at hand -/
theorem SInv.intP {τ : DEnv} {υ : L2.St} (I : SInv S g0 B g H (ρ ++ τ) (σ ++ υ)) (hl : ρ.length = σ.length) {u : UE} {te : TE} {Q : Int → Prop} {P : VK}
    (h : ∀ (ρ : DEnv) (σ : L2.St) (g : G) (H : Hp) (Q : UK) (P : VK), HInv S g H → RepS g H ρ σ → u ρ Q → (∀ v H', EPost S g H Q v H' → P v H') → te σ H P) (hu : u ρ fun _ k => isI Q k)
    (hP : ∀ k H' g', SInv S g0 B g' H' (ρ ++ τ) (σ ++ υ) → Q k → P (.int k) H') : te σ H P := by
  obtain ⟨gv, Iv, Rv, fin⟩ := I.view allM
  have Rv' : RepS gv H ρ σ := by
    rw [vis_all] at Rv
    refine ⟨hl, fun j t d e => ?_⟩
    have hj : j < ρ.length := (List.getElem?_eq_some_iff.mp e).1
    obtain ⟨v, hv, r⟩ := Rv.get j t d (by rw [List.getElem?_append_left hj]; exact e)
    rw [List.getElem?_append_left (by rw [← hl]; exact hj)] at hv
    exact ⟨v, hv, r⟩
  refine h ρ σ gv H _ _ Iv Rv' hu fun v H' e => ?_
  obtain ⟨g', d, s, I', r, _, q⟩ := e.rep
  obtain ⟨_, g2, f2, _⟩ := fin g' H' s I'
  cases d with
  | int k =>
    rw [Rep] at r
    subst r
    exact hP k H' g2 f2 q
  | _ => exact (show False from q).elim
/-- the names in L are assigned later: an expression that speaks of none of them -/
theorem SInv.stage {σ' : L2.St} {L : List Nat} (I : SInv S g0 B g H ρ σ') (hl : σ'.length = σ.length) (hσ : ∀ k, k ∉ L → σ'[k]? = σ[k]?) {u : UE} {te : TE} {Q : UK} {P : VK}
    (h : ∀ (ρ : DEnv) (σ : L2.St) (g : G) (H : Hp) (Q : UK) (P : VK), HInv S g H → RepS g H ρ σ → u ρ Q → (∀ v H', EPost S g H Q v H' → P v H') → te σ H P)
    (hu : u (wipeD (vis (fun k => !L.contains k) ρ) L) Q)
    (hP : ∀ v H' t d g', SInv S g0 B g' H' (settle (fun k => !L.contains k) t d ρ) σ' → RepT g' H' t d v → (t = true → ∀ a, v = .ref a → H a = none) → Q t d → P v H') : te σ H P := by
  obtain ⟨gv, Iv, Rv, fin⟩ := I.view fun k => !L.contains k
  have Rv' : RepS gv H (wipeD (vis (fun k => !L.contains k) ρ) L) σ := ⟨by rw [wipeD_len, Rv.len]; exact hl, fun k t d e => by
    obtain ⟨e1, e2⟩ := wipeD_some e
    obtain ⟨v, hv, r⟩ := Rv.get k t d e1
    rw [hσ k e2] at hv
    exact ⟨v, hv, r⟩⟩
  refine h _ σ gv H _ _ Iv Rv' hu fun v H' e => ?_
  obtain ⟨t, d, g', I', r, f, q⟩ := SInv.settled fin e
  exact hP v H' t d g' I' r f q
theorem SInv.hold (I : SInv S g0 B g H ρ σ) {t : Bool} {v : V} (f : t = true → ∀ a, v = .ref a → H a = none) {ρ' : DEnv} {H' : Hp} {g' : G} {k : Nat} (hρ : ∀ (j : Nat) (e : D), ρ'[j]? = some (some (true, e)) → ρ[j]? = some (some (true, e))) : t = true → ∀ a, v = .ref a → B a = none ∧ ∀ (j : Nat) (e : D), ρ'[j]? = some (some (true, e)) → σ[j]? = some (some (V.ref a)) → j = k := fun z a ea => by
  refine ⟨I.st.free (f z a ea), fun j e h3 h4 => ?_⟩
  obtain ⟨a', xs, ds, e1, _, e2, _⟩ := I.own j e (hρ j e h3)
  rw [h4] at e1
  cases e1
  rw [f z a ea] at e2
  cases e2
end

/-! ### x = e if c else x -/
/-- something is known of the name i -/
def sHas (i : Nat) (u : US) (D : UEnds) (ρ : DEnv) : Prop := (∃ y, ρ[i]? = some (some y)) ∧ u D ρ
/-- nothing happens -/
def Skip (S : Src) (ur : US) : Prop := ∀ (g0 : G) (B : Hp) (g : G) (H : Hp) (ρ : DEnv) (σ : L2.St) (D : UEnds) (D' : Ends), SInv S g0 B g H ρ σ → ur D ρ → Glue S g0 B D D' → D'.nx σ H
theorem skip_nx {S : Src} : Skip S sNext := fun g0 B g H ρ σ D D' I h gl => gl.nx g H ρ σ I h
theorem skip_body {S : Src} {ur : US} (h : Skip S ur) : Skip S (sBody ur) := fun g0 B g H ρ σ D D' I ⟨D0, ρ1, hl, hD, hu⟩ gl => h g0 B g H ρ1 σ D0 D' (I.le hl) hu (gl.le hD)
section
variable {S : Src} {X : Cx} {pos : Pos}
theorem js_asgIf {ur : US} {i : Nat} {x : Str} {c a : Expr} {uc : UT} {ua : UE} {p1 p2 pos' : Pos} (hN : X.N.Nodup) (hc : JT S X c uc) (ha : JE S X a ua) (hi : X.N[i]? = some x := by rfl) (hx : Loc X.env.scope x := by first | exact Or.inl rfl | exact Or.inr rfl)
    (hv : Vis X.env.scope x := by first | exact Or.inl rfl | exact Or.inr (Or.inl rfl) | exact Or.inr (Or.inr rfl)) (hd : (x == ("__debug__" : Str)) = false := by decide) (hcd : (x == ("__classdict__" : Str)) = false := by decide)
    (hs : swapsWith (.IfExp c a (.Name x p1) p2) (some (.Name x pos')) pos.line X.env = pure false := by rfl) (hf : X.fn x = true ∨ X.env.scope.names.lookup x = some .local := by first | exact .inl rfl | exact .inr rfl | assumption)
    (hr : Skip S ur := by first | exact skip_nx | exact skip_body skip_nx) : JS S X (.Assign [.Name x pos'] (.IfExp c a (.Name x p1) p2) pos) (sHas i (sIf uc (sSeq (sAsg i ua) ur) sNext)) := by
  obtain ⟨tc, pc, hc⟩ := hc.ex
  obtain ⟨t1, p1', h1⟩ := ha.ex
  refine ⟨_, ps_set hN hi hx (pe_ifExp pc p1' (pv i hi hv hd hcd)) hs hf, fun g0 B g H ρ σ E E' I hu gl => ?_⟩
  obtain ⟨⟨y, hy⟩, hu⟩ := hu
  show tc σ H fun k H1 => if k = true then t1 σ H1 (fun v H2 => E'.nx (σ.set i (some v)) H2) else tVar i σ H1 (fun v H2 => E'.nx (σ.set i (some v)) H2)
  refine I.test hc hu fun b H' g' I' q => ?_
  cases b with
  | true =>
    simp only [if_true]
    exact asg_core (D := { E with nx := ur E }) (D' := E') I' allM ⟨fun g H ρ σ I h => hr g0 B g H ρ σ E E' I h gl, gl.rt, gl.bk, gl.ct⟩ h1 (by rw [vis_all]; exact q)
  | false =>
    simp only [Bool.false_eq_true, if_false]
    obtain ⟨v, hv⟩ := I'.at_ hy
    refine ⟨v, hv, ?_⟩
    dsimp only
    rw [set_same hv]
    exact gl.nx g' H' ρ σ I' q

/-! ### a, b, c = x, y, z with own lists -/
abbrev notL (L : List Nat) : Nat → Bool := fun k => !L.contains k
def sPar3G (i j l : Nat) (u1 u2 u3 : UE) (D : UEnds) (ρ : DEnv) : Prop := u1 ρ fun t1 d1 => u2 (wipeD (vis (notL [i]) ((settle allM t1 d1 ρ).set i (some (t1, d1)))) [i]) fun t2 d2 =>
  u3 (wipeD (vis (notL [i, j]) ((settle (notL [i]) t2 d2 ((settle allM t1 d1 ρ).set i (some (t1, d1)))).set j (some (t2, d2)))) [i, j]) fun t3 d3 =>
    D.nx ((settle (notL [i, j]) t3 d3 ((settle (notL [i]) t2 d2 ((settle allM t1 d1 ρ).set i (some (t1, d1)))).set j (some (t2, d2)))).set l (some (t3, d3)))
theorem js_par3G {i j l : Nat} {x y z : Str} {a b c : Expr} {u1 u2 u3 : UE} {px py pz pt : Pos} {kt k2 pt2} (hc : X.calm = true) (hN : X.N.Nodup) (ha : JE S X a u1) (hb : JE S X b u2) (hcc : JE S X c u3) (hi : X.N[i]? = some x := by rfl) (hj : X.N[j]? = some y := by rfl) (hl : X.N[l]? = some z := by rfl) (hij : i ≠ j := by decide) (hil : i ≠ l := by decide) (hjl : j ≠ l := by decide)
    (hx : X.env.scope.names.lookup x = some .local := by rfl) (hy : X.env.scope.names.lookup y = some .local := by rfl) (hz : X.env.scope.names.lookup z = some .local := by rfl)
    (hs1 : starEach [a, b, c] X.env = (false, eval a X.env) :: starEach [b, c] X.env := by rfl) (hs2 : starEach [b, c] X.env = (false, eval b X.env) :: starEach [c] X.env := by rfl) (hs3 : starEach [c] X.env = (false, eval c X.env) :: starEach [] X.env := by rfl)
    (hw : swappedStores [.Tuple [.Name x px, .Name y py, .Name z pz] kt pt] (.Tuple [a, b, c] k2 pt2) X.env = pure (some [x, y, z]) := by rfl)
    (hs : swapsWithSole [.Tuple [.Name x px, .Name y py, .Name z pz] kt pt] (.Tuple [a, b, c] k2 pt2) pos.line X.env = pure false := by rfl) :
    JS S X (.Assign [.Tuple [.Name x px, .Name y py, .Name z pz] kt pt] (.Tuple [a, b, c] k2 pt2) pos) (sPar3G i j l u1 u2 u3) := by
  obtain ⟨t1, p1, h1⟩ := ha.ex
  obtain ⟨t2, p2, h2⟩ := hb.ex
  obtain ⟨t3, p3, h3⟩ := hcc.ex
  refine ⟨_, ps_par3 hc hN hi hj hl hij hil hjl hx hy hz (pa_cons p1 (pa_cons p2 (pa_cons p3 pa_nil hs3) hs2) hs1) hw hs, fun g0 B g H ρ σ E E' I hu gl => ?_⟩
  refine I.expr allM h1 (by rw [vis_all]; exact hu) fun v1 H1 tt1 d1 g1 I1 r1 f1 hth q1 => ?_
  have I1s := I1.set (i := i) r1 (I.hold f1 (ρ' := settle allM tt1 d1 ρ) (H' := H) (g' := g) fun j e h => settle_own h)
  refine SInv.stage (σ := σ) (L := [i]) I1s (by rw [List.length_set]) (fun k hk => List.getElem?_set_ne (fun e => hk (by rw [e]; exact List.mem_singleton.mpr rfl))) h2 q1 fun v2 H2 tt2 d2 g2 I2 r2 f2 q2 => ?_
  have I2s := I2.set (i := j) r2 (I1s.hold f2 (H' := H) (g' := g) fun j e h => settle_own h)
  refine SInv.stage (σ := σ) (L := [i, j]) I2s (by rw [List.length_set, List.length_set]) (fun k hk => by
    rw [List.getElem?_set_ne (fun e => hk (by rw [e]; simp)), List.getElem?_set_ne (fun e => hk (by rw [e]; simp))]) h3 q2 fun v3 H3 tt3 d3 g3 I3 r3 f3 q3 => ?_
  have I3s := I3.set (i := l) r3 (I2s.hold f3 (H' := H) (g' := g) fun j e h => settle_own h)
  exact ⟨v1, v2, v3, rfl, gl.nx g3 H3 _ _ I3s q3⟩

/-! ### xs += ys -/
def sAugL (M : Nat → Bool) (i : Nat) (u : UE) (D : UEnds) (ρ : DEnv) : Prop := ownAt ρ i (fun _ => True) ∧ u (vis M ρ) fun t d => ownAt (settle M t d ρ) i fun ds => ∃ zs, d = .lst zs ∧ ds.length + zs.length ≤ sizeLine ∧ D.nx ((settle M t d ρ).set i (some (true, .lst (ds ++ zs))))
theorem js_augL (M : Nat → Bool) {i : Nat} {x : Str} {e : Expr} {ue : UE} {pos' : Pos} (hN : X.N.Nodup) (he : JE S X e ue) (hi : X.N[i]? = some x := by rfl) (hx : Loc X.env.scope x := by first | exact Or.inl rfl | exact Or.inr rfl) (hf : X.fn x = true ∨ X.env.scope.names.lookup x = some .local := by first | exact .inl rfl | exact .inr rfl | assumption) :
    JS S X (.AugAssign (.Name x pos') .Add e pos) (sAugL M i ue) := by
  obtain ⟨t, p, h⟩ := he.ex
  refine ⟨_, ps_aug hN hi hx p iop_ext hf, fun g0 B g H ρ σ E E' I hu gl => ?_⟩
  obtain ⟨ho, hu⟩ := hu
  obtain ⟨ds0, e0, _⟩ := ownAt_of ho
  obtain ⟨a, _, _, ea, _⟩ := I.own i _ e0
  refine ⟨.ref a, ea, ?_⟩
  refine I.expr M h hu fun v H' t d g' I' r f _ q => ?_
  obtain ⟨ds, e1, zs, rfl, hz, q⟩ := ownAt_of q
  obtain ⟨a', xs, ds', ea', h0, k1, k2, k3, k4, k5⟩ := I'.own i _ e1
  cases h0
  rw [ea] at ea'
  cases ea'
  have hb : ∃ b ys, v = .ref b ∧ H' b = some (.lst ys) ∧ RepL g' H' zs ys := by
    cases t with
    | true =>
      obtain ⟨b, ys, zs', rfl, e2, h1, _, _, l⟩ := r
      cases e2
      exact ⟨b, ys, rfl, h1, l⟩
    | false =>
      have r : Rep g' H' (.lst zs) v := r
      rw [Rep] at r
      obtain ⟨b, ys, rfl, r, l⟩ := r
      exact ⟨b, ys, rfl, r.1, l⟩
  obtain ⟨b, ys, rfl, hb, lb⟩ := hb
  refine ⟨a, b, xs, ys, rfl, rfl, k1, hb, by rw [k5.len, lb.len]; exact hz, ?_⟩
  dsimp only
  rw [set_same ea]
  exact gl.nx g' _ _ _ (I'.put e1 ea (k5.append lb)) q

/-! ### x[i], y[j] = a, b -/
def sSetIx2 (i1 i2 : Nat) (ua : UA) (uk1 uk2 : UE) (D : UEnds) (ρ : DEnv) : Prop := ua ρ fun vs => ∃ d1 d2, vs = [d1, d2] ∧ noLst d1 = true ∧ noLst d2 = true ∧ ownAt ρ i1 (fun _ => True) ∧ uk1 ρ fun _ k => isI (fun k => ownAt ρ i1 fun ds => ∃ j, ixN ds.length k = some j ∧
  ownAt (ρ.set i1 (some (true, .lst (ds.set j d1)))) i2 (fun _ => True) ∧ uk2 (ρ.set i1 (some (true, .lst (ds.set j d1)))) fun _ k2 => isI (fun k2 => ownAt (ρ.set i1 (some (true, .lst (ds.set j d1)))) i2 fun ds2 => ∃ j2, ixN ds2.length k2 = some j2 ∧ D.nx ((ρ.set i1 (some (true, .lst (ds.set j d1)))).set i2 (some (true, .lst (ds2.set j2 d2))))) k2) k
theorem js_setIx2 {i1 i2 : Nat} {x1 x2 : Str} {a b ek1 ek2 : Expr} {ua : UA} {uk1 uk2 : UE} {q1 q2 pt1 pt2 pt ptv : Pos} {kt kv} (hc : X.calm = true) (he : JA S X [a, b] ua) (hk1 : JE S X ek1 uk1) (hk2 : JE S X ek2 uk2) (hi1 : X.N[i1]? = some x1) (hi2 : X.N[i2]? = some x2)
    (hv : Vis X.env.scope x1 := by first | exact Or.inl rfl | exact Or.inr (Or.inl rfl) | exact Or.inr (Or.inr rfl)) (hd : (x1 == ("__debug__" : Str)) = false := by decide) (hcd : (x1 == ("__classdict__" : Str)) = false := by decide)
    (hv2 : Vis X.env.scope x2 := by first | exact Or.inl rfl | exact Or.inr (Or.inl rfl) | exact Or.inr (Or.inr rfl)) (hd2 : (x2 == ("__debug__" : Str)) = false := by decide) (hcd2 : (x2 == ("__classdict__" : Str)) = false := by decide)
    (hs : swapsWithSole [.Tuple [.Subscript (.Name x1 q1) ek1 pt1, .Subscript (.Name x2 q2) ek2 pt2] kt pt] (.Tuple [a, b] kv ptv) pos.line X.env = pure false := by rfl) (hw : swappedStores [.Tuple [.Subscript (.Name x1 q1) ek1 pt1, .Subscript (.Name x2 q2) ek2 pt2] kt pt] (.Tuple [a, b] kv ptv) X.env = pure none := by rfl)
    (h1 : (assignEach [.Tuple [.Subscript (.Name x1 q1) ek1 pt1, .Subscript (.Name x2 q2) ek2 pt2] kt pt] X.env).map (·.2) = [assign (.Tuple [.Subscript (.Name x1 q1) ek1 pt1, .Subscript (.Name x2 q2) ek2 pt2] kt pt) X.env] := by rfl)
    (hn : (assignEach [.Subscript (.Name x1 q1) ek1 pt1, .Subscript (.Name x2 q2) ek2 pt2] X.env).length = 2 := by rfl) (hst : (assignEach [.Subscript (.Name x1 q1) ek1 pt1, .Subscript (.Name x2 q2) ek2 pt2] X.env).findIdx? (·.1) = none := by rfl)
    (hg1 : (assignEach [.Subscript (.Name x1 q1) ek1 pt1, .Subscript (.Name x2 q2) ek2 pt2] X.env).map (·.2) = assign (.Subscript (.Name x1 q1) ek1 pt1) X.env :: (assignEach [.Subscript (.Name x2 q2) ek2 pt2] X.env).map (·.2) := by rfl)
    (hg2 : (assignEach [.Subscript (.Name x2 q2) ek2 pt2] X.env).map (·.2) = assign (.Subscript (.Name x2 q2) ek2 pt2) X.env :: (assignEach [] X.env).map (·.2) := by rfl)
    (hsub1 : ∀ v, assign (.Subscript (.Name x1 q1) ek1 pt1) X.env v = (do
      let ov ← holding [v] (eval (.Name x1 q1) X.env)
      let iv ← holding [v, ov] (eval ek1 X.env)
      standAt pt1
      holding [v, ov, iv] (setItem ov iv v)
      release [v, ov, iv] []) := by intro _; rfl)
    (hsub2 : ∀ v, assign (.Subscript (.Name x2 q2) ek2 pt2) X.env v = (do
      let ov ← holding [v] (eval (.Name x2 q2) X.env)
      let iv ← holding [v, ov] (eval ek2 X.env)
      standAt pt2
      holding [v, ov, iv] (setItem ov iv v)
      release [v, ov, iv] []) := by intro _; rfl) :
    JS S X (.Assign [.Tuple [.Subscript (.Name x1 q1) ek1 pt1, .Subscript (.Name x2 q2) ek2 pt2] kt pt] (.Tuple [a, b] kv ptv) pos) (sSetIx2 i1 i2 ua uk1 uk2) := by
  obtain ⟨t, p, h⟩ := (je_tup (pos := ptv) (k := kv) he).ex
  obtain ⟨tk1, pk1, hk1⟩ := hk1.ex
  obtain ⟨tk2, pk2, hk2⟩ := hk2.ex
  refine ⟨_, ps_asg p (pg_tup hc (pgs_cons (pg_sub (pv i1 hi1 hv hd hcd) pk1 set_list hsub1) (pgs_cons (pg_sub (pv i2 hi2 hv2 hd2 hcd2) pk2 set_list hsub2) pgs_nil hg2) hg1) hn hst) hs hw h1, fun g0 B g H ρ σ E E' I hu gl => ?_⟩
  have hu' : uTup ua ρ fun t d => ∃ d1 d2, d = .tup [d1, d2] ∧ t = false ∧ noLst d1 = true ∧ noLst d2 = true ∧ ownAt ρ i1 (fun _ => True) ∧ uk1 ρ fun _ k => isI (fun k => ownAt ρ i1 fun ds => ∃ j, ixN ds.length k = some j ∧
      ownAt (ρ.set i1 (some (true, .lst (ds.set j d1)))) i2 (fun _ => True) ∧ uk2 (ρ.set i1 (some (true, .lst (ds.set j d1)))) fun _ k2 => isI (fun k2 => ownAt (ρ.set i1 (some (true, .lst (ds.set j d1)))) i2 fun ds2 => ∃ j2, ixN ds2.length k2 = some j2 ∧ E.nx ((ρ.set i1 (some (true, .lst (ds.set j d1)))).set i2 (some (true, .lst (ds2.set j2 d2))))) k2) k := by
    unfold uTup
    have e : (fun vs => ∃ d1 d2, vs = [d1, d2] ∧ noLst d1 = true ∧ noLst d2 = true ∧ ownAt ρ i1 (fun _ => True) ∧ uk1 ρ fun _ k => isI (fun k => ownAt ρ i1 fun ds => ∃ j, ixN ds.length k = some j ∧
      ownAt (ρ.set i1 (some (true, .lst (ds.set j d1)))) i2 (fun _ => True) ∧ uk2 (ρ.set i1 (some (true, .lst (ds.set j d1)))) fun _ k2 => isI (fun k2 => ownAt (ρ.set i1 (some (true, .lst (ds.set j d1)))) i2 fun ds2 => ∃ j2, ixN ds2.length k2 = some j2 ∧ E.nx ((ρ.set i1 (some (true, .lst (ds.set j d1)))).set i2 (some (true, .lst (ds2.set j2 d2))))) k2) k) = fun (xs : List D) => xs.length ≤ sizeLine ∧ ∃ d1 d2, D.tup xs = .tup [d1, d2] ∧ false = false ∧ noLst d1 = true ∧ noLst d2 = true ∧ ownAt ρ i1 (fun _ => True) ∧ uk1 ρ fun _ k => isI (fun k => ownAt ρ i1 fun ds => ∃ j, ixN ds.length k = some j ∧
      ownAt (ρ.set i1 (some (true, .lst (ds.set j d1)))) i2 (fun _ => True) ∧ uk2 (ρ.set i1 (some (true, .lst (ds.set j d1)))) fun _ k2 => isI (fun k2 => ownAt (ρ.set i1 (some (true, .lst (ds.set j d1)))) i2 fun ds2 => ∃ j2, ixN ds2.length k2 = some j2 ∧ E.nx ((ρ.set i1 (some (true, .lst (ds.set j d1)))).set i2 (some (true, .lst (ds2.set j2 d2))))) k2) k := by
      funext xs
      refine propext ⟨fun ⟨d1, d2, e, r⟩ => ⟨by rw [e, sizeLine_eq]; show 2 ≤ 16777216; decide, d1, d2, by rw [e], rfl, r⟩, fun ⟨_, d1, d2, e, _, r⟩ => ⟨d1, d2, by cases e; rfl, r⟩⟩
    rw [← e]
    exact hu
  refine I.expr allM h (by rw [vis_all]; exact hu') fun v H' t d g' I' r f _ q => ?_
  obtain ⟨d1, d2, rfl, rfl, n1, n2, ho, q⟩ := q
  have hse : settle allM false (.tup [d1, d2]) ρ = ρ := if_pos (by show noLst _ = true; simp [n1, n2])
  rw [hse] at I'
  have r : Rep g' H' (.tup [d1, d2]) v := r
  rw [Rep] at r
  obtain ⟨ta, xs, rfl, ra, l⟩ := r
  simp only [RepL] at l
  obtain ⟨v1, r', rfl, r1, v2, r'', rfl, r2, rfl⟩ := l
  have hl := I'.len
  have J0 := (I'.snoc (t := false) (d := d1) (v := v1) r1 (fun z => by cases z)).snoc (t := false) (d := d2) (v := v2) r2 (fun z => by cases z)
  rw [List.append_assoc, List.append_assoc] at J0
  refine ⟨ta, _, rfl, ra.sq, rfl, v1, _, rfl, ?_⟩
  obtain ⟨ds0, e0, _⟩ := ownAt_of ho
  obtain ⟨b1, _, _, eb1, _⟩ := I'.own i1 _ e0
  have hi1' : i1 < ρ.length := (List.getElem?_eq_some_iff.mp e0).1
  refine ⟨.ref b1, eb1, ?_⟩
  refine J0.intP hl hk1 q fun k H2 g2 J1 q => ?_
  obtain ⟨ds, e1, j, hj, q⟩ := ownAt_of q
  have e1' : (ρ ++ ([some (false, d1)] ++ [some (false, d2)]))[i1]? = some (some (true, .lst ds)) := by rw [List.getElem?_append_left hi1']; exact e1
  obtain ⟨b, ys, ds2, k1, k0, k2, k3, k4, k5, k6⟩ := J1.own i1 _ e1'
  cases k0
  have eb1' : (σ ++ ([some v1] ++ [some v2]))[i1]? = some (some (.ref b1)) := by rw [List.getElem?_append_left (by omega)]; exact eb1
  rw [eb1'] at k1
  cases k1
  obtain ⟨w1, hw1, rw1⟩ := J1.imm ρ.length d1 (by simp)
  have ew1 : w1 = v1 := by
    rw [hl] at hw1
    simp at hw1
    exact hw1.symm
  subst ew1
  refine ⟨b1, ys, k, j, rfl, rfl, k2, by rw [k6.len]; exact hj, ?_⟩
  have J2 := J1.put e1' eb1' (k6.set j rw1)
  rw [List.set_append_left _ _ hi1'] at J2
  obtain ⟨ho2, q⟩ := q
  obtain ⟨ds3, e3, _⟩ := ownAt_of ho2
  have hi2' : i2 < (ρ.set i1 (some (true, D.lst (ds.set j d1)))).length := (List.getElem?_eq_some_iff.mp e3).1
  have hl2 : (ρ.set i1 (some (true, D.lst (ds.set j d1)))).length = σ.length := by rw [List.length_set]; exact hl
  obtain ⟨b2, _, _, eb2, _⟩ := J2.own i2 _ (by rw [List.getElem?_append_left hi2']; exact e3)
  have eb2' : σ[i2]? = some (some (.ref b2)) := by rw [List.getElem?_append_left (by omega)] at eb2; exact eb2
  refine ⟨v2, _, rfl, ?_⟩
  refine ⟨.ref b2, eb2', ?_⟩
  refine J2.intP hl2 hk2 q fun kk H4 g4 J3 q => ?_
  obtain ⟨ds4, e4, j2, hj2, q⟩ := ownAt_of q
  have e4' : (ρ.set i1 (some (true, D.lst (ds.set j d1))) ++ ([some (false, d1)] ++ [some (false, d2)]))[i2]? = some (some (true, .lst ds4)) := by rw [List.getElem?_append_left hi2']; exact e4
  obtain ⟨b', ys', ds5, m1, m0, m2, m3, m4, m5, m6⟩ := J3.own i2 _ e4'
  cases m0
  rw [eb2] at m1
  cases m1
  obtain ⟨w2, hw2, rw2⟩ := J3.imm (ρ.length + 1) d2 (by rw [List.getElem?_append_right (by simp)]; simp)
  have ew2 : w2 = v2 := by
    rw [hl] at hw2
    simp at hw2
    exact hw2.symm
  subst ew2
  refine ⟨b2, ys', kk, j2, rfl, rfl, m2, by rw [m6.len]; exact hj2, rfl, ?_⟩
  have J4 := J3.put e4' eb2 (m6.set j2 rw2)
  rw [List.set_append_left _ _ hi2', ← List.append_assoc, ← List.append_assoc] at J4
  exact gl.nx g4 _ _ _ J4.unsnoc.unsnoc q
end

/-! ### as functions -/
section
variable {M : Type → Type} [Mo M] {α β γ σ : Type} {ρ ρ2 : DEnv} {u ua ub uc ue uk uk2 : UE} {ta tb tc t : Bool} {ma mb mc me mo mk' mk2 : M D} {ut ut1 : UT} {mt mt1 : M Bool}
  {Ψ : β → Prop} {E : UEnds} {rest us us2 : US} {kf : D → M β} {m m2 : M β} {i j l : Nat}
theorem si_has {y : Bool × D} (h : SI Ψ E ρ (sSeq us rest) m) (hi : ρ[i]? = some (some y) := by rfl) : SI Ψ E ρ (sSeq (sHas i us) rest) m := fun q => ⟨⟨y, hi⟩, h q⟩
theorem vis_notL (ρ : DEnv) (L : List Nat) : wipeD (vis (notL L) ρ) L = wipeD ρ L := by
  apply List.ext_getElem?
  intro k
  by_cases hk : k ∈ L
  · have aux : ∀ (L : List Nat) (ρ1 ρ2 : DEnv), ρ1.length = ρ2.length → k ∈ L → (wipeD ρ1 L)[k]? = (wipeD ρ2 L)[k]? := by
      intro L
      induction L with
      | nil => intro _ _ _ h; cases h
      | cons v vs ih =>
        intro ρ1 ρ2 hl h
        show ((wipeD ρ1 vs).set v none)[k]? = ((wipeD ρ2 vs).set v none)[k]?
        by_cases e : v = k
        · subst e
          rw [List.getElem?_set, List.getElem?_set, wipeD_len, wipeD_len, hl, if_pos rfl, if_pos rfl]
        · rw [List.getElem?_set_ne e, List.getElem?_set_ne e]
          rcases List.mem_cons.mp h with h | h
          · exact absurd h.symm e
          · exact ih ρ1 ρ2 hl h
    exact aux L _ _ (vis_len _ _) hk
  · have aux : ∀ (L : List Nat) (ρ : DEnv), k ∉ L → (wipeD ρ L)[k]? = ρ[k]? := by
      intro L
      induction L with
      | nil => intro _ _; rfl
      | cons v vs ih =>
        intro ρ h
        show ((wipeD ρ vs).set v none)[k]? = _
        rw [List.getElem?_set_ne (fun e => h (by rw [e]; exact List.mem_cons_self ..)), ih ρ fun z => h (List.mem_cons_of_mem _ z)]
    rw [aux L _ hk, aux L _ hk]
    unfold vis
    rw [List.getElem?_mapIdx]
    cases q : ρ[k]? with
    | none => rfl
    | some s =>
      cases s with
      | none => rfl
      | some p =>
        obtain ⟨b, d⟩ := p
        cases b with
        | false => rfl
        | true =>
          have : (notL L) k = true := by simp [notL]; exact hk
          show some (if notL L k = true then some (true, d) else none) = _
          rw [if_pos this]
theorem freeze_notL {L : List Nat} (h : ∀ k d, ρ[k]? = some (some (true, d)) → k ∈ L) : freeze (notL L) ρ = ρ := by
  apply List.ext_getElem?
  intro k
  unfold freeze
  rw [List.getElem?_mapIdx]
  cases q : ρ[k]? with
  | none => rfl
  | some s =>
    cases s with
    | none => rfl
    | some p =>
      obtain ⟨b, d⟩ := p
      cases b with
      | false => rfl
      | true =>
        have hk := h k d q
        have : (notL L) k = false := by simp [notL, hk]
        show some (if notL L k = true then some (false, d) else some (true, d)) = _
        rw [this]
        rfl
theorem settle_notL {L : List Nat} {d : D} (h : ∀ k d, ρ[k]? = some (some (true, d)) → k ∈ L) : settle (notL L) t d ρ = ρ := by
  unfold settle
  rw [freeze_notL h]
  split <;> rfl
theorem own_frz (hF : frzA ρ = ρ) {x : Bool × D} {k : Nat} {d : D} (h : (ρ.set i (some x))[k]? = some (some (true, d))) : k = i := by
  by_cases e : i = k
  · exact e.symm
  · rw [List.getElem?_set_ne e] at h
    have := frz_at hF h
    cases this
/-- F: no own lists so far -/
theorem si_par3F {k3 : D → D → D → M β} (ha : EI ρ ua ta ma) (hb : EI (ρ.set i none) ub tb mb) (hc : ∀ a b, EI (wipeD ((ρ.set i (some (ta, a))).set j (some (tb, b))) [i, j]) uc tc mc) (hk : ∀ a b c, SI Ψ E (((ρ.set i (some (ta, a))).set j (some (tb, b))).set l (some (tc, c))) rest (k3 a b c)) (hF : frzA ρ = ρ := by rfl) :
    SI Ψ E ρ (sSeq (sPar3G i j l ua ub uc) rest) (bnd ma fun a => bnd mb fun b => bnd mc fun c => k3 a b c) := fun h => by
  refine ha _ (Mo.mono (fun a h1 => ?_) (rb h))
  have e1 : wipeD (vis (notL [i]) ((settle allM ta a ρ).set i (some (ta, a)))) [i] = ρ.set i none := by
    rw [vis_notL, settle_F hF]
    show (ρ.set i (some (ta, a))).set i none = _
    rw [List.set_set]
  rw [e1]
  refine hb _ (Mo.mono (fun b h2 => ?_) (rb h1))
  have e2 : settle (notL [i]) tb b ((settle allM ta a ρ).set i (some (ta, a))) = ρ.set i (some (ta, a)) := by
    rw [settle_F hF]
    exact settle_notL fun k d hk => by rw [own_frz hF hk]; exact List.mem_singleton.mpr rfl
  rw [e2, vis_notL]
  refine hc a b _ (Mo.mono (fun c h3 => ?_) (rb h2))
  have e3 : settle (notL [i, j]) tc c ((ρ.set i (some (ta, a))).set j (some (tb, b))) = (ρ.set i (some (ta, a))).set j (some (tb, b)) := settle_notL fun k d hk => by
    by_cases e : j = k
    · simp [e]
    · rw [List.getElem?_set_ne e] at hk
      rw [own_frz hF hk]; simp
  rw [e3]
  exact hk a b c h3
theorem si_par3S {k3 : D → D → D → M β} (ha : EI ρ ua ta ma) (hb : EI (ρ.set i none) ub tb mb) (hc : ∀ a b, EI (wipeD ((ρ.set i (some (ta, a))).set j (some (tb, b))) [i, j]) uc tc mc) (hk : ∀ a b c, SI Ψ E (((ρ.set i (some (ta, a))).set j (some (tb, b))).set l (some (tc, c))) rest (k3 a b c)) :
    SI Ψ E ρ (sSeq (sPar3G i j l ua ub uc) rest) (bnd (nlM ta ma) fun a => bnd (nlM tb mb) fun b => bnd (nlM tc mc) fun c => k3 a b c) := fun h => by
  refine ha _ (Mo.mono (fun a h1 => ?_) (rb (rb h)))
  obtain ⟨a', z1, h1'⟩ := run_ofO.mp h1
  obtain ⟨s1, rfl⟩ := nl_of z1
  have e1 : wipeD (vis (notL [i]) ((settle allM ta a' ρ).set i (some (ta, a')))) [i] = ρ.set i none := by
    rw [vis_notL, settle_S s1]
    show (ρ.set i (some (ta, a'))).set i none = _
    rw [List.set_set]
  rw [e1]
  refine hb _ (Mo.mono (fun b h2 => ?_) (rb (rb h1')))
  obtain ⟨b', z2, h2'⟩ := run_ofO.mp h2
  obtain ⟨s2, rfl⟩ := nl_of z2
  rw [settle_S s1, settle_S s2, vis_notL]
  refine hc a' b' _ (Mo.mono (fun c h3 => ?_) (rb (rb h2')))
  obtain ⟨c', z3, h3'⟩ := run_ofO.mp h3
  obtain ⟨s3, rfl⟩ := nl_of z3
  rw [settle_S s3]
  exact hk a' b' c' h3'
/-! += -/
@[simp] def extO (ds : List D) (x : D) : Option D := match x with
  | .lst zs => if ds.length + zs.length ≤ sizeLine then some (.lst (ds ++ zs)) else none
  | _ => none
def extL (xs : D) (m : M D) : M D := bnd (ofO (asL xs)) fun ds => bnd m fun x => ofO (extO ds x)
@[simp] theorem extL_some (ds : List D) (x : D) : extL (.lst ds) (some x) = extO ds x := rfl
@[simp] theorem extL_p (xs : D) (m : P D) (Q : D → Prop) : (extL xs m).p Q = ∃ ds, asL xs = some ds ∧ m.p fun x => ∃ d, extO ds x = some d ∧ Q d := rfl
theorem ext_of {ds : List D} {x d : D} (e : extO ds x = some d) : ∃ zs, x = .lst zs ∧ ds.length + zs.length ≤ sizeLine ∧ d = .lst (ds ++ zs) := by
  cases x with
  | lst zs =>
    unfold extO at e
    dsimp only at e
    split at e
    · rename_i h; cases e; exact ⟨zs, rfl, h, rfl⟩
    · cases e
  | _ => cases e
theorem si_augLN {d : D} (he : EI (hide ρ) ua ta ma) (hk : ∀ d, SI Ψ E (ρ.set i (some (true, d))) rest (kf d)) (hi : ρ[i]? = some (some (true, d)) := by rfl) : SI Ψ E ρ (sSeq (sAugL noM i ua) rest) (bnd (extL d ma) kf) := fun h => by
  obtain ⟨ds, e, h⟩ := run_ofO.mp (rb (rb h))
  have e := asL_eq e
  refine ⟨own_of hi e trivial, ?_⟩
  rw [vis_no]
  refine he _ (Mo.mono (fun x hx => ?_) (rb h))
  rw [settle_no]
  obtain ⟨d', e2, q⟩ := run_ofO.mp hx
  obtain ⟨zs, rfl, hl, rfl⟩ := ext_of e2
  exact own_of hi e ⟨zs, rfl, hl, hk _ q⟩
theorem si_augLS {d : D} (he : EI ρ ua ta ma) (hk : ∀ d, SI Ψ E (ρ.set i (some (true, d))) rest (kf d)) (hi : ρ[i]? = some (some (true, d)) := by rfl) : SI Ψ E ρ (sSeq (sAugL allM i ua) rest) (bnd (extL d (nlM ta ma)) kf) := fun h => by
  obtain ⟨ds, e, h⟩ := run_ofO.mp (rb (rb h))
  have e := asL_eq e
  refine ⟨own_of hi e trivial, ?_⟩
  rw [vis_all]
  refine he _ (Mo.mono (fun x hx => ?_) (rb (rb h)))
  obtain ⟨x', z3, h3⟩ := run_ofO.mp hx
  obtain ⟨s3, rfl⟩ := nl_of z3
  rw [settle_S s3]
  obtain ⟨d', e2, q⟩ := run_ofO.mp h3
  obtain ⟨zs, rfl, hl, rfl⟩ := ext_of e2
  exact own_of hi e ⟨zs, rfl, hl, hk _ q⟩
/-! two places -/
theorem set_of {ds : List D} {k x d : D} (e : setO ds k x = some d) : ∃ n j, k = .int n ∧ ixN ds.length n = some j ∧ d = .lst (ds.set j x) := by
  cases k with
  | int n =>
    unfold setO at e
    dsimp only at e
    cases e3 : ixN ds.length n with
    | none => rw [e3] at e; cases e
    | some j => rw [e3] at e; cases e; exact ⟨n, j, rfl, e3, rfl⟩
  | _ => cases e
theorem run_setL {d a : D} {mk : M D} {Q : D → Prop} (h : run (setL d (ret a) mk) Q) : ∃ ds, d = .lst ds ∧ run mk fun k => ∃ d', setO ds k a = some d' ∧ Q d' := by
  unfold setL at h
  have h := run_ret.mp (run_bnd.mp h)
  obtain ⟨ds, e, h⟩ := run_ofO.mp (rb h)
  exact ⟨ds, asL_eq e, Mo.mono (fun k hk => run_ofO.mp hk) (rb h)⟩
/-- i: the first list's slot, d its datum; d2 s: the second's datum, the first being s then -/
theorem si_setIx2 {d : D} {d2 : D → D} {k2 : D → D → M β} {tk tk2 : Bool} {mk2 : D → M D} (ha : EI ρ ua ta ma) (hb : EI ρ ub tb mb) (hk1 : EI ρ uk tk mk') (hk2 : ∀ s, EI (ρ.set i (some (true, s))) uk2 tk2 (mk2 s)) (hk : ∀ s s2, SI Ψ E ((ρ.set i (some (true, s))).set j (some (true, s2))) rest (k2 s s2))
    (hi : ρ[i]? = some (some (true, d)) := by rfl) (hj : ∀ s, (ρ.set i (some (true, s)))[j]? = some (some (true, d2 s)) := by intro _; rfl) : SI Ψ E ρ (sSeq (sSetIx2 i j (uCons ua (uCons ub uNil)) uk uk2) rest)
    (bnd (nlM false ma) fun a => bnd (nlM false mb) fun b => bnd (setL d (ret a) mk') fun s => bnd (setL (d2 s) (ret b) (mk2 s)) fun s2 => k2 s s2) := fun h => by
  refine ha _ (Mo.mono (fun a h1 => ?_) (rb (rb h)))
  obtain ⟨a', z1, h1'⟩ := run_ofO.mp h1
  obtain ⟨s1, rfl⟩ := nl_of z1
  refine hb _ (Mo.mono (fun b h2 => ?_) (rb (rb h1')))
  obtain ⟨b', z2, h2'⟩ := run_ofO.mp h2
  obtain ⟨s2, rfl⟩ := nl_of z2
  obtain ⟨ds, e, h3'⟩ := run_setL (rb h2')
  refine ⟨a', b', rfl, s1, s2, own_of hi e trivial, hk1 _ (Mo.mono (fun kx hkx => ?_) h3')⟩
  obtain ⟨d', e2, h4⟩ := hkx
  obtain ⟨n, jj, rfl, e3, rfl⟩ := set_of e2
  refine own_of hi e ⟨jj, e3, ?_⟩
  obtain ⟨ds2, e5, h5'⟩ := run_setL (rb h4)
  refine ⟨own_of (hj _) e5 trivial, hk2 _ _ (Mo.mono (fun kx2 hkx2 => ?_) h5')⟩
  obtain ⟨d'', e6, h6⟩ := hkx2
  obtain ⟨n2, jj2, rfl, e7, rfl⟩ := set_of e6
  exact own_of (hj _) e5 ⟨jj2, e7, hk _ _ h6⟩
/-! names that a loop may have left unset -/
theorem le_o {r s : DEnv} {o : Option (Bool × D)} (h : Le r s) : Le (o :: r) (o :: s) := by
  cases o with
  | none => exact h
  | some x => exact ⟨rfl, h⟩
theorem ei_varO {o : Option D} (h : ρ[i]? = some (o.map fun d => (false, d)) := by rfl) : EI ρ (uVar i) false (ofO o : M D) := fun Q hq => by
  obtain ⟨a, e, q⟩ := run_ofO.mp hq
  subst e
  unfold uVar
  rw [h]
  exact q
theorem frz_e : frzA [] = [] := rfl
theorem frz_n {r : DEnv} (h : frzA r = r) : frzA (none :: r) = none :: r := by
  show none :: frzA r = _
  rw [h]
theorem frz_s {r : DEnv} {d : D} (h : frzA r = r) : frzA (some (false, d) :: r) = some (false, d) :: r := by
  show some (false, d) :: frzA r = _
  rw [h]
theorem frz_o {r : DEnv} {o : Option D} (h : frzA r = r) : frzA ((o.map fun d => (false, d)) :: r) = (o.map fun d => (false, d)) :: r := by
  cases o with
  | none => exact frz_n h
  | some x => exact frz_s h
end
end DL

/-! DLNew3: all, any of lists; a, b = .. through a tuple, new lists stay own. -/
namespace DL
open PySem PySem.Spec PyProof.Rows L2
open Mo (ret bnd ofO run run_ret run_bnd run_ofO)
@[simp] def fAllL : D → UK → Prop
  | .lst ds, Q => ∃ bs : List Bool, ds = bs.map D.bl ∧ Q false (.bl (bs.all id))
  | _, _ => False
@[simp] def fAnyL : D → UK → Prop
  | .lst ds, Q => ∃ bs : List Bool, ds = bs.map D.bl ∧ Q false (.bl (bs.any id))
  | _, _ => False
theorem lift_allL {S : Src} {K : PySem.W.Frag} : LiftA S (rAll K) (fA1 fAllL) := by
  refine lift_A1 fun g H x dx Q P I rx h hP => ?_
  cases dx with
  | lst ds =>
    rw [Rep] at rx
    obtain ⟨a, ys, rfl, ra, l⟩ := rx
    obtain ⟨bs, rfl, hq⟩ := h
    have := l.bls
    subst this
    exact ⟨a, bs, rfl, ra.sq, hP _ _ (EPost.val (d := .bl (bs.all id)) I (by rw [Rep]) hq)⟩
  | _ => exact (show False from h).elim
theorem lift_anyL {S : Src} {K : PySem.W.Frag} : LiftA S (rAny K) (fA1 fAnyL) := by
  refine lift_A1 fun g H x dx Q P I rx h hP => ?_
  cases dx with
  | lst ds =>
    rw [Rep] at rx
    obtain ⟨a, ys, rfl, ra, l⟩ := rx
    obtain ⟨bs, rfl, hq⟩ := h
    have := l.bls
    subst this
    exact ⟨a, bs, rfl, ra.sq, hP _ _ (EPost.val (d := .bl (bs.any id)) I (by rw [Rep]) hq)⟩
  | _ => exact (show False from h).elim
section
variable {S : Src} {X : Cx} {a : Expr} {u : UA} {p pos : Pos}
theorem je_allL (hc : X.calm = true) (hm : X.mg "all" = none) (ha : JA S X [a] u) (hg : Gl X "all" := by rfl) (hs : starEach [a] X.env = (false, eval a X.env) :: starEach [] X.env := by rfl) (hp : (backTo pos (starEach [] X.env)).any (·.1) = false := by rfl) : JE S X (.Call (.Name "all" p) [a] [] pos) (uF (fA1 fAllL) u) := je_callB (cr_all hc) lift_allL hg hm (by decide +kernel) ha (by decide) (by decide) hs hp
theorem je_anyL (hc : X.calm = true) (hm : X.mg "any" = none) (ha : JA S X [a] u) (hg : Gl X "any" := by rfl) (hs : starEach [a] X.env = (false, eval a X.env) :: starEach [] X.env := by rfl) (hp : (backTo pos (starEach [] X.env)).any (·.1) = false := by rfl) : JE S X (.Call (.Name "any" p) [a] [] pos) (uF (fA1 fAnyL) u) := je_callB (cr_any hc) lift_anyL hg hm (by decide +kernel) ha (by decide) (by decide) hs hp
end
/-! a, b = x, y where some name is a cell: through a tuple -/
section
variable {S : Src} {X : Cx} {pos : Pos}
theorem js_par3T {i j l : Nat} {x y z : Str} {a b c : Expr} {u1 u2 u3 : UE} {px py pz pt : Pos} {kt k2 pt2} (hc : X.calm = true) (hN : X.N.Nodup) (ha : JE S X a u1) (hb : JE S X b u2) (hcc : JE S X c u3) (hi : X.N[i]? = some x := by rfl) (hj : X.N[j]? = some y := by rfl) (hl : X.N[l]? = some z := by rfl)
    (hx : Loc X.env.scope x := by first | exact Or.inl rfl | exact Or.inr rfl) (hy : Loc X.env.scope y := by first | exact Or.inl rfl | exact Or.inr rfl) (hz : Loc X.env.scope z := by first | exact Or.inl rfl | exact Or.inr rfl)
    (fx : X.fn x = true ∨ X.env.scope.names.lookup x = some .local := by first | exact .inl rfl | exact .inr rfl | assumption) (fy : X.fn y = true ∨ X.env.scope.names.lookup y = some .local := by first | exact .inl rfl | exact .inr rfl | assumption) (fz : X.fn z = true ∨ X.env.scope.names.lookup z = some .local := by first | exact .inl rfl | exact .inr rfl | assumption)
    (hs1 : starEach [a, b, c] X.env = (false, eval a X.env) :: starEach [b, c] X.env := by rfl) (hs2 : starEach [b, c] X.env = (false, eval b X.env) :: starEach [c] X.env := by rfl) (hs3 : starEach [c] X.env = (false, eval c X.env) :: starEach [] X.env := by rfl)
    (hs : swapsWithSole [.Tuple [.Name x px, .Name y py, .Name z pz] kt pt] (.Tuple [a, b, c] k2 pt2) pos.line X.env = pure false := by rfl) (hw : swappedStores [.Tuple [.Name x px, .Name y py, .Name z pz] kt pt] (.Tuple [a, b, c] k2 pt2) X.env = pure none := by rfl)
    (h1 : (assignEach [.Tuple [.Name x px, .Name y py, .Name z pz] kt pt] X.env).map (·.2) = [assign (.Tuple [.Name x px, .Name y py, .Name z pz] kt pt) X.env] := by rfl)
    (hn : (assignEach [.Name x px, .Name y py, .Name z pz] X.env).length = 3 := by rfl) (hst : (assignEach [.Name x px, .Name y py, .Name z pz] X.env).findIdx? (·.1) = none := by rfl)
    (hg1 : (assignEach [.Name x px, .Name y py, .Name z pz] X.env).map (·.2) = assign (.Name x px) X.env :: (assignEach [.Name y py, .Name z pz] X.env).map (·.2) := by rfl) (hg2 : (assignEach [.Name y py, .Name z pz] X.env).map (·.2) = assign (.Name y py) X.env :: (assignEach [.Name z pz] X.env).map (·.2) := by rfl) (hg3 : (assignEach [.Name z pz] X.env).map (·.2) = assign (.Name z pz) X.env :: (assignEach [] X.env).map (·.2) := by rfl) :
    JS S X (.Assign [.Tuple [.Name x px, .Name y py, .Name z pz] kt pt] (.Tuple [a, b, c] k2 pt2) pos) (sPar3G i j l u1 u2 u3) := by
  obtain ⟨t1, p1, h1'⟩ := ha.ex
  obtain ⟨t2, p2, h2⟩ := hb.ex
  obtain ⟨t3, p3, h3⟩ := hcc.ex
  refine ⟨_, ps_asg (pe_tup (pa_cons p1 (pa_cons p2 (pa_cons p3 pa_nil hs3) hs2) hs1)) (pg_tup hc (pgs_cons (pg_name hN hi hx fx) (pgs_cons (pg_name hN hj hy fy) (pgs_cons (pg_name hN hl hz fz) pgs_nil hg3) hg2) hg1) hn hst) hs hw h1, fun g0 B g H ρ σ E E' I hu gl => ?_⟩
  refine I.expr (te := t1) allM h1' (by rw [vis_all]; exact hu) fun v1 H1 tt1 d1 g1 I1 r1 f1 hth q1 => ?_
  have I1s := I1.set (i := i) r1 (I.hold f1 (ρ' := settle allM tt1 d1 ρ) (H' := H) (g' := g) fun j e h => settle_own h)
  refine SInv.stage (σ := σ) (L := [i]) I1s (by rw [List.length_set]) (fun k hk => List.getElem?_set_ne (fun e => hk (by rw [e]; exact List.mem_singleton.mpr rfl))) h2 q1 fun v2 H2 tt2 d2 g2 I2 r2 f2 q2 => ?_
  have I2s := I2.set (i := j) r2 (I1s.hold f2 (H' := H) (g' := g) fun j e h => settle_own h)
  refine SInv.stage (σ := σ) (L := [i, j]) I2s (by rw [List.length_set, List.length_set]) (fun k hk => by
    rw [List.getElem?_set_ne (fun e => hk (by rw [e]; simp)), List.getElem?_set_ne (fun e => hk (by rw [e]; simp))]) h3 q2 fun v3 H3 tt3 d3 g3 I3 r3 f3 q3 => ?_
  have I3s := I3.set (i := l) r3 (I2s.hold f3 (H' := H) (g' := g) fun j e h => settle_own h)
  refine ⟨by rw [sizeLine_eq]; show 3 ≤ 16777216; decide, fun p np => ?_⟩
  exact ⟨p, _, rfl, .inl (.inl upd_same), rfl, v1, _, rfl, v2, _, rfl, v3, _, rfl, rfl, gl.nx g3 _ _ _ (I3s.step (Step.laid g3 _ np) (I3s.hi.laid _ np)) q3⟩
def sPar2G (i j : Nat) (u1 u2 : UE) (D : UEnds) (ρ : DEnv) : Prop := u1 ρ fun t1 d1 => u2 (wipeD (vis (notL [i]) ((settle allM t1 d1 ρ).set i (some (t1, d1)))) [i]) fun t2 d2 =>
  D.nx ((settle (notL [i]) t2 d2 ((settle allM t1 d1 ρ).set i (some (t1, d1)))).set j (some (t2, d2)))
theorem js_par2T {i j : Nat} {x y : Str} {a b : Expr} {u1 u2 : UE} {px py pt : Pos} {kt k2 pt2} (hc : X.calm = true) (hN : X.N.Nodup) (ha : JE S X a u1) (hb : JE S X b u2) (hi : X.N[i]? = some x := by rfl) (hj : X.N[j]? = some y := by rfl)
    (hx : Loc X.env.scope x := by first | exact Or.inl rfl | exact Or.inr rfl) (hy : Loc X.env.scope y := by first | exact Or.inl rfl | exact Or.inr rfl)
    (fx : X.fn x = true ∨ X.env.scope.names.lookup x = some .local := by first | exact .inl rfl | exact .inr rfl | assumption) (fy : X.fn y = true ∨ X.env.scope.names.lookup y = some .local := by first | exact .inl rfl | exact .inr rfl | assumption)
    (hs1 : starEach [a, b] X.env = (false, eval a X.env) :: starEach [b] X.env := by rfl) (hs2 : starEach [b] X.env = (false, eval b X.env) :: starEach [] X.env := by rfl)
    (hs : swapsWithSole [.Tuple [.Name x px, .Name y py] kt pt] (.Tuple [a, b] k2 pt2) pos.line X.env = pure false := by rfl) (hw : swappedStores [.Tuple [.Name x px, .Name y py] kt pt] (.Tuple [a, b] k2 pt2) X.env = pure none := by rfl)
    (h1 : (assignEach [.Tuple [.Name x px, .Name y py] kt pt] X.env).map (·.2) = [assign (.Tuple [.Name x px, .Name y py] kt pt) X.env] := by rfl)
    (hn : (assignEach [.Name x px, .Name y py] X.env).length = 2 := by rfl) (hst : (assignEach [.Name x px, .Name y py] X.env).findIdx? (·.1) = none := by rfl)
    (hg1 : (assignEach [.Name x px, .Name y py] X.env).map (·.2) = assign (.Name x px) X.env :: (assignEach [.Name y py] X.env).map (·.2) := by rfl) (hg2 : (assignEach [.Name y py] X.env).map (·.2) = assign (.Name y py) X.env :: (assignEach [] X.env).map (·.2) := by rfl) :
    JS S X (.Assign [.Tuple [.Name x px, .Name y py] kt pt] (.Tuple [a, b] k2 pt2) pos) (sPar2G i j u1 u2) := by
  obtain ⟨t1, p1, h1'⟩ := ha.ex
  obtain ⟨t2, p2, h2⟩ := hb.ex
  refine ⟨_, ps_asg (pe_tup (pa_cons p1 (pa_cons p2 pa_nil hs2) hs1)) (pg_tup hc (pgs_cons (pg_name hN hi hx fx) (pgs_cons (pg_name hN hj hy fy) pgs_nil hg2) hg1) hn hst) hs hw h1, fun g0 B g H ρ σ E E' I hu gl => ?_⟩
  refine I.expr (te := t1) allM h1' (by rw [vis_all]; exact hu) fun v1 H1 tt1 d1 g1 I1 r1 f1 hth q1 => ?_
  have I1s := I1.set (i := i) r1 (I.hold f1 (ρ' := settle allM tt1 d1 ρ) (H' := H) (g' := g) fun j e h => settle_own h)
  refine SInv.stage (σ := σ) (L := [i]) I1s (by rw [List.length_set]) (fun k hk => List.getElem?_set_ne (fun e => hk (by rw [e]; exact List.mem_singleton.mpr rfl))) h2 q1 fun v2 H2 tt2 d2 g2 I2 r2 f2 q2 => ?_
  have I2s := I2.set (i := j) r2 (I1s.hold f2 (H' := H) (g' := g) fun j e h => settle_own h)
  refine ⟨by rw [sizeLine_eq]; show 2 ≤ 16777216; decide, fun p np => ?_⟩
  exact ⟨p, _, rfl, .inl (.inl upd_same), rfl, v1, _, rfl, v2, _, rfl, rfl, gl.nx g2 _ _ _ (I2s.step (Step.laid g2 _ np) (I2s.hi.laid _ np)) q2⟩
end
section
variable {M : Type → Type} [Mo M] {α β γ σ : Type} {ρ ρ2 : DEnv} {u ua ub uc ue uk uk2 : UE} {ta tb tc t : Bool} {ma mb mc me mo mk' mk2 : M D} {ut ut1 : UT} {mt mt1 : M Bool}
  {Ψ : β → Prop} {E : UEnds} {rest us us2 : US} {kf : D → M β} {m m2 : M β} {i j l : Nat}
theorem si_par2F {k3 : D → D → M β} (ha : EI ρ ua ta ma) (hb : EI (ρ.set i none) ub tb mb) (hk : ∀ a b, SI Ψ E ((ρ.set i (some (ta, a))).set j (some (tb, b))) rest (k3 a b)) (hF : frzA ρ = ρ := by rfl) :
    SI Ψ E ρ (sSeq (sPar2G i j ua ub) rest) (bnd ma fun a => bnd mb fun b => k3 a b) := fun h => by
  refine ha _ (Mo.mono (fun a h1 => ?_) (rb h))
  have e1 : wipeD (vis (notL [i]) ((settle allM ta a ρ).set i (some (ta, a)))) [i] = ρ.set i none := by
    rw [vis_notL, settle_F hF]
    show (ρ.set i (some (ta, a))).set i none = _
    rw [List.set_set]
  rw [e1]
  refine hb _ (Mo.mono (fun b h2 => ?_) (rb h1))
  have e2 : settle (notL [i]) tb b ((settle allM ta a ρ).set i (some (ta, a))) = ρ.set i (some (ta, a)) := by
    rw [settle_F hF]
    exact settle_notL fun k d hk => by rw [own_frz hF hk]; exact List.mem_singleton.mpr rfl
  rw [e2]
  exact hk a b h2
theorem si_par2S {k3 : D → D → M β} (ha : EI ρ ua ta ma) (hb : EI (ρ.set i none) ub tb mb) (hk : ∀ a b, SI Ψ E ((ρ.set i (some (ta, a))).set j (some (tb, b))) rest (k3 a b)) :
    SI Ψ E ρ (sSeq (sPar2G i j ua ub) rest) (bnd (nlM ta ma) fun a => bnd (nlM tb mb) fun b => k3 a b) := fun h => by
  refine ha _ (Mo.mono (fun a h1 => ?_) (rb (rb h)))
  obtain ⟨a', z1, h1'⟩ := run_ofO.mp h1
  obtain ⟨s1, rfl⟩ := nl_of z1
  have e1 : wipeD (vis (notL [i]) ((settle allM ta a' ρ).set i (some (ta, a')))) [i] = ρ.set i none := by
    rw [vis_notL, settle_S s1]
    show (ρ.set i (some (ta, a'))).set i none = _
    rw [List.set_set]
  rw [e1]
  refine hb _ (Mo.mono (fun b h2 => ?_) (rb (rb h1')))
  obtain ⟨b', z2, h2'⟩ := run_ofO.mp h2
  obtain ⟨s2, rfl⟩ := nl_of z2
  rw [settle_S s1, settle_S s2]
  exact hk a' b' h2'
def asBs : List D → Option (List Bool)
  | [] => some []
  | .bl b :: r => (asBs r).map (b :: ·)
  | _ => none
theorem asBs_eq : ∀ {ds : List D} {bs : List Bool}, asBs ds = some bs → ds = bs.map D.bl
  | [], bs, h => by cases h; rfl
  | d :: r, bs, h => by
    cases d with
    | bl b =>
      rw [asBs] at h
      cases e : asBs r with
      | none => rw [e] at h; cases h
      | some q => rw [e] at h; cases h; rw [asBs_eq e]; rfl
    | _ => cases h
@[simp] theorem asBs_map (bs : List Bool) : asBs (bs.map D.bl) = some bs := by
  induction bs with
  | nil => rfl
  | cons b r ih => rw [List.map_cons, asBs, ih]; rfl
@[simp] def oAllL : D → Option D
  | .lst ds => (asBs ds).map fun bs => .bl (bs.all id)
  | _ => none
@[simp] def oAnyL : D → Option D
  | .lst ds => (asBs ds).map fun bs => .bl (bs.any id)
  | _ => none
theorem allL_ok : ∀ x d (Q : UK), oAllL x = some d → Q false d → fAllL x Q := by
  intro x d Q e q
  cases x with
  | lst ds =>
    simp only [oAllL] at e
    cases e2 : asBs ds with
    | none => rw [e2] at e; cases e
    | some bs => rw [e2] at e; cases e; exact ⟨bs, asBs_eq e2, q⟩
  | _ => cases e
theorem anyL_ok : ∀ x d (Q : UK), oAnyL x = some d → Q false d → fAnyL x Q := by
  intro x d Q e q
  cases x with
  | lst ds =>
    simp only [oAnyL] at e
    cases e2 : asBs ds with
    | none => rw [e2] at e; cases e
    | some bs => rw [e2] at e; cases e; exact ⟨bs, asBs_eq e2, q⟩
  | _ => cases e
theorem le_fe : Le [] (frzA []) := trivial
theorem le_fn {r s : DEnv} {y : Option (Bool × D)} (h : Le r (frzA s)) : Le (none :: r) (frzA (y :: s)) := h
theorem le_fs {r s : DEnv} {d : D} (h : Le r (frzA s)) : Le (some (false, d) :: r) (frzA (some (false, d) :: s)) := ⟨rfl, h⟩
theorem le_fo {r s : DEnv} {o : Option D} (h : Le r (frzA s)) : Le ((o.map fun d => (false, d)) :: r) (frzA ((o.map fun d => (false, d)) :: s)) := by
  cases o with
  | none => exact h
  | some x => exact ⟨rfl, h⟩
theorem ei_callM {A : List D → Option D} {n m : Nat} {ix : List Nat} {ms ks : List (M D)} {uas uk : UA} (h : AI ρ uas (args ms)) (hk : AI ρ uk (args ks)) (hn : ms.length = n := by rfl) (hm : ks.length = m := by rfl) :
    EI ρ (uCallK (cF A t) n m ix uas uk) t (appM A (bnd (args ms) fun ds => bnd (args ks) fun es => ret (DL.pick (ds ++ es) ix))) := fun Q hq => by
  refine h _ (Mo.mono (fun ds hd => hk _ (Mo.mono (fun es he => ?_) (args_len ks (rb hd.2)))) (args_len ms (rb (rb hq))))
  exact ⟨hd.1.trans hn, he.1.trans hm, run_ofO.mp (rr (Q := fun x => run (ofO (A x)) fun a => Q t a) he.2)⟩
end
end DL

/-! DLPlain: data that stand for plain lists; loops and comprehensions as folds and maps. -/
namespace DL
open PySem PySem.Spec PyProof.Rows L2
open Mo (ret bnd ofO run run_ret run_bnd run_ofO)
/-- the item at a place -/
def ga {α : Type} [Inhabited α] (l : List α) (i : Nat) : α := l.getD i default
section
variable {α : Type} [Inhabited α]
theorem ga_eq {l : List α} {i : Nat} (h : i < l.length) : ga l i = l[i] := by
  unfold ga
  rw [List.getD_eq_getElem?_getD, List.getElem?_eq_getElem h]; rfl
theorem ga_some {l : List α} {i : Nat} (h : i < l.length) : l[i]? = some (ga l i) := by rw [ga_eq h, List.getElem?_eq_getElem h]
theorem ga_mem {l : List α} {i : Nat} (h : i < l.length) : ga l i ∈ l := by rw [ga_eq h]; exact List.getElem_mem h
theorem ga_out {l : List α} {i : Nat} (h : l.length ≤ i) : ga l i = default := by
  unfold ga
  rw [List.getD_eq_getElem?_getD, List.getElem?_eq_none h]; rfl
@[simp] theorem ga_zero (a : α) (l : List α) : ga (a :: l) 0 = a := rfl
@[simp] theorem ga_succ (a : α) (l : List α) (i : Nat) : ga (a :: l) (i + 1) = ga l i := rfl
theorem ga_set {l : List α} {i j : Nat} {x : α} : ga (l.set i x) j = if i = j ∧ i < l.length then x else ga l j := by
  unfold ga
  rw [List.getD_eq_getElem?_getD, List.getD_eq_getElem?_getD]
  by_cases h : i = j
  · subst h
    by_cases hl : i < l.length
    · rw [List.getElem?_set_self hl, if_pos ⟨rfl, hl⟩]; rfl
    · rw [if_neg (fun z => hl z.2), List.set_eq_of_length_le (by omega)]
  · rw [List.getElem?_set_ne h, if_neg (fun z => h z.1)]
theorem ga_set_same {l : List α} {i : Nat} {x : α} (h : i < l.length) : ga (l.set i x) i = x := by rw [ga_set, if_pos ⟨rfl, h⟩]
theorem ga_set_ne {l : List α} {i j : Nat} {x : α} (h : i ≠ j) : ga (l.set i x) j = ga l j := by rw [ga_set, if_neg (fun z => h z.1)]
theorem ga_append_left {l m : List α} {i : Nat} (h : i < l.length) : ga (l ++ m) i = ga l i := by
  unfold ga; rw [List.getD_eq_getElem?_getD, List.getD_eq_getElem?_getD, List.getElem?_append_left h]
theorem ga_append_right {l m : List α} {i : Nat} (h : l.length ≤ i) : ga (l ++ m) i = ga m (i - l.length) := by
  unfold ga; rw [List.getD_eq_getElem?_getD, List.getD_eq_getElem?_getD, List.getElem?_append_right h]
theorem ga_append_len {l : List α} {x : α} : ga (l ++ [x]) l.length = x := by rw [ga_append_right (Nat.le_refl _), Nat.sub_self]; rfl
theorem ga_map {β : Type} [Inhabited β] {f : α → β} {l : List α} {i : Nat} (h : i < l.length) : ga (l.map f) i = f (ga l i) := by
  rw [ga_eq (by simpa using h), ga_eq h, List.getElem_map]
theorem ga_range {n i : Nat} (h : i < n) : ga (List.range n) i = i := by rw [ga_eq (by simpa using h), List.getElem_range]
theorem ga_replicate {n i : Nat} {x : α} (h : i < n) : ga (List.replicate n x) i = x := by rw [ga_eq (by simpa using h), List.getElem_replicate]
theorem ga_take {l : List α} {i n : Nat} (h : i < n) : ga (l.take n) i = ga l i := by
  unfold ga; rw [List.getD_eq_getElem?_getD, List.getD_eq_getElem?_getD, List.getElem?_take_of_lt h]
theorem ga_drop {l : List α} {i n : Nat} : ga (l.drop n) i = ga l (n + i) := by
  unfold ga; rw [List.getD_eq_getElem?_getD, List.getD_eq_getElem?_getD, List.getElem?_drop]
theorem ga_ext {l m : List α} (hl : l.length = m.length) (h : ∀ i, i < l.length → ga l i = ga m i) : l = m := by
  apply List.ext_getElem hl
  intro i h1 h2
  have := h i h1
  rwa [ga_eq h1, ga_eq h2] at this
theorem ga_all {l : List α} {p : α → Prop} : (∀ x ∈ l, p x) ↔ ∀ i, i < l.length → p (ga l i) := by
  refine ⟨fun h i hi => h _ (ga_mem hi), fun h x hx => ?_⟩
  obtain ⟨i, hi, rfl⟩ := List.getElem_of_mem hx
  rw [← ga_eq hi]
  exact h i hi
theorem map_ga (l : List α) : (List.range l.length).map (ga l) = l := ga_ext (by simp) fun i h => by
  rw [List.length_map, List.length_range] at h
  rw [ga_map (by simpa using h), ga_range h]
theorem set_ga {l : List α} {i : Nat} : l.set i (ga l i) = l := by
  by_cases h : i < l.length
  · apply ga_ext (by simp)
    intro j hj
    rw [ga_set]
    split
    · rename_i e; rw [e.1]
    · rfl
  · exact List.set_eq_of_length_le (by omega)
end
/-! numbers from nought on -/
abbrev nD (k : Nat) : D := .int (k : Int)
theorem rngD0 (n : Nat) : rngD 0 n = (List.range n).map nD := by
  unfold rngD
  exact List.map_congr_left fun k _ => by rw [Int.zero_add]
theorem rngDa (a n : Nat) : rngD (a : Int) n = (List.range' a n).map nD := by
  unfold rngD
  rw [List.range'_eq_map_range, List.map_map]
  exact List.map_congr_left fun k _ => by show D.int _ = D.int _; congr 1
theorem rng1_ok {z : Int} (h : z ≤ 1000000000) (h0 : 0 ≤ z) : oRng1 (.int z) = some ((List.range z.toNat).map nD) := by
  rw [oRng1, if_pos ⟨by omega, by omega⟩, rngD0]
theorem rng2_ok {a b : Int} (ha : 0 ≤ a) (ha2 : a ≤ 1000000000) (hb : 0 ≤ b) (h : b ≤ 1000000000) : oRng2 (.int a) (.int b) = some ((List.range' a.toNat (b - a).toNat).map nD) := by
  rw [oRng2, if_pos ⟨by omega, by omega, by omega, by omega⟩]
  have := rngDa a.toNat (b - a).toNat
  rw [Int.toNat_of_nonneg ha] at this
  rw [this]
theorem lr1_eq {z : Int} (h : z ≤ 1000000) (h0 : 0 ≤ z) : oLR1 (.int z) = some (.lst ((List.range z.toNat).map nD)) := by
  rw [oLR1, if_pos ⟨by omega, by omega, by omega, by omega, by omega⟩, Int.sub_zero, rngD0]
theorem tr1_eq {z : Int} (h : z ≤ 1000000) (h0 : 0 ≤ z) : oTR1 (.int z) = some (.tup ((List.range z.toNat).map nD)) := by
  rw [oTR1, if_pos ⟨by omega, by omega, by omega, by omega, by omega⟩, Int.sub_zero, rngD0]
/-! reading and writing at a place -/
section
variable {α : Type} [Inhabited α] {enc : α → D}
theorem at_map {l : List α} {z : Int} (h : z < l.length) (h0 : 0 ≤ z) : atI (l.map enc) z = some (enc (ga l z.toNat)) := by
  have e : atI (l.map enc) ((z.toNat : Nat) : Int) = some (enc (ga l z.toNat)) := atI_nat (by rw [List.getElem?_map, ga_some (by omega)]; rfl)
  rwa [Int.toNat_of_nonneg h0] at e
theorem at_neg {l : List α} {z : Int} (h : z < 0) (h0 : 0 ≤ z + l.length) : atI (l.map enc) z = some (enc (ga l (z + l.length).toNat)) := by
  unfold atI ixN
  rw [List.length_map, if_neg (by omega), if_pos (by omega)]
  show (l.map enc)[_]? = _
  rw [List.getElem?_map, ga_some (by omega)]; rfl
theorem ix_lst {l : List α} {z : Int} (h : z < l.length) (h0 : 0 ≤ z) : oIx (.lst (l.map enc)) (.int z) = some (enc (ga l z.toNat)) := at_map h h0
theorem ix_tup {l : List α} {z : Int} (h : z < l.length) (h0 : 0 ≤ z) : oIx (.tup (l.map enc)) (.int z) = some (enc (ga l z.toNat)) := at_map h h0
theorem ix_lstN {l : List α} {z : Int} (h : z < 0) (h0 : 0 ≤ z + l.length) : oIx (.lst (l.map enc)) (.int z) = some (enc (ga l (z + l.length).toNat)) := at_neg h h0
theorem ix_tupN {l : List α} {z : Int} (h : z < 0) (h0 : 0 ≤ z + l.length) : oIx (.tup (l.map enc)) (.int z) = some (enc (ga l (z + l.length).toNat)) := at_neg h h0
theorem setO_map {l : List α} {z : Int} {x : α} (h : z < l.length) (h0 : 0 ≤ z) : setO (l.map enc) (.int z) (enc x) = some (.lst ((l.set z.toNat x).map enc)) := by
  have : ixN (l.map enc).length z = some z.toNat := by unfold ixN; rw [List.length_map, if_pos h0, if_pos h]
  rw [setO, this, Option.map_some, List.map_set]
theorem setO_int {l : List Int} {z x : Int} (h : z < l.length) (h0 : 0 ≤ z) : setO (l.map D.int) (.int z) (.int x) = some (.lst ((l.set z.toNat x).map D.int)) := setO_map (enc := D.int) h h0
theorem appO_map {l : List α} {x : α} (h : l.length < 16777216) : appO (l.map enc) (enc x) = some (.lst ((l ++ [x]).map enc)) := by
  unfold appO
  rw [if_pos (by rw [List.length_map, sz]; exact h), List.map_append]; rfl
theorem cat_map {l m : List α} (h : l.length + m.length ≤ 16777216) : oCat (.lst (l.map enc)) (.lst (m.map enc)) = some (.lst ((l ++ m).map enc)) := by
  unfold oCat
  dsimp only
  rw [if_pos (by rw [List.length_map, List.length_map, sz]; exact h), List.map_append]
theorem addL_map {l m : List α} (h : l.length + m.length ≤ 16777216) : oAdd (.lst (l.map enc)) (.lst (m.map enc)) = some (.lst ((l ++ m).map enc)) := by
  unfold oAdd
  dsimp only
  rw [if_pos (by rw [List.length_map, List.length_map, sz]; exact h), List.map_append]
theorem addT_map {l m : List α} (h : l.length + m.length ≤ 16777216) : oAdd (.tup (l.map enc)) (.tup (m.map enc)) = some (.tup ((l ++ m).map enc)) := by
  unfold oAdd
  dsimp only
  rw [if_pos (by rw [List.length_map, List.length_map, sz]; exact h), List.map_append]
theorem rep_one {z : Int} {x : α} (h : z ≤ 16777216) (h0 : 0 ≤ z) : oRep (.lst [enc x]) (.int z) = some (.lst ((List.replicate z.toNat x).map enc)) := by
  unfold oRep
  dsimp only
  rw [if_pos ⟨by omega, by omega, by rw [sz]; simp; omega⟩, List.map_replicate]
  congr 2
  induction z.toNat with
  | zero => rfl
  | succ n ih => rw [List.replicate_succ, List.flatten_cons, ih, List.replicate_succ]; rfl
theorem rep_int {z x : Int} (h : z ≤ 16777216) (h0 : 0 ≤ z) : oRep (.lst [.int x]) (.int z) = some (.lst ((List.replicate z.toNat x).map D.int)) := rep_one (enc := D.int) h h0
theorem len_lst {l : List α} : oLen (.lst (l.map enc)) = some (.int (l.length : Nat)) := by simp
theorem len_tup {l : List α} : oLen (.tup (l.map enc)) = some (.int (l.length : Nat)) := by simp
theorem enum_map {l : List α} : enumD (l.map enc) = (List.range l.length).map fun (k : Nat) => .tup [nD k, enc (ga l k)] := by
  unfold enumD
  apply List.ext_getElem
  · simp
  · intro i h1 h2
    simp at h1
    simp
    rw [ga_eq h1]
theorem enumL {l : List α} : oEnum (.lst (l.map enc)) = some ((List.range l.length).map fun (k : Nat) => .tup [nD k, enc (ga l k)]) := by rw [oEnum, enum_map]
theorem enumT {l : List α} : oEnum (.tup (l.map enc)) = some ((List.range l.length).map fun (k : Nat) => .tup [nD k, enc (ga l k)]) := by rw [oEnum, enum_map]
theorem zip_map {β : Type} {e2 : β → D} {l : List α} {m : List β} : zipD (l.map enc) (m.map e2) = (l.zip m).map fun p => .tup [enc p.1, e2 p.2] := by
  unfold zipD
  rw [List.zipWith_map, List.zip, List.map_zipWith]
theorem zipTT {β : Type} {e2 : β → D} {l : List α} {m : List β} : oZip (.tup (l.map enc)) (.tup (m.map e2)) = some ((l.zip m).map fun p => .tup [enc p.1, e2 p.2]) := by rw [oZip, zip_map]
theorem zipLL {β : Type} {e2 : β → D} {l : List α} {m : List β} : oZip (.lst (l.map enc)) (.lst (m.map e2)) = some ((l.zip m).map fun p => .tup [enc p.1, e2 p.2]) := by rw [oZip, zip_map]
end
/-! loops as folds -/
section
variable {ι τ σ : Type} {dec : ι → D} {enc : τ → σ}
theorem forS_fold {f : D → σ → Option σ} (g : τ → ι → τ) (I : τ → Prop) : ∀ {is : List ι} {t : τ}, (∀ i ∈ is, ∀ t, I t → f (dec i) (enc t) = some (enc (g t i)) ∧ I (g t i)) → I t → forS f (is.map dec) (enc t) = some (enc (is.foldl g t)) ∧ I (is.foldl g t)
  | [], t, _, h0 => ⟨rfl, h0⟩
  | i :: r, t, h, h0 => by
    obtain ⟨e, h1⟩ := h i (List.mem_cons_self ..) t h0
    have ih := forS_fold (f := f) g I (is := r) (t := g t i) (fun j hj => h j (List.mem_cons_of_mem _ hj)) h1
    refine ⟨?_, ih.2⟩
    show (f (dec i) (enc t)).bind (fun s' => forS f (r.map dec) s') = _
    rw [e]
    exact ih.1
/-- over places: an invariant that speaks of the place -/
theorem forS_rng {f : D → σ → Option σ} {dec : Nat → D} (g : τ → Nat → τ) (I : Nat → τ → Prop) {n : Nat} {t : τ} (h : ∀ i, i < n → ∀ t, I i t → f (dec i) (enc t) = some (enc (g t i)) ∧ I (i + 1) (g t i)) (h0 : I 0 t) : forS f ((List.range n).map dec) (enc t) = some (enc ((List.range n).foldl g t)) ∧ I n ((List.range n).foldl g t) := by
  induction n with
  | zero => exact ⟨rfl, h0⟩
  | succ n ih =>
    obtain ⟨e, h1⟩ := ih fun i hi => h i (by omega)
    obtain ⟨e2, h2⟩ := h n (by omega) _ h1
    rw [List.range_succ, List.map_append, List.foldl_append]
    refine ⟨?_, h2⟩
    have ap : ∀ (as bs : List D) (s : σ), forS f (as ++ bs) s = (forS f as s).bind (forS f bs) := by
      intro as
      induction as with
      | nil => intro bs s; rfl
      | cons a as iha =>
        intro bs s
        show (f a s).bind (fun s' => forS f (as ++ bs) s') = ((f a s).bind fun s' => forS f as s').bind (forS f bs)
        cases f a s with
        | none => rfl
        | some s' => exact iha bs s'
    rw [ap, e, Option.bind_some]
    show (f (dec n) _).bind (fun s' => some s') = _
    rw [e2]
    rfl
/-- a loop that hands back the first that is found -/
theorem forC_find {f : D → σ → Option (Ctl σ)} {s : σ} (g : ι → Option D) : ∀ {is : List ι}, (∀ i ∈ is, f (dec i) s = some (match g i with | some d => .rt d | none => .nx s)) → forC f (is.map dec) s = some (match is.findSome? g with | some d => .rt d | none => .nx s)
  | [], _ => rfl
  | i :: r, h => by
    show (f (dec i) s).bind _ = _
    rw [h i (List.mem_cons_self ..), List.findSome?_cons, Option.bind_some]
    cases g i with
    | some d => rfl
    | none => exact forC_find g fun j hj => h j (List.mem_cons_of_mem _ hj)
/-- a loop with a state, left early -/
def foldC (g : τ → ι → Ctl τ) : List ι → τ → Ctl τ
  | [], t => .nx t
  | i :: r, t => match g t i with
    | .nx t' => foldC g r t'
    | .bk t' => .nx t'
    | .rt d => .rt d
def mapC (enc : τ → σ) : Ctl τ → Ctl σ
  | .nx t => .nx (enc t)
  | .bk t => .bk (enc t)
  | .rt d => .rt d
@[simp] theorem mapC_nx (enc : τ → σ) (t : τ) : mapC enc (.nx t) = .nx (enc t) := rfl
@[simp] theorem mapC_bk (enc : τ → σ) (t : τ) : mapC enc (.bk t) = .bk (enc t) := rfl
@[simp] theorem mapC_rt (enc : τ → σ) (d : D) : mapC enc (.rt d) = .rt d := rfl
theorem forC_fold {f : D → σ → Option (Ctl σ)} (g : τ → ι → Ctl τ) (I : τ → Prop) : ∀ {is : List ι} {t : τ}, (∀ i ∈ is, ∀ t, I t → f (dec i) (enc t) = some (mapC enc (g t i)) ∧ ∀ t', g t i = .nx t' → I t') → I t → forC f (is.map dec) (enc t) = some (mapC enc (foldC g is t))
  | [], t, _, h0 => rfl
  | i :: r, t, h, h0 => by
    obtain ⟨e, h1⟩ := h i (List.mem_cons_self ..) t h0
    show (f (dec i) (enc t)).bind _ = _
    rw [e, Option.bind_some, foldC]
    cases q : g t i with
    | nx t' => exact forC_fold g I (fun j hj => h j (List.mem_cons_of_mem _ hj)) (h1 t' q)
    | bk t' => rfl
    | rt d => rfl
theorem mapG_map {β : Type} {f : D → Option D} {g : ι → β} {e2 : β → D} {is : List ι} (h : ∀ i ∈ is, f (dec i) = some (e2 (g i))) : mapG f (is.map dec) = some ((is.map g).map e2) := by
  induction is with
  | nil => rfl
  | cons i r ih =>
    show (f (dec i)).bind (fun y => (mapG f (r.map dec)).bind fun ys => some (y :: ys)) = _
    rw [h i (List.mem_cons_self ..), ih fun j hj => h j (List.mem_cons_of_mem _ hj)]
    rfl
theorem filG_map {β : Type} {f : D → Option (Option D)} {g : ι → Option β} {e2 : β → D} {is : List ι} (h : ∀ i ∈ is, f (dec i) = some ((g i).map e2)) : filG f (is.map dec) = some ((is.filterMap g).map e2) := by
  induction is with
  | nil => rfl
  | cons i r ih =>
    rw [List.map_cons, filG, h i (List.mem_cons_self ..), ih fun j hj => h j (List.mem_cons_of_mem _ hj), List.filterMap_cons]
    cases g i <;> rfl
theorem filG_filter {f : D → Option (Option D)} {p : ι → Bool} {is : List ι} (h : ∀ i ∈ is, f (dec i) = some (if p i = true then some (dec i) else none)) : filG f (is.map dec) = some ((is.filter p).map dec) := by
  induction is with
  | nil => rfl
  | cons i r ih =>
    rw [List.map_cons, filG, h i (List.mem_cons_self ..), ih fun j hj => h j (List.mem_cons_of_mem _ hj), List.filter_cons]
    cases p i <;> rfl
theorem allG_map {f : D → Option Bool} {p : ι → Bool} {is : List ι} (h : ∀ i ∈ is, f (dec i) = some (p i)) : allG f (is.map dec) = some (is.all p) := by
  induction is with
  | nil => rfl
  | cons i r ih =>
    show (f (dec i)).bind (fun b => if b = true then allG f (r.map dec) else some false) = _
    rw [h i (List.mem_cons_self ..), ih fun j hj => h j (List.mem_cons_of_mem _ hj), List.all_cons]
    cases p i <;> rfl
theorem anyG_map {f : D → Option Bool} {p : ι → Bool} {is : List ι} (h : ∀ i ∈ is, f (dec i) = some (p i)) : anyG f (is.map dec) = some (is.any p) := by
  induction is with
  | nil => rfl
  | cons i r ih =>
    show (f (dec i)).bind (fun b => if b = true then some true else anyG f (r.map dec)) = _
    rw [h i (List.mem_cons_self ..), ih fun j hj => h j (List.mem_cons_of_mem _ hj), List.any_cons]
    cases p i <;> rfl
theorem sumG_map {f : D → Option (Option D)} {g : ι → Int} : ∀ {is : List ι} {n : Int}, (∀ i ∈ is, f (dec i) = some (some (.int (g i)))) → sumG f (is.map dec) n = some (n + (is.map g).sum)
  | [], n, _ => by simp [sumG]
  | i :: r, n, h => by
    show (f (dec i)).bind (fun o => match o with
      | some y => (asI y).bind fun j => sumG f (r.map dec) (n + j)
      | none => sumG f (r.map dec) n) = _
    rw [h i (List.mem_cons_self ..)]
    show sumG f (r.map dec) (n + g i) = _
    rw [sumG_map fun j hj => h j (List.mem_cons_of_mem _ hj), List.map_cons, List.sum_cons]
    congr 1
    omega
theorem catG_map {β : Type} {f : D → Option (List D)} {g : ι → List β} {e2 : β → D} {is : List ι} (h : ∀ i ∈ is, f (dec i) = some ((g i).map e2)) : catG f (is.map dec) = some ((is.flatMap g).map e2) := by
  induction is with
  | nil => rfl
  | cons i r ih =>
    show (f (dec i)).bind (fun a => (catG f (r.map dec)).bind fun ys => some (a ++ ys)) = _
    rw [h i (List.mem_cons_self ..), ih fun j hj => h j (List.mem_cons_of_mem _ hj), List.flatMap_cons, List.map_append]
    rfl
end
theorem chkL_m {α : Type} {l : List α} {e : α → D} (h : l.length ≤ 16777216) : chkL (l.map e) = some (l.map e) := chkL_ok (by rw [List.length_map, sz]; exact h)
theorem chk4_m {α : Type} {l : List α} {e : α → D} (h : l.length ≤ 4000) : chk4 (l.map e) = some (l.map e) := chk4_ok (by rw [List.length_map]; exact h)
/-! no lists within -/
theorem noLstL_of {α : Type} {e : α → D} (h : ∀ a, noLst (e a) = true) : ∀ l : List α, noLstL (l.map e) = true
  | [] => rfl
  | a :: l => by rw [List.map_cons, noLstL, h a, noLstL_of h l]; rfl
theorem nl_lst {α : Type} {e : α → D} (h : ∀ a, noLst (e a) = true) (l : List α) : oNL true (.lst (l.map e)) = some (.lst (l.map e)) := oNL_lst (noLstL_of h l)
theorem nl_tup {α : Type} {e : α → D} (h : ∀ a, noLst (e a) = true) (l : List α) : oNL false (.tup (l.map e)) = some (.tup (l.map e)) := oNL_tup (noLstL_of h l)
/-! tuples of ints, lists of ints -/
abbrev dI (l : List Int) : D := .tup (l.map .int)
abbrev dL (l : List Int) : D := .lst (l.map .int)
abbrev dG (g : List (List Int)) : D := .tup (g.map dI)
theorem nl_int (i : Int) : noLst (.int i) = true := rfl
theorem nl_dI (l : List Int) : noLst (dI l) = true := noLstL_of nl_int l
theorem nl_dG (g : List (List Int)) : noLst (dG g) = true := noLstL_of nl_dI g
theorem okDL_m {α : Type} {e : α → D} {n : Nat} (h : ∀ a, okD n (e a) = true) : ∀ l : List α, okDL n (l.map e) = true
  | [] => by simp
  | a :: l => by rw [List.map_cons, okDL, h a, okDL_m h l]; rfl
theorem ok_int (n : Nat) (i : Int) : okD n (.int i) = true := by simp
theorem ok_dI (n : Nat) (l : List Int) : okD (n + 1) (dI l) = true := by rw [dI, okD]; exact okDL_m (ok_int n) l
theorem ok_dL (n : Nat) (l : List Int) : okD (n + 1) (dL l) = true := by rw [dL, okD]; exact okDL_m (ok_int n) l
theorem ok_dG (n : Nat) (g : List (List Int)) : okD (n + 2) (dG g) = true := by rw [dG, okD]; exact okDL_m (ok_dI n) g
theorem eqDL_map {α : Type} {e : α → D} {eq : α → α → Bool} (h : ∀ a b, eqD (e a) (e b) = eq a b) (hb : ∀ a b, eq a b = true ↔ a = b) : ∀ l m : List α, eqDL (l.map e) (m.map e) = true ↔ l = m
  | [], [] => by simp [eqDL]
  | [], b :: m => by simp [eqDL]
  | a :: l, [] => by simp [eqDL]
  | a :: l, b :: m => by
    rw [List.map_cons, List.map_cons, eqDL, Bool.and_eq_true, h, hb, eqDL_map h hb l m]
    simp
theorem eq_dI (l m : List Int) : eqD (dI l) (dI m) = decide (l = m) := by
  rw [Bool.eq_iff_iff, decide_eq_true_iff, dI, dI, eqD_tup_tup]
  exact eqDL_map (eq := fun a b => decide (a = b)) (fun a b => by simp; rfl) (by simp) l m
theorem eq_dG (l m : List (List Int)) : eqD (dG l) (dG m) = decide (l = m) := by
  rw [Bool.eq_iff_iff, decide_eq_true_iff, dG, dG, eqD_tup_tup]
  exact eqDL_map (eq := fun a b => decide (a = b)) (fun a b => eq_dI a b) (by simp) l m
theorem bEq_dI (l m : List Int) : bEq (dI l) (dI m) = some (decide (l = m)) := by
  unfold bEq; rw [if_pos ⟨ok_dI 63 l, ok_dI 63 m⟩, eq_dI]
theorem bNe_dI (l m : List Int) : bNe (dI l) (dI m) = some (!decide (l = m)) := by
  unfold bNe; rw [if_pos ⟨ok_dI 63 l, ok_dI 63 m⟩, eq_dI]
theorem bEq_int (i j : Int) : bEq (.int i) (.int j) = some (decide (i = j)) := by
  unfold bEq; rw [if_pos ⟨by simp, by simp⟩]; simp; rfl
theorem bNe_int (i j : Int) : bNe (.int i) (.int j) = some (!decide (i = j)) := by
  unfold bNe; rw [if_pos ⟨by simp, by simp⟩]; simp; rfl
theorem anyEq_map {l : List Int} {x : Int} : anyEq (l.map D.int) (.int x) = decide (x ∈ l) := by
  unfold anyEq
  rw [Bool.eq_iff_iff, decide_eq_true_iff, List.any_eq_true]
  constructor
  · rintro ⟨d, hd, he⟩
    obtain ⟨y, hy, rfl⟩ := List.mem_map.mp hd
    rw [eqD_int_int] at he
    rw [← eq_of_beq he]; exact hy
  · intro h
    exact ⟨_, List.mem_map.mpr ⟨x, h, rfl⟩, by simp⟩
theorem anyEq_dI {l : List (List Int)} {x : List Int} : anyEq (l.map dI) (dI x) = decide (x ∈ l) := by
  unfold anyEq
  rw [Bool.eq_iff_iff, decide_eq_true_iff, List.any_eq_true]
  constructor
  · rintro ⟨d, hd, he⟩
    obtain ⟨y, hy, rfl⟩ := List.mem_map.mp hd
    rw [eq_dI] at he
    rw [← of_decide_eq_true he]; exact hy
  · intro h
    exact ⟨_, List.mem_map.mpr ⟨x, h, rfl⟩, by rw [eq_dI]; simp⟩
theorem in_lst (n : Bool) (l : List Int) (x : Int) : bIn n (.int x) (dL l) = some (if n = true then !decide (x ∈ l) else decide (x ∈ l)) := by
  unfold bIn; dsimp only; rw [if_pos ⟨by simp, okDL_m (ok_int 63) l⟩, anyEq_map]
theorem in_tup (n : Bool) (l : List Int) (x : Int) : bIn n (.int x) (dI l) = some (if n = true then !decide (x ∈ l) else decide (x ∈ l)) := by
  unfold bIn; dsimp only; rw [if_pos ⟨by simp, okDL_m (ok_int 63) l⟩, anyEq_map]
/-! ops on ints -/
theorem add_int (i j : Int) : oAdd (.int i) (.int j) = some (.int (i + j)) := rfl
theorem sub_int (i j : Int) : oSub (.int i) (.int j) = some (.int (i - j)) := rfl
theorem neg_int (i : Int) : oNeg (.int i) = some (.int (-i)) := rfl
theorem int_int (i : Int) : oInt (.int i) = some (.int i) := rfl
theorem int_bl (b : Bool) : oInt (.bl b) = some (.int (if b then 1 else 0)) := rfl
theorem lt_int (i j : Int) : bLt (.int i) (.int j) = some (decide (i < j)) := rfl
theorem le_int (i j : Int) : bLe (.int i) (.int j) = some (decide (i ≤ j)) := rfl
theorem gt_int (i j : Int) : bGt (.int i) (.int j) = some (decide (j < i)) := rfl
theorem ge_int (i j : Int) : bGe (.int i) (.int j) = some (decide (j ≤ i)) := rfl
theorem max_int (i j : Int) : oMax2 (.int i) (.int j) = some (.int (max i j)) := by
  unfold oMax2; dsimp only
  congr 2
  split <;> omega
theorem min_int (i j : Int) : oMin2 (.int i) (.int j) = some (.int (min i j)) := by
  unfold oMin2; dsimp only
  congr 2
  split <;> omega
theorem items_lst (ds : List D) : oItems (.lst ds) = some ds := rfl
theorem items_tup (ds : List D) : oItems (.tup ds) = some ds := rfl
theorem tuple_lst (ds : List D) : oTuple (.lst ds) = some (.tup ds) := rfl
theorem tuple_tup (ds : List D) : oTuple (.tup ds) = some (.tup ds) := rfl
theorem list_lst (ds : List D) : oList (.lst ds) = some (.lst ds) := rfl
theorem list_tup (ds : List D) : oList (.tup ds) = some (.lst ds) := rfl
theorem rev_lst {α : Type} {e : α → D} (l : List α) : oRevL (.lst (l.map e)) = some (.lst (l.reverse.map e)) := by rw [oRevL, List.map_reverse]
theorem isT_bl (b : Bool) : asT (.bl b) = some b := rfl
theorem isT_lst {α : Type} {e : α → D} (l : List α) : asT (.lst (l.map e)) = some (!l.isEmpty) := by cases l <;> rfl
theorem isT_tup {α : Type} {e : α → D} (l : List α) : asT (.tup (l.map e)) = some (!l.isEmpty) := by cases l <;> rfl
theorem nlt_int (i : Int) : nlM false (some (.int i)) = some (.int i) := rfl
theorem aug_int {l : List Int} {z y : Int} {f : Int → Int → Int} (h : z < l.length) (h0 : 0 ≤ z) : augL f (.lst (l.map D.int)) (some (.int z)) (some (.int y)) = some (.lst ((l.set z.toNat (f (ga l z.toNat) y)).map D.int)) := by
  rw [augL_some, if_pos h0, List.getElem?_map, ga_some (by omega)]
  show some _ = _
  rw [List.map_set]
theorem mod_int {i j : Int} (h : 0 < j) : oMod (.int i) (.int j) = some (.int (i % j)) := by unfold oMod; dsimp only; rw [if_pos h]
theorem mul_int' {i j : Int} (h : j < 18446744073709551616) (h0 : 0 ≤ j) : oMul (.int i) (.int j) = some (.int (i * j)) := by unfold oMul; dsimp only; rw [if_pos (cmul_r i j h0 (by omega))]
theorem sum_int {l : List Int} : oSum (dL l) = some (.int l.sum) := by simp
theorem sumT_int {l : List Int} : oSum (dI l) = some (.int l.sum) := by simp
theorem ite3_some {M : Type → Type} [Mo M] {α : Type} (b : Bool) (x y : Option α) : ite3 (some b) x y = if b = true then x else y := rfl
theorem asInts_nD (l : List Nat) : asInts (l.map nD) = some (l.map fun (k : Nat) => (k : Int)) := by
  induction l with
  | nil => rfl
  | cons n ns ih => rw [List.map_cons, asInts, ih]; rfl
theorem bind_some' {α β : Type} (a : α) (f : α → Option β) : (some a).bind f = f a := rfl
/-! P: what is no draw -/
section
variable {α β : Type}
theorem pb {o : Option α} {v : α} {k : α → P β} {Q : β → Prop} (e : o = some v) (h : (k v).p Q) : (bnd (ofO o : P α) k).p Q := ⟨v, e, h⟩
theorem pu_ret (a : α) : (ret a : P α) = ofO (some a) := by
  show P.mk _ _ = P.mk _ _
  congr 1
  funext Q
  exact propext ⟨fun h => ⟨a, rfl, h⟩, fun ⟨b, e, h⟩ => by cases e; exact h⟩
theorem P.ext' {m n : P α} (h : ∀ Q, m.p Q ↔ n.p Q) : m = n := by
  cases m; cases n
  congr 1
  funext Q
  exact propext (h Q)
theorem pu_bnd (o : Option α) (f : α → Option β) : (bnd (ofO o : P α) fun a => ofO (f a)) = ofO (o.bind f) := P.ext' fun Q => by
  show (∃ a, o = some a ∧ ∃ b, f a = some b ∧ Q b) ↔ ∃ b, o.bind f = some b ∧ Q b
  cases o with
  | none => exact ⟨fun ⟨a, e, _⟩ => (by cases e), fun ⟨a, e, _⟩ => (by cases e)⟩
  | some a => exact ⟨fun ⟨b, e, h⟩ => by cases e; exact h, fun h => ⟨a, rfl, h⟩⟩
theorem pu_op1 (f : D → Option α) (a : Option D) : (op1 f (ofO a) : P α) = ofO (op1 f a) := pu_bnd a f
theorem pu_op2 (f : D → D → Option α) (a b : Option D) : (op2 f (ofO a) (ofO b) : P α) = ofO (op2 f a b) := by
  show (bnd (ofO a : P D) fun x => bnd (ofO b : P D) fun y => ofO (f x y)) = _
  have : (fun x => (bnd (ofO b : P D) fun y => ofO (f x y) : P α)) = fun x => ofO (b.bind (f x)) := by
    funext x; exact pu_bnd b (f x)
  rw [this, pu_bnd]
  rfl
theorem pu_ite3 (c : Option Bool) (a b : Option α) : (ite3 (ofO c) (ofO a) (ofO b) : P α) = ofO (ite3 c a b) := by
  show (bnd (ofO c : P Bool) fun k => if k = true then ofO a else ofO b) = _
  have : (fun k : Bool => (if k = true then ofO a else ofO b : P α)) = fun k => ofO (if k = true then a else b) := by
    funext k; cases k <;> rfl
  rw [this, pu_bnd]; rfl
theorem pu_vB (m : Option Bool) : (vB (ofO m) : P D) = ofO (vB m) := by
  show (bnd (ofO m : P Bool) fun b => (ret (D.bl b) : P D)) = _
  simp only [pu_ret, pu_bnd]
  rfl
theorem pu_truM (m : Option D) : (truM (ofO m) : P Bool) = ofO (truM m) := pu_bnd m asT
theorem pu_toB (m : Option D) : (toB (ofO m) : P Bool) = ofO (toB m) := pu_bnd m asB
theorem pu_tNot (m : Option Bool) : (DL.tNot (ofO m) : P Bool) = ofO (DL.tNot m) := by
  show (bnd (ofO m : P Bool) fun b => (ret (!b) : P Bool)) = _
  simp only [pu_ret, pu_bnd]
  rfl
theorem pu_tAnd (a b : Option Bool) : (DL.tAnd (ofO a) (ofO b) : P Bool) = ofO (DL.tAnd a b) := by
  show (bnd (ofO a : P Bool) fun k => if k = true then ofO b else ret false) = _
  have : (fun k : Bool => (if k = true then ofO b else ret false : P Bool)) = fun k => ofO (if k = true then b else some false) := by
    funext k; cases k
    · exact pu_ret false
    · rfl
  rw [this, pu_bnd]; rfl
theorem pu_tOr (a b : Option Bool) : (DL.tOr (ofO a) (ofO b) : P Bool) = ofO (DL.tOr a b) := by
  show (bnd (ofO a : P Bool) fun k => if k = true then ret true else ofO b) = _
  have : (fun k : Bool => (if k = true then ret true else ofO b : P Bool)) = fun k => ofO (if k = true then some true else b) := by
    funext k; cases k
    · rfl
    · exact pu_ret true
  rw [this, pu_bnd]; rfl
theorem pu_args_nil : (args [] : P (List D)) = ofO (some []) := pu_ret []
theorem pu_args_cons {o : Option D} {ms : List (P D)} {os : Option (List D)} (h : args ms = (ofO os : P (List D))) : (args (ofO o :: ms) : P (List D)) = ofO (o.bind fun x => os.bind fun xs => some (x :: xs)) := by
  show (bnd (ofO o : P D) fun x => bnd (args ms) fun xs => ret (x :: xs)) = _
  rw [h]
  have : (fun x => (bnd (ofO os : P (List D)) fun xs => ret (x :: xs) : P (List D))) = fun x => ofO (os.bind fun xs => some (x :: xs)) := by
    funext x
    simp only [pu_ret]
    exact pu_bnd os fun xs => some (x :: xs)
  rw [this, pu_bnd]
theorem pu_tupM (m : Option (List D)) : (tupM (ofO m) : P D) = ofO (tupM m) := by
  show (bnd (ofO m : P (List D)) fun xs => (ret (D.tup xs) : P D)) = _
  simp only [pu_ret, pu_bnd]
  rfl
theorem pu_lstM (m : Option (List D)) : (lstM (ofO m) : P D) = ofO (lstM m) := by
  show (bnd (ofO m : P (List D)) fun xs => (ret (D.lst xs) : P D)) = _
  simp only [pu_ret, pu_bnd]
  rfl
theorem pu_appM (A : List D → Option D) (m : Option (List D)) : (appM A (ofO m) : P D) = ofO (appM A m) := pu_bnd m A
theorem pu_mapG {f : D → Option α} : ∀ ds : List D, (mapG (fun d => (ofO (f d) : P α)) ds) = ofO (mapG f ds)
  | [] => pu_ret []
  | d :: r => by
    show (bnd (ofO (f d) : P α) fun y => bnd (mapG (fun d => (ofO (f d) : P α)) r) fun ys => ret (y :: ys)) = _
    rw [pu_mapG r]
    simp only [pu_ret, pu_bnd]
    rfl
theorem pu_filG {f : D → Option (Option α)} : ∀ ds : List D, (filG (fun d => (ofO (f d) : P (Option α))) ds) = ofO (filG f ds)
  | [] => pu_ret []
  | d :: r => by
    show (bnd (ofO (f d) : P (Option α)) fun o => bnd (filG (fun d => (ofO (f d) : P (Option α))) r) fun ys => ret (match o with | some y => y :: ys | none => ys)) = _
    rw [pu_filG r]
    simp only [pu_ret, pu_bnd]
    rfl
theorem pu_lcM (m : Option (List D)) (f : D → Option α) : (lcM (ofO m) fun d => (ofO (f d) : P α)) = ofO (lcM m f) := by
  show (bnd (ofO m : P (List D)) fun ds => bnd (ofO (chkL ds) : P (List D)) fun ds => mapG (fun d => (ofO (f d) : P α)) ds) = _
  simp only [pu_mapG, pu_bnd]
  rfl
theorem pu_lcF (m : Option (List D)) (f : D → Option (Option α)) : (lcF (ofO m) fun d => (ofO (f d) : P (Option α))) = ofO (lcF m f) := by
  show (bnd (ofO m : P (List D)) fun ds => bnd (ofO (chkL ds) : P (List D)) fun ds => filG (fun d => (ofO (f d) : P (Option α))) ds) = _
  simp only [pu_filG, pu_bnd]
  rfl
theorem pu_whenM (c : Option Bool) (e : Option α) : (whenM (ofO c) (ofO e) : P (Option α)) = ofO (whenM c e) := by
  show (bnd (ofO c : P Bool) fun k => if k = true then bnd (ofO e : P α) fun y => ret (some y) else ret none) = _
  have : (fun k : Bool => (if k = true then bnd (ofO e : P α) fun y => ret (some y) else ret none : P (Option α))) = fun k => ofO (if k = true then e.bind fun y => some (some y) else some none) := by
    funext k
    cases k
    · exact pu_ret none
    · show (bnd (ofO e : P α) fun y => ret (some y)) = _
      simp only [pu_ret]
      exact pu_bnd e fun y => some (some y)
  rw [this, pu_bnd]; rfl
theorem pu_somI (m : Option D) : (somI (ofO m) : P (Option Int)) = ofO (somI m) := by
  show (bnd (ofO m : P D) fun d => bnd (ofO (asI d) : P Int) fun i => ret (some i)) = _
  simp only [pu_ret, pu_bnd]
  rfl
theorem pu_slL (m : Option D) (lo hi : Option (Option Int)) : (slL (ofO m) (ofO lo) (ofO hi) : P D) = ofO (slL m lo hi) := by
  show (bnd (ofO m : P D) fun x => bnd (ofO lo : P (Option Int)) fun a => bnd (ofO hi : P (Option Int)) fun b => ofO (oSlL x a b)) = _
  simp only [pu_bnd]
  rfl
theorem pu_slM (m : Option D) (lo hi : Option (Option Int)) : (slM (ofO m) (ofO lo) (ofO hi) : P D) = ofO (slM m lo hi) := by
  show (bnd (ofO m : P D) fun x => bnd (ofO lo : P (Option Int)) fun a => bnd (ofO hi : P (Option Int)) fun b => ofO (oSl x a b)) = _
  simp only [pu_bnd]
  rfl
theorem pu_nlM (t : Bool) (m : Option D) : (nlM t (ofO m) : P D) = ofO (nlM t m) := pu_bnd m _
/-- a draw -/
theorem draw_p {n : Int} {Q : D → Prop} (h0 : 0 < n) (h1 : n < 1000000000) (h : ∀ k : Nat, (k : Int) < n → Q (nD k)) : (HDraw [.src, .int n]).p Q := by
  rw [hdraw_p]
  exact ⟨h0, by omega, fun k hk hk2 => by
    have := h k.toNat (by omega)
    rwa [nD, Int.toNat_of_nonneg hk] at this⟩
end
/-! the steps of a reckoning: proofs that are no `rfl`, so that the kernel follows them one by one -/
section
variable {α β : Type}
theorem e_ret (a : α) : (ret a : Option α) = some a := (mo_some a).trans rfl
theorem e_bnd (m : Option α) (f : α → Option β) : bnd m f = m.bind f := (mo_bind m f).trans rfl
theorem e_ofO (m : Option α) : (ofO m : Option α) = m := (mo_ofO m).trans rfl
theorem e_op1 (f : D → Option α) (x : D) : op1 (M := Option) f (some x) = f x := (op1_some f x).trans rfl
theorem e_op2 (f : D → D → Option α) (x y : D) : op2 (M := Option) f (some x) (some y) = f x y := (op2_some f x y).trans rfl
theorem e_op3 (f : D → D → D → Option α) (x y z : D) : op3 (M := Option) f (some x) (some y) (some z) = f x y z := (op3_some f x y z).trans rfl
theorem e_args0 : args ([] : List (Option D)) = some [] := args_nil.trans rfl
theorem e_args1 (x : D) (xs : List D) (ms : List (Option D)) (h : args ms = some xs) : args (some x :: ms) = some (x :: xs) := by rw [args_some, h]; rfl
theorem e_args (x : D) (ms : List (Option D)) : args (some x :: ms) = (args ms).map (x :: ·) := args_some x ms
theorem e_tupM (xs : List D) : tupM (some xs) = some (.tup xs) := (tupM_some xs).trans rfl
theorem e_lstM (xs : List D) : lstM (some xs) = some (.lst xs) := (lstM_some xs).trans rfl
theorem e_appM (A : List D → Option D) (ds : List D) : appM (M := Option) A (some ds) = A ds := (appM_some A ds).trans rfl
theorem e_bind (a : α) (f : α → Option β) : (some a).bind f = f a := (Option.bind_some a f).trans rfl
theorem e_map (a : α) (f : α → β) : (some a).map f = some (f a) := Eq.trans (b := some (f a)) rfl rfl
theorem e_un2 (a b : D) (k : D → D → Option β) : un2 (.tup [a, b]) k = k a b := (un2_tup a b k).trans rfl
theorem e_un3 (a b c : D) (k : D → D → D → Option β) : un3 (.tup [a, b, c]) k = k a b c := (un3_tup a b c k).trans rfl
theorem e_un4 (a b c d : D) (k : D → D → D → D → Option β) : un4 (.tup [a, b, c, d]) k = k a b c d := (un4_tup a b c d k).trans rfl
theorem e_un5 (a b c d e : D) (k : D → D → D → D → D → Option β) : un5 (.tup [a, b, c, d, e]) k = k a b c d e := (un5_tup a b c d e k).trans rfl
theorem e_ite (b : Bool) (x y : Option α) : ite3 (some b) x y = if b = true then x else y := Eq.trans (b := if b = true then x else y) rfl rfl
theorem e_andT (b : Option Bool) : DL.tAnd (some true) b = b := (tAnd_true b).trans rfl
theorem e_andF (b : Option Bool) : DL.tAnd (some false) b = some false := (tAnd_false b).trans rfl
theorem e_and (a b : Bool) : DL.tAnd (some a) (some b) = some (a && b) := by cases a <;> rfl
theorem e_orT (b : Option Bool) : DL.tOr (some true) b = some true := (tOr_true b).trans rfl
theorem e_orF (b : Option Bool) : DL.tOr (some false) b = b := (tOr_false b).trans rfl
theorem e_or (a b : Bool) : DL.tOr (some a) (some b) = some (a || b) := by cases a <;> rfl
theorem e_not (b : Bool) : DL.tNot (some b) = some (!b) := (tNot_some b).trans rfl
theorem e_toB (b : Bool) : toB (some (.bl b)) = some b := (toB_some b).trans rfl
theorem e_tru (d : D) : truM (M := Option) (some d) = asT d := (truM_some d).trans rfl
theorem e_vB (b : Bool) : vB (some b) = some (.bl b) := (vB_some b).trans rfl
theorem e_when (b : Bool) (x : α) : whenM (some b) (some x) = some (if b = true then some x else none) := by cases b <;> rfl
theorem e_some (x : α) : someM (M := Option) (some x) = some (some x) := Eq.trans (b := some (some x)) rfl rfl
theorem e_intM (n : Int) : intM (some n) = some (.int n) := (intM_some n).trans rfl
theorem e_sumQ (ds : List D) (f : D → Option (Option D)) : sumQ (some ds) f = sumG f ds 0 := (sumQ_some ds f).trans rfl
theorem e_allQ (ds : List D) (f : D → Option Bool) : allQ (some ds) f = allG f ds := (allQ_some ds f).trans rfl
theorem e_anyQ (ds : List D) (f : D → Option Bool) : anyQ (some ds) f = anyG f ds := (anyQ_some ds f).trans rfl
theorem e_lcM {β : Type} {l : List β} {e : β → D} (f : D → Option α) (h : l.length ≤ 16777216) : lcM (some (l.map e)) f = mapG f (l.map e) := by rw [lcM_some, chkL_m h, Option.bind_some]
theorem e_lcF {β : Type} {l : List β} {e : β → D} (f : D → Option (Option α)) (h : l.length ≤ 16777216) : lcF (some (l.map e)) f = filG f (l.map e) := by rw [lcF_some, chkL_m h, Option.bind_some]
theorem e_lc2M {β : Type} {l : List β} {e : β → D} (f : D → Option (List D)) (h : l.length ≤ 4000) : lc2M (some (l.map e)) f = catG f (l.map e) := by rw [lc2M_some, chk4_m h, Option.bind_some]
theorem e_in4M {β : Type} {l : List β} {e : β → D} (f : D → Option D) (h : l.length ≤ 4000) : in4M (some (l.map e)) f = mapG f (l.map e) := by rw [in4M_some, chk4_m h, Option.bind_some]
theorem e_in4F {β : Type} {l : List β} {e : β → D} (f : D → Option (Option D)) (h : l.length ≤ 4000) : in4F (some (l.map e)) f = filG f (l.map e) := by rw [in4F_some, chk4_m h, Option.bind_some]
theorem e_nlM (t : Bool) (d : D) : nlM t (some d) = oNL t d := (nlM_some t d).trans rfl
theorem e_nlI (i : Int) : oNL false (.int i) = some (.int i) := (oNL_int i).trans rfl
theorem e_nlB (i : Bool) : oNL false (.bl i) = some (.bl i) := (oNL_bl i).trans rfl
theorem e_nlS (i : PySem.Str) : oNL false (.str i) = some (.str i) := (oNL_str i).trans rfl
theorem e_nlN : oNL false .non = some .non := oNL_non.trans rfl
theorem e_nlL (l : List Int) : oNL true (.lst (l.map D.int)) = some (.lst (l.map D.int)) := nl_lst nl_int l
theorem e_nlT (l : List Int) : oNL false (.tup (l.map D.int)) = some (.tup (l.map D.int)) := nl_tup nl_int l
theorem e_nlLL (l : List (List Int)) : oNL true (.lst (l.map dI)) = some (.lst (l.map dI)) := nl_lst nl_dI l
theorem e_nlTT (l : List (List Int)) : oNL false (.tup (l.map dI)) = some (.tup (l.map dI)) := nl_tup nl_dI l
theorem e_nlR (l : List Nat) : oNL true (.lst (l.map nD)) = some (.lst (l.map nD)) := nl_lst (fun _ => rfl) l
theorem e_nlE : oNL true (.lst []) = some (.lst []) := rfl
theorem e_app (ds : List D) (x : D) : appL (.lst ds) (some x) = appO ds x := (appL_some ds x).trans rfl
theorem e_set (ds : List D) (x k : D) : setL (.lst ds) (some x) (some k) = setO ds k x := (setL_some ds x k).trans rfl
theorem e_ext (ds : List D) (x : D) : extL (.lst ds) (some x) = extO ds x := (extL_some ds x).trans rfl
theorem e_pop (ds : List D) : popL (M := Option) (.lst ds) = popO ds := (popL_some ds).trans rfl
theorem e_popAt (ds : List D) (k : D) : popAtL (.lst ds) (some k) = popAtO ds k := (popAtL_some ds k).trans rfl
theorem e_bndP (a b : D) (k : D → D → Option β) : bndP (some (a, b)) k = k a b := (bndP_some a b k).trans rfl
theorem e_slL (x : D) (lo hi : Option Int) : slL (M := Option) (some x) (some lo) (some hi) = oSlL x lo hi := Eq.trans (b := oSlL x lo hi) rfl rfl
theorem e_slM (x : D) (lo hi : Option Int) : slM (M := Option) (some x) (some lo) (some hi) = oSl x lo hi := (slM_some x lo hi).trans rfl
theorem e_somI (i : Int) : somI (some (.int i)) = some (some i) := (somI_some i).trans rfl
theorem e_ctlN {σ : Type} (kr : D → Option β) (kn : σ → Option β) (s : σ) : ctlK kr kn (.nx s) = kn s := (ctlK_nx kr kn s).trans rfl
theorem e_ctlR {σ : Type} (kr : D → Option β) (kn : σ → Option β) (d : D) : ctlK kr kn (.rt d : Ctl σ) = kr d := (ctlK_rt kr kn d).trans rfl
theorem e_withK {τ : Type} (K : τ → Option β) (b : (τ → Option β) → Option β) : withK K b = b K := (withK_eq K b).trans rfl
theorem e_isNN (n : Bool) : bIsN n .non .non = some (!n) := Eq.trans (b := some (!n)) rfl rfl
theorem e_isNI (n : Bool) (i : Int) : bIsN n (.int i) .non = some n := Eq.trans (b := some n) rfl rfl
theorem e_isNT (n : Bool) (xs : List D) : bIsN n (.tup xs) .non = some n := Eq.trans (b := some n) rfl rfl
theorem e_isNB (n : Bool) (xs : Bool) : bIsN n (.bl xs) .non = some n := Eq.trans (b := some n) rfl rfl
end
/-! loops that hand back what they find -/
def toCtl {σ : Type} (o : Option D) (s : σ) : Ctl σ := match o with
  | some d => .rt d
  | none => .nx s
section
variable {ι τ σ α : Type} {dec : ι → D} {enc : τ → σ}
theorem forC_some {f : D → σ → Option (Ctl σ)} {s : σ} {e : α → D} (g : ι → Option α) : ∀ {is : List ι}, (∀ i ∈ is, f (dec i) s = some (toCtl ((g i).map e) s)) → forC f (is.map dec) s = some (toCtl ((is.findSome? g).map e) s)
  | [], _ => rfl
  | i :: r, h => by
    show (f (dec i) s).bind _ = _
    rw [h i (List.mem_cons_self ..), List.findSome?_cons, Option.bind_some]
    cases g i with
    | some d => rfl
    | none => exact forC_some g fun j hj => h j (List.mem_cons_of_mem _ hj)
theorem e_findN {ρ : Type} (o : Option D) (s : σ) (t : ρ) : (some (toCtl o s)).bind (ctlK (fun r => some (Ctl.rt r)) fun _ => some (.nx t)) = some (toCtl o t) := by cases o <;> rfl
theorem e_find (o : Option D) (s : σ) (v : D) : (some (toCtl o s)).bind (ctlK (fun r => some r) fun _ => some v) = some (o.getD v) := by cases o <;> rfl
theorem e_toT {s : σ} (b : Bool) (x : α) (e : α → D) : (if b = true then some (Ctl.rt (e x)) else some (.nx s)) = some (toCtl ((if b = true then some x else none).map e) s) := by cases b <;> rfl
/-- a loop that is left at the first that serves -/
theorem forC_hit {f : D → σ → Option (Ctl σ)} {s : σ} {p : ι → Bool} {v : ι → σ} : ∀ {is : List ι}, (∀ i ∈ is, f (dec i) s = some (if p i = true then .bk (v i) else .nx s)) → (∃ i ∈ is, p i = true) → ∃ i ∈ is, p i = true ∧ forC f (is.map dec) s = some (.nx (v i))
  | [], _, h => by obtain ⟨i, hi, _⟩ := h; cases hi
  | i :: r, h, he => by
    have h0 := h i (List.mem_cons_self ..)
    by_cases hp : p i = true
    · refine ⟨i, List.mem_cons_self .., hp, ?_⟩
      show (f (dec i) s).bind _ = _
      rw [h0, if_pos hp]; rfl
    · obtain ⟨j, hj, hpj, e⟩ := forC_hit (is := r) (fun j hj => h j (List.mem_cons_of_mem _ hj)) (by
        obtain ⟨j, hj, hpj⟩ := he
        rcases List.mem_cons.mp hj with rfl | hj
        · exact absurd hpj hp
        · exact ⟨j, hj, hpj⟩)
      refine ⟨j, List.mem_cons_of_mem _ hj, hpj, ?_⟩
      show (f (dec i) s).bind _ = _
      rw [h0, if_neg hp]
      exact e
end
/-! parts of lists -/
section
variable {α : Type} {e : α → D}
theorem cut_to {l : List α} {k : Int} (h : k ≤ l.length) (h0 : 0 ≤ k) : cutD (l.map e) none (some k) = (l.take k.toNat).map e := by
  unfold cutD
  have : HT.sIx (l.map e).length (l.map e).length (some k) = k.toNat := by
    show (if k < 0 then _ else min k.toNat _) = _
    rw [if_neg (by omega), List.length_map]
    omega
  have h2 : HT.sIx (l.map e).length 0 none = 0 := rfl
  rw [this, h2, List.drop_zero, Nat.sub_zero, List.map_take]
theorem cut_from {l : List α} {k : Int} (h : k ≤ l.length) (h0 : 0 ≤ k) : cutD (l.map e) (some k) none = (l.drop k.toNat).map e := by
  unfold cutD
  have : HT.sIx (l.map e).length 0 (some k) = k.toNat := by
    show (if k < 0 then _ else min k.toNat _) = _
    rw [if_neg (by omega), List.length_map]
    omega
  have h2 : HT.sIx (l.map e).length (l.map e).length none = l.length := by show (l.map e).length = _; rw [List.length_map]
  rw [this, h2, List.map_drop]
  apply List.take_of_length_le
  rw [List.length_drop, List.length_map]
  omega
theorem slT_to {l : List α} {k : Int} (h : k ≤ l.length) (h0 : 0 ≤ k) : oSl (.tup (l.map e)) none (some k) = some (.tup ((l.take k.toNat).map e)) := by rw [oSl, cut_to h h0]
theorem slT_from {l : List α} {k : Int} (h : k ≤ l.length) (h0 : 0 ≤ k) : oSl (.tup (l.map e)) (some k) none = some (.tup ((l.drop k.toNat).map e)) := by rw [oSl, cut_from h h0]
theorem slL_to {l : List α} {k : Int} (h : k ≤ l.length) (h0 : 0 ≤ k) : oSl (.lst (l.map e)) none (some k) = some (.lst ((l.take k.toNat).map e)) := by rw [oSl, cut_to h h0]
theorem slL_from {l : List α} {k : Int} (h : k ≤ l.length) (h0 : 0 ≤ k) : oSl (.lst (l.map e)) (some k) none = some (.lst ((l.drop k.toNat).map e)) := by rw [oSl, cut_from h h0]
theorem slLL_to {l : List α} {k : Int} (h : k ≤ l.length) (h0 : 0 ≤ k) : oSlL (.lst (l.map e)) none (some k) = some (.lst ((l.take k.toNat).map e)) := by rw [oSlL, cut_to h h0]
theorem slLL_from {l : List α} {k : Int} (h : k ≤ l.length) (h0 : 0 ≤ k) : oSlL (.lst (l.map e)) (some k) none = some (.lst ((l.drop k.toNat).map e)) := by rw [oSlL, cut_from h h0]
end
/-! wishes, step by step -/
section
variable {α β σ τ : Type}
theorem w_ret (a : α) (Q : α → Prop) : (ret a : P α).p Q = Q a := Eq.trans (b := Q a) rfl rfl
theorem w_bnd (m : P α) (f : α → P β) (Q : β → Prop) : (bnd m f).p Q = m.p fun a => (f a).p Q := Eq.trans (b := m.p fun a => (f a).p Q) rfl rfl
theorem w_ofO (o : Option α) (Q : α → Prop) : (ofO o : P α).p Q = ∃ a, o = some a ∧ Q a := Eq.trans (b := ∃ a, o = some a ∧ Q a) rfl rfl
theorem w_op1 (f : D → Option α) (a : P D) (Q : α → Prop) : (op1 f a : P α).p Q = a.p fun x => ∃ d, f x = some d ∧ Q d := (op1_p f a Q).trans rfl
theorem w_op2 (f : D → D → Option α) (a b : P D) (Q : α → Prop) : (op2 f a b : P α).p Q = a.p fun x => b.p fun y => ∃ d, f x y = some d ∧ Q d := (op2_p f a b Q).trans rfl
theorem w_args0 (Q : List D → Prop) : (args [] : P (List D)).p Q = Q [] := (args_nil_p Q).trans rfl
theorem w_args (m : P D) (ms : List (P D)) (Q : List D → Prop) : (args (m :: ms) : P (List D)).p Q = m.p fun x => (args ms).p fun xs => Q (x :: xs) := (args_cons_p m ms Q).trans rfl
theorem w_tupM (m : P (List D)) (Q : D → Prop) : (tupM m).p Q = m.p fun xs => Q (.tup xs) := (tupM_p m Q).trans rfl
theorem w_lstM (m : P (List D)) (Q : D → Prop) : (lstM m).p Q = m.p fun xs => Q (.lst xs) := (lstM_p m Q).trans rfl
theorem w_appP (H : List D → P D) (m : P (List D)) (Q : D → Prop) : (appP H m).p Q = m.p fun ds => (H ds).p Q := (appP_p H m Q).trans rfl
theorem w_appM (A : List D → Option D) (m : P (List D)) (Q : D → Prop) : (appM A m).p Q = m.p fun ds => ∃ d, A ds = some d ∧ Q d := (appM_p A m Q).trans rfl
theorem w_ite (c : P Bool) (a b : P α) (Q : α → Prop) : (ite3 c a b).p Q = c.p fun k => (if k = true then a else b).p Q := (ite3_p c a b Q).trans rfl
theorem w_if (c : Prop) [Decidable c] (a b : P α) (Q : α → Prop) : (if c then a else b).p Q = if c then a.p Q else b.p Q := ifp c a b Q
theorem w_vB (m : P Bool) (Q : D → Prop) : (vB m).p Q = m.p fun b => Q (.bl b) := (vB_p m Q).trans rfl
theorem w_toB (m : P D) (Q : Bool → Prop) : (toB m).p Q = m.p fun d => ∃ b, asB d = some b ∧ Q b := (toB_p m Q).trans rfl
theorem w_truM (m : P D) (Q : Bool → Prop) : (truM m).p Q = m.p fun d => ∃ b, asT d = some b ∧ Q b := (truM_p m Q).trans rfl
theorem w_tNot (m : P Bool) (Q : Bool → Prop) : (DL.tNot m).p Q = m.p fun b => Q (!b) := (tNot_p m Q).trans rfl
theorem w_tAnd (a b : P Bool) (Q : Bool → Prop) : (DL.tAnd a b).p Q = a.p fun k => if k = true then b.p Q else Q false := tAnd_p a b Q
theorem w_tOr (a b : P Bool) (Q : Bool → Prop) : (DL.tOr a b).p Q = a.p fun k => if k = true then Q true else b.p Q := tOr_p a b Q
theorem w_nlM (t : Bool) (m : P D) (Q : D → Prop) : (nlM t m).p Q = m.p fun d => ∃ d', oNL t d = some d' ∧ Q d' := (nlM_p t m Q).trans rfl
theorem w_lcM (mi : P (List D)) (f : D → P α) (Q : List α → Prop) : (lcM mi f).p Q = mi.p fun ds => ∃ ds', chkL ds = some ds' ∧ (mapG f ds').p Q := (lcM_p mi f Q).trans rfl
theorem w_lcF (mi : P (List D)) (f : D → P (Option α)) (Q : List α → Prop) : (lcF mi f).p Q = mi.p fun ds => ∃ ds', chkL ds = some ds' ∧ (filG f ds').p Q := Eq.trans (b := mi.p fun ds => ∃ ds', chkL ds = some ds' ∧ (filG f ds').p Q) rfl rfl
theorem w_whenM (c : P Bool) (e : P α) (Q : Option α → Prop) : (whenM c e).p Q = c.p fun k => if k = true then e.p fun y => Q (some y) else Q none := by
  show (c.p fun k => (if k = true then bnd e fun y => ret (some y) else ret none : P (Option α)).p Q) = _
  congr 1; funext k; rw [ifp]; rfl
theorem w_slM (m : P D) (lo hi : P (Option Int)) (Q : D → Prop) : (slM m lo hi).p Q = m.p fun x => lo.p fun a => hi.p fun b => ∃ d, oSl x a b = some d ∧ Q d := (slM_p m lo hi Q).trans rfl
theorem w_slL (m : P D) (lo hi : P (Option Int)) (Q : D → Prop) : (slL m lo hi).p Q = m.p fun x => lo.p fun a => hi.p fun b => ∃ d, oSlL x a b = some d ∧ Q d := (slL_p m lo hi Q).trans rfl
theorem w_somI (m : P D) (Q : Option Int → Prop) : (somI m).p Q = m.p fun d => ∃ i, asI d = some i ∧ Q (some i) := (somI_p m Q).trans rfl
theorem w_asI (i : Int) : asI (.int i) = some i := Eq.trans (b := some i) rfl rfl
theorem w_appL (xs : D) (m : P D) (Q : D → Prop) : (appL xs m).p Q = ∃ ds, asL xs = some ds ∧ m.p fun x => ∃ d, appO ds x = some d ∧ Q d := (appL_p xs m Q).trans rfl
theorem w_asL (ds : List D) : asL (.lst ds) = some ds := Eq.trans (b := some ds) rfl rfl
theorem w_setL (xs : D) (mv mk : P D) (Q : D → Prop) : (setL xs mv mk).p Q = mv.p fun x => ∃ ds, asL xs = some ds ∧ mk.p fun k => ∃ d, setO ds k x = some d ∧ Q d := Eq.trans (b := mv.p fun x => ∃ ds, asL xs = some ds ∧ mk.p fun k => ∃ d, setO ds k x = some d ∧ Q d) rfl rfl
theorem w_un2 (a b : D) (k : D → D → P β) : un2 (.tup [a, b]) k = k a b := (un2_tup a b k).trans rfl
theorem w_un3 (a b c : D) (k : D → D → D → P β) : un3 (.tup [a, b, c]) k = k a b c := (un3_tup a b c k).trans rfl
theorem w_un4 (a b c d : D) (k : D → D → D → D → P β) : un4 (.tup [a, b, c, d]) k = k a b c d := (un4_tup a b c d k).trans rfl
theorem w_ctlN (kr : D → P β) (kn : σ → P β) (s : σ) : ctlK kr kn (.nx s) = kn s := (ctlK_nx kr kn s).trans rfl
theorem w_ctlR (kr : D → P β) (kn : σ → P β) (d : D) : ctlK kr kn (.rt d : Ctl σ) = kr d := (ctlK_rt kr kn d).trans rfl
theorem w_bndP (m : P (D × D)) (k : D → D → P β) (Q : β → Prop) : (bndP m k).p Q = m.p fun p => (k p.1 p.2).p Q := (bndP_p m k Q).trans rfl
theorem w_ex {a : α} {Q : α → Prop} : (∃ d, some a = some d ∧ Q d) = Q a := propext ⟨fun ⟨_, e, h⟩ => by cases e; exact h, fun h => ⟨a, rfl, h⟩⟩
theorem w_exm {o : Option α} {f : α → β} {Q : β → Prop} : (∃ d, o.map f = some d ∧ Q d) = ∃ a, o = some a ∧ Q (f a) := propext ⟨fun ⟨_, e, h⟩ => by
  cases o with
  | none => cases e
  | some a => cases e; exact ⟨a, rfl, h⟩, fun ⟨a, e, h⟩ => ⟨f a, by rw [e]; rfl, h⟩⟩
theorem w_draw (n : Int) (Q : D → Prop) : (HDraw [.src, .int n]).p Q = (0 < n ∧ n < 18446744073709551616 ∧ ∀ k : Int, 0 ≤ k → k < n → Q (.int k)) := hdraw_p n Q
theorem w_true {p : Prop} (h : p) : p = True := propext ⟨fun _ => trivial, fun _ => h⟩
/-- a loop that always goes on -/
theorem forC_all {ι : Type} {dec : ι → D} {f : D → σ → P (Ctl σ)} {Q : Ctl σ → Prop} (I : σ → Prop) {is : List ι} {s : σ} (h0 : I s) (h : ∀ i ∈ is, ∀ s, I s → (f (dec i) s).p fun c => ∃ s', c = .nx s' ∧ I s') (hQ : ∀ s, I s → Q (.nx s)) : (forC f (is.map dec) s).p Q := by
  refine forC_inv (fun _ s => I s) h0 (fun n d s hd hs => ?_) hQ
  obtain ⟨i, hi, rfl⟩ := List.mem_map.mp (List.mem_of_getElem? hd)
  exact P.mono _ (fun c ⟨s', e, hs'⟩ => by subst e; exact hs') (h i hi s hs)
end
/-- a drawn list: what is known of each item -/
theorem mapG_enc {ι β : Type} {dec : ι → D} {enc : β → D} {f : D → P D} {Q : List D → Prop} (p : β → Prop) : ∀ {is : List ι}, (∀ i ∈ is, (f (dec i)).p fun d => ∃ x, d = enc x ∧ p x) → (∀ l : List β, l.length = is.length → (∀ x ∈ l, p x) → Q (l.map enc)) → (mapG f (is.map dec)).p Q
  | [], _, hQ => hQ [] rfl (fun x hx => by cases hx)
  | i :: r, h, hQ => by
    refine (f (dec i)).mono (fun d ⟨x, e, hx⟩ => ?_) (h i (List.mem_cons_self ..))
    subst e
    refine mapG_enc (Q := fun ys => Q (enc x :: ys)) p (is := r) (fun j hj => h j (List.mem_cons_of_mem _ hj)) fun l hl hp => ?_
    have := hQ (x :: l) (by simp [hl]) fun y hy => by
      rcases List.mem_cons.mp hy with rfl | hy
      · exact hx
      · exact hp y hy
    exact this
theorem mapG_ints {ι : Type} {dec : ι → D} {f : D → P D} {Q : List D → Prop} (p : Int → Prop) {is : List ι} (h : ∀ i ∈ is, (f (dec i)).p fun d => ∃ x, d = .int x ∧ p x) (hQ : ∀ l : List Int, l.length = is.length → (∀ x ∈ l, p x) → Q (l.map D.int)) : (mapG f (is.map dec)).p Q := mapG_enc p h hQ
/-! shuffles -/
theorem eraseIdx_map' {α β : Type} {f : α → β} : ∀ (l : List α) (k : Nat), (l.map f).eraseIdx k = (l.eraseIdx k).map f
  | [], _ => rfl
  | a :: l, 0 => rfl
  | a :: l, k + 1 => by
    show f a :: (l.map f).eraseIdx k = f a :: (l.eraseIdx k).map f
    rw [eraseIdx_map' l k]
theorem popAt_map {α : Type} [Inhabited α] {enc : α → D} {row : List α} {k : Int} (h0 : 0 ≤ k) (h : k < row.length) (hl : row.length ≤ 1000000) : popAtO (row.map enc) (.int k) = some (.lst ((row.eraseIdx k.toNat).map enc), enc (ga row k.toNat)) := by
  unfold popAtO
  dsimp only
  rw [if_pos ⟨by omega, by omega⟩]
  have : ixN (row.map enc).length k = some k.toNat := by unfold ixN; rw [List.length_map, if_pos h0, if_pos h]
  rw [this, Option.bind_some, List.getElem?_map, ga_some (by omega)]
  simp only [Option.map_some]
  congr 2
  congr 1
  exact eraseIdx_map' _ _
theorem shuffle_p {α : Type} [Inhabited α] {enc : α → D} {f : D → D → P (D × D)} (hf : ∀ (d : D) (row : List α) (Q : D × D → Prop), row ≠ [] → row.length ≤ 1000 → (∀ k, k < row.length → Q (.lst ((row.eraseIdx k).map enc), enc (ga row k))) → (f d (.lst (row.map enc))).p Q) : ∀ (ds : List D) (row : List α) (Q : List D → Prop), ds.length ≤ row.length → row.length ≤ 1000 → (∀ l : List α, l.length = ds.length → (∀ x ∈ l, x ∈ row) → Q (l.map enc)) → (popG f ds (.lst (row.map enc))).p Q
  | [], row, Q, _, _, hQ => hQ [] rfl (fun x hx => by cases hx)
  | d :: r, row, Q, hl, hr, hQ => by
    rw [List.length_cons] at hl
    refine hf d row _ (fun e => by rw [e] at hl; simp at hl) hr fun k hk => ?_
    refine shuffle_p hf r (row.eraseIdx k) _ (by rw [List.length_eraseIdx, if_pos hk]; omega) (by rw [List.length_eraseIdx]; split <;> omega) fun l h1 h2 => ?_
    have := hQ (ga row k :: l) (by simp [h1]) fun x hx => by
      rcases List.mem_cons.mp hx with rfl | hx
      · exact ga_mem hk
      · exact List.mem_of_mem_eraseIdx (h2 x hx)
    exact this
theorem popDraw_p {α : Type} [Inhabited α] {enc : α → D} (d : D) (row : List α) (Q : D × D → Prop) (h0 : row ≠ []) (h1 : row.length ≤ 1000) (h : ∀ k, k < row.length → Q (.lst ((row.eraseIdx k).map enc), enc (ga row k))) : (popAtL (.lst (row.map enc)) (appP HDraw (args [(ret .src), (op1 oLen (ret (.lst (row.map enc))))])) : P (D × D)).p Q := by
  have : 0 < row.length := List.length_pos_iff.mpr h0
  refine ⟨row.map enc, rfl, ?_⟩
  have e : (fun a => (bnd (appP HDraw (args [ret D.src, op1 oLen (ret (D.lst (row.map enc)))])) fun k => ofO (popAtO a k) : P (D × D)).p Q) (row.map enc) = ∃ d, oLen (D.lst (row.map enc)) = some d ∧ (HDraw [.src, d]).p fun k => ∃ p, popAtO (row.map enc) k = some p ∧ Q p := Eq.trans (b := ∃ d, oLen (D.lst (row.map enc)) = some d ∧ (HDraw [.src, d]).p fun k => ∃ p, popAtO (row.map enc) k = some p ∧ Q p) rfl rfl
  refine e.mpr ⟨_, len_lst, draw_p (by omega) (by omega) fun k hk => ⟨_, popAt_map (by omega) hk (by omega), ?_⟩⟩
  rw [Int.toNat_natCast]
  exact h k (by omega)
theorem div_pos {i j : Int} (h : j < 18446744073709551616) (h0 : 0 < j) : oDiv (.int i) (.int j) = some (.int (i / j)) := by
  unfold oDiv; dsimp only
  rw [if_pos]
  refine ⟨h0, ?_⟩
  have h1 : j.natAbs < 2 ^ 64 := by omega
  have : j.natAbs.log2 < 64 := (Nat.log2_lt (by omega)).mpr h1
  omega
theorem take_min' {α : Type} (l : List α) (k : Nat) : l.take (min k l.length) = l.take k := by
  by_cases h : k ≤ l.length
  · rw [Nat.min_eq_left h]
  · rw [Nat.min_eq_right (by omega), List.take_length, List.take_of_length_le (by omega)]
theorem cut_to' {α : Type} {e : α → D} {l : List α} {k : Int} (h0 : 0 ≤ k) : cutD (l.map e) none (some k) = (l.take k.toNat).map e := by
  unfold cutD
  have : HT.sIx (l.map e).length (l.map e).length (some k) = min k.toNat l.length := by
    show (if k < 0 then _ else min k.toNat _) = _
    rw [if_neg (by omega), List.length_map]
  have h2 : HT.sIx (l.map e).length 0 none = 0 := rfl
  rw [this, h2, List.drop_zero, Nat.sub_zero, ← List.map_take, take_min']
theorem slLL_to' {α : Type} {e : α → D} {l : List α} {k : Int} (h0 : 0 ≤ k) : oSlL (.lst (l.map e)) none (some k) = some (.lst ((l.take k.toNat).map e)) := by rw [oSlL, cut_to' h0]
theorem slL_to' {α : Type} {e : α → D} {l : List α} {k : Int} (h0 : 0 ≤ k) : oSl (.lst (l.map e)) none (some k) = some (.lst ((l.take k.toNat).map e)) := by rw [oSl, cut_to' h0]
theorem slT_to' {α : Type} {e : α → D} {l : List α} {k : Int} (h0 : 0 ≤ k) : oSl (.tup (l.map e)) none (some k) = some (.tup ((l.take k.toNat).map e)) := by rw [oSl, cut_to' h0]
/-- the first n numbers, as ints -/
def rI (n : Nat) : List Int := (List.range n).map fun (k : Nat) => (k : Int)
theorem rI_map (n : Nat) : (List.range n).map nD = (rI n).map D.int := by unfold rI; rw [List.map_map]; rfl
theorem rI_len (n : Nat) : (rI n).length = n := by simp [rI]
theorem rI_mem {n : Nat} {x : Int} : x ∈ rI n ↔ 0 ≤ x ∧ x < n := by
  unfold rI
  rw [List.mem_map]
  constructor
  · rintro ⟨k, hk, rfl⟩
    have := List.mem_range.mp hk
    omega
  · intro h
    exact ⟨x.toNat, List.mem_range.mpr (by omega), by omega⟩
theorem filter_few {l : List Nat} (hl : l.Nodup) : ∀ pl : List Int, (l.filter fun (i : Nat) => decide ((i : Int) ∈ pl)).length ≤ pl.length := by
  induction l with
  | nil => intro pl; simp
  | cons i r ih =>
    intro pl
    have hn := List.nodup_cons.mp hl
    rw [List.filter_cons]
    by_cases h : (i : Int) ∈ pl
    · rw [if_pos (decide_eq_true h), List.length_cons]
      have e : (r.filter fun (j : Nat) => decide ((j : Int) ∈ pl)) = r.filter fun (j : Nat) => decide ((j : Int) ∈ pl.erase (i : Int)) := by
        apply List.filter_congr
        intro j hj
        have : (j : Int) ≠ i := fun e => hn.1 (by rw [← Int.ofNat_inj.mp e]; exact hj)
        exact decide_eq_decide.mpr (List.mem_erase_of_ne this).symm
      rw [e]
      have h1 := ih hn.2 (pl.erase (i : Int))
      have h2 := List.length_erase_of_mem h
      have h3 := List.length_pos_of_mem h
      omega
    · rw [if_neg (by simpa using h)]
      exact ih hn.2 pl
theorem mapG_at {ι α : Type} {dec : ι → D} {f : D → P α} {Q : List α → Prop} (g : ι → α) : ∀ {is : List ι}, (∀ i ∈ is, ∀ Q : α → Prop, Q (g i) → (f (dec i)).p Q) → Q (is.map g) → (mapG f (is.map dec)).p Q
  | [], h, hQ => hQ
  | i :: r, h, hQ => h i (List.mem_cons_self ..) _ (mapG_at g (is := r) (fun x hx => h x (List.mem_cons_of_mem _ hx)) hQ)
end DL

namespace My
open PySem PySem.Spec PyProof.Rows L2 DL
def top (i : Nat) : Stmt := PySem.Challenge.pw_whoseitis_k74_made_tables_and_words.main.body.getD i (.Pass ⟨0, 0, 0, 0⟩)
abbrev s_full_look : Stmt := top 1
abbrev s_ring_table : Stmt := top 3
abbrev s_block_table : Stmt := top 4
abbrev s_all_words : Stmt := top 5
abbrev s_three_looks : Stmt := top 6
abbrev s_umbrella : Stmt := top 7
abbrev s_law_draw : Stmt := top 9
abbrev s_law_pick : Stmt := top 10
abbrev s_law_so : Stmt := top 11
abbrev s_law_ring : Stmt := top 12
abbrev s_law_blocks : Stmt := top 13
abbrev s_law_words : Stmt := top 14
abbrev s_law_sizes : Stmt := top 15
abbrev s_law : Stmt := top 16
structure Bi (mg : Str → Option Value) : Prop where
  abs : mg "abs" = none
  bool : mg "bool" = none
  enumerate : mg "enumerate" = none
  int : mg "int" = none
  isinstance : mg "isinstance" = none
  len : mg "len" = none
  list : mg "list" = none
  range : mg "range" = none
  str : mg "str" = none
  sum : mg "sum" = none
  tuple : mg "tuple" = none
section
variable {P : Program} {w : World} {K : PySem.W.Frag} {mg : Str → Option Value} {base : Heap} {S : Src}
abbrev N_full_look : List Str := ["shape", "many"]
abbrev P_full_look : List Str := ["shape"]
theorem sc_full_look : FnScope N_full_look P_full_look (defScope s_full_look) := ⟨rfl, rfl, rfl, by decide +kernel, rfl, by decide +kernel, by decide +kernel⟩
def u_full_look : US :=
    (sSeq (sRet (uTupG (uIter (uVar 0)) (gN 1) uYes (u1 fTR1 (uVar 1)) [1])) sNext)
theorem js_full_look {k : Nat} (b : Bi mg) (cdv : Value) (A : Around) (outer : List PySem.Env) (s : Shared) (H : Hp) (E : XK) (f : Addr) (hr : Room (k + 4) (A.deeper (envOfC "full_look" (defScope s_full_look) s.heap.objs.size f cdv))) (cu : GX.CodeUse S.tb (cxOf CX0 P w K mg base N_full_look "full_look" (defScope s_full_look) f cdv A outer s H E).nox) :
    JSs S (cxOf CX0 P w K mg base N_full_look "full_look" (defScope s_full_look) f cdv A outer s H E).nox (defBody s_full_look) (u_full_look) := by
  have sc := sc_full_look
  exact (jss_cons (js_ret (je_tupG (k := k) (own := [("many", 1)]) hr rfl sc.nd cu ⟨blkOk_by (by kernel_rfl), rfl, by decide +kernel, rfl, nodot_by (by kernel_rfl)⟩ b.tuple (ji_seq (je_var 0)) (fun _ _ _ _ _ _ _ _ hr cu => (jg_name [1] sc.nd)) (fun _ _ _ _ _ _ _ _ hr cu => jts_nil) (fun _ _ _ _ _ _ _ _ hr cu => (je_tr1 rfl b.tuple b.range (je_var 1))) (gon_n rfl))) jss_nil)
noncomputable def F_full_look (shape1 : D) : Option D :=
  (Mo.bnd (tupM (lcM (op1 oItems (Mo.ret shape1)) fun d2 => (op1 oTR1 (Mo.ret d2)))) fun r3 => Mo.ret r3)
theorem si_full_look (shape1 : D) (R : UK) : SI (fun d => R false d) { nx := fun _ => R false .non, rt := R } [some (false, shape1), none] (u_full_look ) (F_full_look shape1) := by
  unfold u_full_look F_full_look
  exact (si_ret (ei_tupG (wi_seq (ei_var (x := shape1))) fun d2 Q h => (tg_n (el_id (ei_1 tr1_ok (ei_var (x := d2))) h))) fun r3 q => rr q)
noncomputable def A_full_look : List D → Option D
  | [shape1] => F_full_look shape1
  | _ => none
theorem len_full_look : ∀ ds R, cF A_full_look false ds R → ds.length = P_full_look.length := fun ds R h => match ds, h with | [shape1], _ => rfl | [], h => (by first | (obtain ⟨_, e, _⟩ := h; cases e) | exact (run_fail h).elim) | _ :: _ :: _, h => (by first | (obtain ⟨_, e, _⟩ := h; cases e) | exact (run_fail h).elim)
theorem imp_full_look : ∀ ds R, cF A_full_look false ds R → u_full_look  { nx := fun _ => R false .non, rt := R } (startD N_full_look ds) := fun ds R h => match ds, h with | [shape1], h => si_full_look shape1 R h | [], h => (by first | (obtain ⟨_, e, _⟩ := h; cases e) | exact (run_fail h).elim) | _ :: _ :: _, h => (by first | (obtain ⟨_, e, _⟩ := h; cases e) | exact (run_fail h).elim)
abbrev N_ring_table : List Str := ["n", "rows", "thing", "row"]
abbrev P_ring_table : List Str := ["n"]
theorem sc_ring_table : FnScope N_ring_table P_ring_table (defScope s_ring_table) := ⟨rfl, rfl, rfl, by decide +kernel, rfl, by decide +kernel, by decide +kernel⟩
def u_ring_table : US :=
    (sSeq (sAsg 1 (uLst uNil))
    (sSeq (sForR (uRng1 (uCons (uVar 0) uNil)) (gN 2) (sBody (sSeq (sAsgM [] 3 (u2 fMul (uLst (uCons (u1 fNeg (uC (.int 1))) uNil)) (uVar 0)))
    (sSeq (sSetIx noM 3 (u2 fMod (uSh (u2 fAdd (uVar 2) (uC (.int 1)))) (uVar 0)) (uC (.int 1)))
    (sSeq (sSetIx noM 3 (uVar 2) (uC (.int 0)))
    (sSeq (sMeth allM 1 mAppend (uCons (uF (fA1 fTuple) (uCons (uVar 3) uNil)) uNil))
    sNext))))))
    (sBody (sSeq (sRet (uF (fA1 fTuple) (uCons (uVar 1) uNil))) sNext))))
theorem js_ring_table {k : Nat} (b : Bi mg) (cdv : Value) (A : Around) (outer : List PySem.Env) (s : Shared) (H : Hp) (E : XK) (f : Addr) (hr : Room k (A.deeper (envOfC "ring_table" (defScope s_ring_table) s.heap.objs.size f cdv))) :
    JSs S (cxOf CX0 P w K mg base N_ring_table "ring_table" (defScope s_ring_table) f cdv A outer s H E).nox (defBody s_ring_table) (u_ring_table) := by
  have sc := sc_ring_table
  exact (jss_cons (js_asg sc.nd (je_lst ja_nil) (i := 1))
    (jss_cons (js_forR PassesOwn.never rfl (jr_range1 (by rfl) b.range (ja_cons (je_var 0) ja_nil)) (jg_name [2] sc.nd) (jss_body (jss_cons (js_asgM [] sc.nd (je_mul (je_lst (ja_cons (je_neg je_int) ja_nil)) (je_var 0)) (i := 3))
    (jss_cons (js_setIx noM (i := 3) je_int (je_mod (je_sh (je_add (je_var 2) je_int)) (je_var 0)) rfl)
    (jss_cons (js_setIx noM (i := 3) je_int (je_var 2) rfl)
    (jss_cons (js_app allM (i := 1) (ja_cons (je_tuple b.tuple (ja_cons (je_var 3) ja_nil)) ja_nil))
    jss_nil))))))
    (jss_body (jss_cons (js_ret (je_tuple b.tuple (ja_cons (je_var 1) ja_nil))) jss_nil))))
noncomputable def F_ring_table (n1 : D) : Option D :=
  (Mo.bnd (lstM (args [])) fun rows2 => (Mo.bnd (op1 oRng1 (Mo.ret n1)) fun ds12 => Mo.bnd (forS (fun d4 (s3 : D) => (Mo.bnd (op2 oRep (lstM (args [(op1 oNeg (Mo.ret (DL.D.int 1)))])) (Mo.ret n1)) fun row6 => (Mo.bnd (setL row6 (Mo.ret (DL.D.int 1)) (op2 oMod (op2 oAdd (Mo.ret d4) (Mo.ret (DL.D.int 1))) (Mo.ret n1))) fun row7 => (Mo.bnd (setL row7 (Mo.ret (DL.D.int 0)) (Mo.ret d4)) fun row8 => (Mo.bnd (appL s3 (nlM false (op1 oTuple (Mo.ret row8)))) fun rows9 => (Mo.ret rows9)))))) ds12 rows2) fun s10 : D => (Mo.bnd (op1 oTuple (Mo.ret s10)) fun r11 => Mo.ret r11)))
theorem si_ring_table (n1 : D) (R : UK) : SI (fun d => R false d) { nx := fun _ => R false .non, rt := R } [some (false, n1), none, none, none] (u_ring_table ) (F_ring_table n1) := by
  unfold u_ring_table F_ring_table
  exact (si_asgF (ei_lst ai_nil (hl := lenOk rfl)) fun rows2 => (si_forRS (mk := fun s3 : D => [some (false, n1), some (true, s3), none, none]) (s0 := rows2) (wi_rng1 (ei_var (x := n1))) (fun d4 s3 Ψ E hn hc h => (tgs_n h (si_asgN (ei_rep (ei_lst (ai_cons (ei_1 neg_ok ei_C) ai_nil) (hl := lenOk rfl)) (ei_var (x := n1))) fun row6 => (si_setN ei_C (ei_2 mod_ok (ei_add (ei_var (x := d4)) ei_C) (ei_var (x := n1))) fun row7 => (si_setN ei_C (ei_var (x := d4)) fun row8 => (si_appS (ei_F1 tuple_ok (ei_var (x := row8))) fun rows9 => (si_nx fun q => hn rows9 _ (le_s (le_s (le_n (le_n le_e)))) (rr q)))))))) (le_s (le_s (le_n (le_n le_e)))) (fun s10 => (si_ret (ei_F1 tuple_ok (ei_var (x := s10))) fun r11 q => rr q))))
noncomputable def A_ring_table : List D → Option D
  | [n1] => F_ring_table n1
  | _ => none
theorem len_ring_table : ∀ ds R, cF A_ring_table false ds R → ds.length = P_ring_table.length := fun ds R h => match ds, h with | [n1], _ => rfl | [], h => (by first | (obtain ⟨_, e, _⟩ := h; cases e) | exact (run_fail h).elim) | _ :: _ :: _, h => (by first | (obtain ⟨_, e, _⟩ := h; cases e) | exact (run_fail h).elim)
theorem imp_ring_table : ∀ ds R, cF A_ring_table false ds R → u_ring_table  { nx := fun _ => R false .non, rt := R } (startD N_ring_table ds) := fun ds R h => match ds, h with | [n1], h => si_ring_table n1 R h | [], h => (by first | (obtain ⟨_, e, _⟩ := h; cases e) | exact (run_fail h).elim) | _ :: _ :: _, h => (by first | (obtain ⟨_, e, _⟩ := h; cases e) | exact (run_fail h).elim)
abbrev N_block_table : List Str := ["sizes", "block_of", "number", "size", "rows", "block", "other"]
abbrev P_block_table : List Str := ["sizes"]
theorem sc_block_table : FnScope N_block_table P_block_table (defScope s_block_table) := ⟨rfl, rfl, rfl, by decide +kernel, rfl, by decide +kernel, by decide +kernel⟩
def u_block_table : US :=
    (sSeq (sAsg 1 (uLst uNil))
    (sSeq (sFor [] (uEnum (uCons (uVar 0) uNil)) (gT [(gN 2), (gN 3)]) (sBody (sSeq (sAugL noM 1 (u2 fMul (uLst (uCons (uVar 2) uNil)) (uVar 3)))
    sNext)))
    (sBody (sSeq (sAsgM [] 4 (uLst uNil))
    (sSeq (sFor [1] (uIter (uVar 1)) (gN 5) (sBody (sSeq (sMeth noM 4 mAppend (uCons (uF (fA1 fTuple) (uCons (uLc (uIter (uVar 1)) (gN 6) uYes (uIte (uTest (u2 fEq (uVar 5) (uVar 6))) (uC (.int 0)) (uC (.int 6))) [6]) uNil)) uNil))
    sNext)))
    (sBody (sSeq (sRet (uF (fA1 fTuple) (uCons (uVar 4) uNil))) sNext)))))))
theorem js_block_table {k : Nat} (b : Bi mg) (cdv : Value) (A : Around) (outer : List PySem.Env) (s : Shared) (H : Hp) (E : XK) (f : Addr) (hr : Room k (A.deeper (envOfC "block_table" (defScope s_block_table) s.heap.objs.size f cdv))) :
    JSs S (cxOf CX0 P w K mg base N_block_table "block_table" (defScope s_block_table) f cdv A outer s H E).nox (defBody s_block_table) (u_block_table) := by
  have sc := sc_block_table
  exact (jss_cons (js_asg sc.nd (je_lst ja_nil) (i := 1))
    (jss_cons (js_for [] PassesOwn.never rfl (ji_enum (by rfl) b.enumerate (ja_cons (je_var 0) ja_nil)) (jg_tup rfl (jgs_cons (jg_name [2, 3] sc.nd) (jgs_cons (jg_name [2, 3] sc.nd) (jgs_nil [2, 3])))) (jss_body (jss_cons (js_augL noM (i := 1) sc.nd (je_mul (je_lst (ja_cons (je_var 2) ja_nil)) (je_var 3)))
    jss_nil)))
    (jss_body (jss_cons (js_asgM [] sc.nd (je_lst ja_nil) (i := 4))
    (jss_cons (js_for [1] PassesOwn.never rfl (ji_seq (je_var 1)) (jg_name [5] sc.nd) (jss_body (jss_cons (js_app noM (i := 4) (ja_cons (je_tuple b.tuple (ja_cons (je_lc (own := [("other", 6)]) rfl sc.nd (ji_seq (je_var 1)) (blkOk_by (by kernel_rfl)) (fun _ _ _ _ _ => (jg_name [6] sc.nd)) (fun _ _ _ _ _ => jts_nil) (fun _ _ _ _ _ => (je_ifExp (jt_eq hr (je_var 5) (je_var 6)) je_int je_int))) ja_nil)) ja_nil))
    jss_nil)))
    (jss_body (jss_cons (js_ret (je_tuple b.tuple (ja_cons (je_var 4) ja_nil))) jss_nil)))))))
noncomputable def F_block_table (sizes1 : D) : Option D :=
  (Mo.bnd (lstM (args [])) fun blockof2 => (Mo.bnd (op1 oEnum (Mo.ret sizes1)) fun ds20 => Mo.bnd (forS (fun d4 (s3 : D) => (un2 d4 fun number6 size7 => (Mo.bnd (extL s3 (op2 oRep (lstM (args [(Mo.ret number6)])) (Mo.ret size7))) fun blockof9 => (Mo.ret blockof9)))) ds20 blockof2) fun s10 : D => (Mo.bnd (lstM (args [])) fun rows11 => (Mo.bnd (op1 oItems (Mo.ret s10)) fun ds19 => Mo.bnd (forS (fun d13 (s12 : D) => (Mo.bnd (appL s12 (op1 oTuple (lstM (lcM (op1 oItems (Mo.ret s10)) fun d15 => (ite3 (op2 bEq (Mo.ret d13) (Mo.ret d15)) (Mo.ret (DL.D.int 0)) (Mo.ret (DL.D.int 6))))))) fun rows16 => (Mo.ret rows16))) ds19 rows11) fun s17 : D => (Mo.bnd (op1 oTuple (Mo.ret s17)) fun r18 => Mo.ret r18)))))
theorem si_block_table (sizes1 : D) (R : UK) : SI (fun d => R false d) { nx := fun _ => R false .non, rt := R } [some (false, sizes1), none, none, none, none, none, none] (u_block_table ) (F_block_table sizes1) := by
  unfold u_block_table F_block_table
  exact (si_asgF (ei_lst ai_nil (hl := lenOk rfl)) fun blockof2 => (si_forNS (mk := fun s3 : D => [none, some (true, s3), none, none, none, none, none]) (s0 := blockof2) (wi_enum (ei_var (x := sizes1))) (fun d4 s3 Ψ E hn hc h => (tgs_2 h fun number6 size7 => (si_augLN (ei_rep (ei_lst (ai_cons (ei_var (x := number6)) ai_nil) (hl := lenOk rfl)) (ei_var (x := size7))) fun blockof9 => (si_nx fun q => hn blockof9 _ (le_n (le_s (le_n (le_n (le_n (le_n (le_n le_e))))))) (rr q))))) (le_n (le_s (le_n (le_n (le_n (le_n (le_n le_e))))))) (fun s10 => (si_asgN (ei_lst ai_nil (hl := lenOk rfl)) fun rows11 => (si_forMS (mk := fun s12 : D => [none, some (false, s10), none, none, some (true, s12), none, none]) (s0 := rows11) rfl rfl (wi_seq (ei_var (x := s10))) (fun d13 s12 Ψ E hn hc h => (tgs_n h (si_appN (ei_F1 tuple_ok (ei_lc (wi_seq (ei_var (x := s10))) fun d15 Q h => (tg_n (el_id (ei_ite (ti_2 eq_ok (ei_var (x := d13)) (ei_var (x := d15))) ei_C ei_C) h)))) fun rows16 => (si_nx fun q => hn rows16 _ (le_n (le_s (le_n (le_n (le_s (le_n (le_n le_e))))))) (rr q))))) (le_n (le_s (le_n (le_n (le_s (le_n (le_n le_e))))))) (fun s17 => (si_ret (ei_F1 tuple_ok (ei_var (x := s17))) fun r18 q => rr q)))))))
noncomputable def A_block_table : List D → Option D
  | [sizes1] => F_block_table sizes1
  | _ => none
theorem len_block_table : ∀ ds R, cF A_block_table false ds R → ds.length = P_block_table.length := fun ds R h => match ds, h with | [sizes1], _ => rfl | [], h => (by first | (obtain ⟨_, e, _⟩ := h; cases e) | exact (run_fail h).elim) | _ :: _ :: _, h => (by first | (obtain ⟨_, e, _⟩ := h; cases e) | exact (run_fail h).elim)
theorem imp_block_table : ∀ ds R, cF A_block_table false ds R → u_block_table  { nx := fun _ => R false .non, rt := R } (startD N_block_table ds) := fun ds R h => match ds, h with | [sizes1], h => si_block_table sizes1 R h | [], h => (by first | (obtain ⟨_, e, _⟩ := h; cases e) | exact (run_fail h).elim) | _ :: _ :: _, h => (by first | (obtain ⟨_, e, _⟩ := h; cases e) | exact (run_fail h).elim)
abbrev N_all_words : List Str := ["many", "values", "words", "_", "word", "value"]
abbrev P_all_words : List Str := ["many", "values"]
theorem sc_all_words : FnScope N_all_words P_all_words (defScope s_all_words) := ⟨rfl, rfl, rfl, by decide +kernel, rfl, by decide +kernel, by decide +kernel⟩
def u_all_words : US :=
    (sSeq (sAsg 2 (uLst (uCons (uTup uNil) uNil)))
    (sSeq (sForR (uRng1 (uCons (uVar 0) uNil)) (gN 3) (sBody (sSeq (sAsg 2 (uLc2 (uIter (uVar 2)) (gN 4) uYes (uRng1 (uCons (uVar 1) uNil)) (gN 5) uYes (uSh (u2 fAdd (uVar 4) (uTup (uCons (uVar 5) uNil)))) [4, 5] [5]))
    (sBody sNext))))
    (sBody (sSeq (sRet (uF (fA1 fTuple) (uCons (uVar 2) uNil))) sNext))))
theorem js_all_words {k : Nat} (b : Bi mg) (cdv : Value) (A : Around) (outer : List PySem.Env) (s : Shared) (H : Hp) (E : XK) (f : Addr) (hr : Room k (A.deeper (envOfC "all_words" (defScope s_all_words) s.heap.objs.size f cdv))) :
    JSs S (cxOf CX0 P w K mg base N_all_words "all_words" (defScope s_all_words) f cdv A outer s H E).nox (defBody s_all_words) (u_all_words) := by
  have sc := sc_all_words
  exact (jss_cons (js_asg sc.nd (je_lst (ja_cons (je_tup ja_nil) ja_nil)) (i := 2))
    (jss_cons (js_forR PassesOwn.never rfl (jr_range1 (by rfl) b.range (ja_cons (je_var 0) ja_nil)) (jg_name [3] sc.nd) (jss_body (jss_cons (js_setLc2 (i := 2) (own := [("word", 4), ("value", 5)]) (vs1 := [5]) rfl sc.nd rfl rfl (sw_true rfl rfl rfl rfl) (ji_seq (je_var 2)) (blkOk_by (by kernel_rfl)) (by decide) (fun _ _ _ _ _ => (jg_name [4, 5] sc.nd)) (fun _ _ _ _ _ => jts_nil) (fun _ _ _ _ _ => (JR.ji (jr_range1 (by rfl) b.range (ja_cons (je_var 1) ja_nil)))) (fun _ _ _ _ _ => (jg_name [5] sc.nd)) (fun _ _ _ _ _ => jts_nil) (fun _ _ _ _ _ => (je_sh (je_add (je_var 4) (je_tup (ja_cons (je_var 5) ja_nil))))))
    (jss_body jss_nil))))
    (jss_body (jss_cons (js_ret (je_tuple b.tuple (ja_cons (je_var 2) ja_nil))) jss_nil))))
noncomputable def F_all_words (many1 values2 : D) : Option D :=
  (Mo.bnd (lstM (args [(tupM (args []))])) fun words3 => (Mo.bnd (op1 oRng1 (Mo.ret many1)) fun ds12 => Mo.bnd (forS (fun d5 (s4 : D) => (Mo.bnd (lstM (lc2M (op1 oItems (Mo.ret s4)) fun d8 => (in4M (op1 oRng1 (Mo.ret values2)) fun d9 => (op2 oAdd (Mo.ret d8) (tupM (args [(Mo.ret d9)])))))) fun words7 => (Mo.ret words7))) ds12 words3) fun s10 : D => (Mo.bnd (op1 oTuple (Mo.ret s10)) fun r11 => Mo.ret r11)))
theorem si_all_words (many1 values2 : D) (R : UK) : SI (fun d => R false d) { nx := fun _ => R false .non, rt := R } [some (false, many1), some (false, values2), none, none, none, none] (u_all_words ) (F_all_words many1 values2) := by
  unfold u_all_words F_all_words
  exact (si_asgF (ei_lst (ai_cons (ei_tup ai_nil (hl := lenOk rfl)) ai_nil) (hl := lenOk rfl)) fun words3 => (si_forRS (mk := fun s4 : D => [none, some (false, values2), some (true, s4), none, none, none]) (s0 := words3) (wi_rng1 (ei_var (x := many1))) (fun d5 s4 Ψ E hn hc h => (tgs_n h (si_asgZ (ei_lc2 (wi_seq (ei_var (x := s4))) fun d8 _ _ h => (tg_n (el2_yes (in2_map (wi_rng1 (ei_var (x := values2))) fun d9 Q h => (tg_n (el_id (ei_add (ei_var (x := d8)) (ei_tup (ai_cons (ei_var (x := d9)) ai_nil) (hl := lenOk rfl))) h))) h))) (ρ0 := [none, some (false, values2), none, some (false, d5), none, none]) (le_n (le_s (le_n (le_s (le_n (le_n le_e)))))) (le_n (le_s (le_n (le_s (le_n (le_n le_e)))))) fun words7 => (si_nx fun q => hn words7 _ (le_n (le_s (le_s (le_n (le_n (le_n le_e)))))) (rr q))))) (le_n (le_s (le_s (le_n (le_n (le_n le_e)))))) (fun s10 => (si_ret (ei_F1 tuple_ok (ei_var (x := s10))) fun r11 q => rr q))))
noncomputable def A_all_words : List D → Option D
  | [many1, values2] => F_all_words many1 values2
  | _ => none
theorem len_all_words : ∀ ds R, cF A_all_words false ds R → ds.length = P_all_words.length := fun ds R h => match ds, h with | [many1, values2], _ => rfl | [], h => (by first | (obtain ⟨_, e, _⟩ := h; cases e) | exact (run_fail h).elim) | [_], h => (by first | (obtain ⟨_, e, _⟩ := h; cases e) | exact (run_fail h).elim) | _ :: _ :: _ :: _, h => (by first | (obtain ⟨_, e, _⟩ := h; cases e) | exact (run_fail h).elim)
theorem imp_all_words : ∀ ds R, cF A_all_words false ds R → u_all_words  { nx := fun _ => R false .non, rt := R } (startD N_all_words ds) := fun ds R h => match ds, h with | [many1, values2], h => si_all_words many1 values2 R h | [], h => (by first | (obtain ⟨_, e, _⟩ := h; cases e) | exact (run_fail h).elim) | [_], h => (by first | (obtain ⟨_, e, _⟩ := h; cases e) | exact (run_fail h).elim) | _ :: _ :: _ :: _, h => (by first | (obtain ⟨_, e, _⟩ := h; cases e) | exact (run_fail h).elim)
abbrev N_three_looks : List Str := []
abbrev P_three_looks : List Str := []
theorem sc_three_looks : FnScope N_three_looks P_three_looks (defScope s_three_looks) := ⟨rfl, rfl, rfl, by decide +kernel, rfl, by decide +kernel, by decide +kernel⟩
def u_three_looks : US :=
    (sSeq (sRet (uTup (uCons (uTup (uCons (uTup (uCons (uC (.int 0)) (uCons (uC (.int 1)) uNil))) uNil)) (uCons (uTup (uCons (uTup (uCons (uC (.int 1)) (uCons (uC (.int 2)) uNil))) uNil)) (uCons (uTup (uCons (uTup (uCons (uC (.int 0)) (uCons (uC (.int 2)) uNil))) uNil)) uNil))))) sNext)
theorem js_three_looks {k : Nat} (b : Bi mg) (cdv : Value) (A : Around) (outer : List PySem.Env) (s : Shared) (H : Hp) (E : XK) (f : Addr) (hr : Room k (A.deeper (envOfC "three_looks" (defScope s_three_looks) s.heap.objs.size f cdv))) :
    JSs S (cxOf CX0 P w K mg base N_three_looks "three_looks" (defScope s_three_looks) f cdv A outer s H E).nox (defBody s_three_looks) (u_three_looks) := by
  have sc := sc_three_looks
  exact (jss_cons (js_ret (je_tup (ja_cons (je_tup (ja_cons (je_tup (ja_cons je_int (ja_cons je_int ja_nil))) ja_nil)) (ja_cons (je_tup (ja_cons (je_tup (ja_cons je_int (ja_cons je_int ja_nil))) ja_nil)) (ja_cons (je_tup (ja_cons (je_tup (ja_cons je_int (ja_cons je_int ja_nil))) ja_nil)) ja_nil))))) jss_nil)
noncomputable def F_three_looks : Option D :=
  (Mo.bnd (tupM (args [(tupM (args [(tupM (args [(Mo.ret (DL.D.int 0)), (Mo.ret (DL.D.int 1))]))])), (tupM (args [(tupM (args [(Mo.ret (DL.D.int 1)), (Mo.ret (DL.D.int 2))]))])), (tupM (args [(tupM (args [(Mo.ret (DL.D.int 0)), (Mo.ret (DL.D.int 2))]))]))])) fun r1 => Mo.ret r1)
theorem si_three_looks (R : UK) : SI (fun d => R false d) { nx := fun _ => R false .non, rt := R } [] (u_three_looks ) (F_three_looks ) := by
  unfold u_three_looks F_three_looks
  exact (si_ret (ei_tup (ai_cons (ei_tup (ai_cons (ei_tup (ai_cons ei_C (ai_cons ei_C ai_nil)) (hl := lenOk rfl)) ai_nil) (hl := lenOk rfl)) (ai_cons (ei_tup (ai_cons (ei_tup (ai_cons ei_C (ai_cons ei_C ai_nil)) (hl := lenOk rfl)) ai_nil) (hl := lenOk rfl)) (ai_cons (ei_tup (ai_cons (ei_tup (ai_cons ei_C (ai_cons ei_C ai_nil)) (hl := lenOk rfl)) ai_nil) (hl := lenOk rfl)) ai_nil))) (hl := lenOk rfl)) fun r1 q => rr q)
noncomputable def A_three_looks : List D → Option D
  | [] => F_three_looks 
  | _ => none
theorem len_three_looks : ∀ ds R, cF A_three_looks false ds R → ds.length = P_three_looks.length := fun ds R h => match ds, h with | [], _ => rfl | _ :: _, h => (by first | (obtain ⟨_, e, _⟩ := h; cases e) | exact (run_fail h).elim)
theorem imp_three_looks : ∀ ds R, cF A_three_looks false ds R → u_three_looks  { nx := fun _ => R false .non, rt := R } (startD N_three_looks ds) := fun ds R h => match ds, h with | [], h => si_three_looks  R h | _ :: _, h => (by first | (obtain ⟨_, e, _⟩ := h; cases e) | exact (run_fail h).elim)
abbrev N_umbrella : List Str := ["n", "looks"]
abbrev P_umbrella : List Str := ["n"]
theorem sc_umbrella : FnScope N_umbrella P_umbrella (defScope s_umbrella) := ⟨rfl, rfl, rfl, by decide +kernel, rfl, by decide +kernel, by decide +kernel⟩
def u_umbrella (C_full_look : Ctr) : US :=
    (sSeq (sAsg 1 (uSh (u2 fMul (uTup (uCons (uCall C_full_look (uCons (uTup (uCons (uC (.int 2)) (uCons (uC (.int 2)) uNil))) uNil)) uNil)) (uVar 0))))
    (sSeq (sRet (uTup (uCons (uTup (uCons (uC (.int 2)) (uCons (uC (.int 2)) uNil))) (uCons (uVar 1) (uCons (uVar 1) (uCons (uC (.int 2)) (uCons (uTup (uCons (uVar 0) (uCons (uTup uNil) uNil))) (uCons (uC (.int 0)) uNil)))))))) sNext))
theorem js_umbrella {k : Nat} (b : Bi mg) {C_full_look : Ctr} (c_full_look : Cal P w K mg base S s_full_look "full_look" k P_full_look C_full_look) (cdv : Value) (A : Around) (outer : List PySem.Env) (s : Shared) (H : Hp) (E : XK) (f : Addr) (hr : Room k (A.deeper (envOfC "umbrella" (defScope s_umbrella) s.heap.objs.size f cdv))) :
    JSs S (cxOf CX0 P w K mg base N_umbrella "umbrella" (defScope s_umbrella) f cdv A outer s H E).nox (defBody s_umbrella) (u_umbrella C_full_look) := by
  have sc := sc_umbrella
  exact (jss_cons (js_asg sc.nd (je_sh (je_mul (je_tup (ja_cons (je_callC c_full_look hr (fun _ _ _ _ _ _ us hl => match us, hl with | [_], _ => rfl) (ja_cons (je_tup (ja_cons je_int (ja_cons je_int ja_nil))) ja_nil) (Nat.le_refl _)) ja_nil)) (je_var 0))) (i := 1))
    (jss_cons (js_ret (je_tup (ja_cons (je_tup (ja_cons je_int (ja_cons je_int ja_nil))) (ja_cons (je_var 1) (ja_cons (je_var 1) (ja_cons je_int (ja_cons (je_tup (ja_cons (je_var 0) (ja_cons (je_tup ja_nil) ja_nil))) (ja_cons je_int ja_nil)))))))) jss_nil))
noncomputable def F_umbrella (n1 : D) : Option D :=
  (Mo.bnd (op2 oMul (tupM (args [(appM A_full_look (args [(tupM (args [(Mo.ret (DL.D.int 2)), (Mo.ret (DL.D.int 2))]))]))])) (Mo.ret n1)) fun looks2 => (Mo.bnd (tupM (args [(tupM (args [(Mo.ret (DL.D.int 2)), (Mo.ret (DL.D.int 2))])), (Mo.ret looks2), (Mo.ret looks2), (Mo.ret (DL.D.int 2)), (tupM (args [(Mo.ret n1), (tupM (args []))])), (Mo.ret (DL.D.int 0))])) fun r3 => Mo.ret r3))
theorem si_umbrella (n1 : D) (R : UK) : SI (fun d => R false d) { nx := fun _ => R false .non, rt := R } [some (false, n1), none] (u_umbrella (cF A_full_look false)) (F_umbrella n1) := by
  unfold u_umbrella F_umbrella
  exact (si_asgF (ei_mul (ei_tup (ai_cons (ei_call (ai_cons (ei_tup (ai_cons ei_C (ai_cons ei_C ai_nil)) (hl := lenOk rfl)) ai_nil)) ai_nil) (hl := lenOk rfl)) (ei_var (x := n1))) fun looks2 => (si_ret (ei_tup (ai_cons (ei_tup (ai_cons ei_C (ai_cons ei_C ai_nil)) (hl := lenOk rfl)) (ai_cons (ei_var (x := looks2)) (ai_cons (ei_var (x := looks2)) (ai_cons ei_C (ai_cons (ei_tup (ai_cons (ei_var (x := n1)) (ai_cons (ei_tup ai_nil (hl := lenOk rfl)) ai_nil)) (hl := lenOk rfl)) (ai_cons ei_C ai_nil)))))) (hl := lenOk rfl)) fun r3 q => rr q))
noncomputable def A_umbrella : List D → Option D
  | [n1] => F_umbrella n1
  | _ => none
theorem len_umbrella : ∀ ds R, cF A_umbrella false ds R → ds.length = P_umbrella.length := fun ds R h => match ds, h with | [n1], _ => rfl | [], h => (by first | (obtain ⟨_, e, _⟩ := h; cases e) | exact (run_fail h).elim) | _ :: _ :: _, h => (by first | (obtain ⟨_, e, _⟩ := h; cases e) | exact (run_fail h).elim)
theorem imp_umbrella : ∀ ds R, cF A_umbrella false ds R → u_umbrella (cF A_full_look false) { nx := fun _ => R false .non, rt := R } (startD N_umbrella ds) := fun ds R h => match ds, h with | [n1], h => si_umbrella n1 R h | [], h => (by first | (obtain ⟨_, e, _⟩ := h; cases e) | exact (run_fail h).elim) | _ :: _ :: _, h => (by first | (obtain ⟨_, e, _⟩ := h; cases e) | exact (run_fail h).elim)
abbrev N_law_draw : List Str := ["src", "many", "cell", "told"]
abbrev P_law_draw : List Str := ["src", "many"]
theorem sc_law_draw : FnScope N_law_draw P_law_draw (defScope s_law_draw) := ⟨rfl, rfl, rfl, by decide +kernel, rfl, by decide +kernel, by decide +kernel⟩
def u_law_draw : UXS :=
    (ysSeq (ysIf (xAnd (xTest (xB (fun i j => decide (i ≤ j)) (xIx (xVar 0) (xC (.int 1))) (xC (.int 1)))) (xTest (xB (fun i j => decide (j < i)) (xLen (xIx (xVar 0) (xC (.int 0)))) (xC (.int 0))))) (ysSeq (ysAsg 2 (xAbs (xPop0 (xIx (xVar 0) (xC (.int 0))))))
    (ysSeq (ysPut (xVar 0) (xC (.int 3)) (xI (fun _ j => 0 < j) (fun i j => i % j) (xInt (xI (fun _ _ => True) (fun i j => i + j) (xI (fun _ _ => True) (fun i j => i + j) (xI CMul (fun i j => i * j) (xIx (xVar 0) (xC (.int 3))) (xC (.int 69621))) (xVar 2)) (xC (.int 1)))) (xC (.int 2147483647))))
    (ysSeq (ysPut (xVar 0) (xC (.int 1)) (xIte (xTest (xB (fun i j => i == j) (xI (fun _ j => 0 < j) (fun i j => i % j) (xInt (xVar 2)) (xC (.int 2))) (xC (.int 0)))) (xI CDivW (fun i j => i / j) (xVar 2) (xC (.int 2))) (xC (.int 0))))
    (ysPut (xVar 0) (xC (.int 2)) (xC (.int 0)))))) ysNext)
    (ysSeq (ysIf (xTest (xB (fun i j => decide (j < i)) (xIx (xVar 0) (xC (.int 1))) (xC (.int 1)))) (ysSeq (ysAsg 3 (xI (fun _ j => 0 < j) (fun i j => i % j) (xInt (xIx (xVar 0) (xC (.int 1)))) (xVar 1)))
    (ysSeq (ysPut (xVar 0) (xC (.int 1)) (xI CDivW (fun i j => i / j) (xIx (xVar 0) (xC (.int 1))) (xVar 1)))
    (ysSeq (ysPut (xVar 0) (xC (.int 2)) (xI (fun _ _ => True) (fun i j => i + j) (xIx (xVar 0) (xC (.int 2))) (xC (.int 1))))
    (ysSeq (ysIf (xTest (xB (fun i j => decide (j ≤ i)) (xIx (xVar 0) (xC (.int 2))) (xC (.int 60)))) (ysPut (xVar 0) (xC (.int 1)) (xC (.int 0))) ysNext)
    (ysRet (xVar 3)))))) ysNext)
    (ysSeq (ysPut (xVar 0) (xC (.int 3)) (xI (fun _ j => 0 < j) (fun i j => i % j) (xInt (xI (fun _ _ => True) (fun i j => i + j) (xI CMul (fun i j => i * j) (xIx (xVar 0) (xC (.int 3))) (xC (.int 48271))) (xC (.int 12345)))) (xC (.int 2147483647))))
    (ysRet (xI (fun _ j => 0 < j) (fun i j => i % j) (xInt (xI CDivW (fun i j => i / j) (xIx (xVar 0) (xC (.int 3))) (xC (.int 64)))) (xVar 1))))))
theorem js_law_draw {J : Prop} (hJ : J) {k : Nat} (b : Bi mg) (cdv : Value) (A : Around) (outer : List PySem.Env) (s : Shared) (H : Hp) (E : XK) (f : Addr) (hr : Room k (A.deeper (envOfC "_law_draw" (defScope s_law_draw) s.heap.objs.size f cdv))) :
    XSs J (cxOf CX0 P w K mg base N_law_draw "_law_draw" (defScope s_law_draw) f cdv A outer s H E).nox (defBody s_law_draw) (u_law_draw) := by
  have sc := sc_law_draw
  exact (ys_cons (ys_if (XW.xt (xw_and (xt_le (xe_ix (xe_var 0) xe_int) xe_int) (xw_and1 (xt_gt (xe_len b.len (xe_ix (xe_var 0) xe_int)) xe_int)))) (ys_cons (ys_asg (i := 2) sc.nd (xe_abs b.abs (xe_pop0 hJ (xe_ix (xe_var 0) xe_int))))
    (ys_cons (ys_put (xe_mod (xe_intC b.int (xe_add (xe_add (xe_mul (xe_ix (xe_var 0) xe_int) xe_int) (xe_var 2)) xe_int)) xe_int) (xe_var 0) xe_int)
    (ys_cons (ys_put (xe_ifExp (xt_eq (xe_mod (xe_intC b.int (xe_var 2)) xe_int) xe_int) (xe_div (xe_var 2) xe_int) xe_int) (xe_var 0) xe_int)
    (ys_one (ys_put xe_int (xe_var 0) xe_int))))) ys_nil)
    (ys_cons (ys_if (xt_gt (xe_ix (xe_var 0) xe_int) xe_int) (ys_cons (ys_asg (i := 3) sc.nd (xe_mod (xe_intC b.int (xe_ix (xe_var 0) xe_int)) (xe_var 1)))
    (ys_cons (ys_put (xe_div (xe_ix (xe_var 0) xe_int) (xe_var 1)) (xe_var 0) xe_int)
    (ys_cons (ys_put (xe_add (xe_ix (xe_var 0) xe_int) xe_int) (xe_var 0) xe_int)
    (ys_cons (ys_if (xt_ge (xe_ix (xe_var 0) xe_int) xe_int) (ys_one (ys_put xe_int (xe_var 0) xe_int)) ys_nil)
    (ys_one (ys_ret (xe_var 3))))))) ys_nil)
    (ys_cons (ys_put (xe_mod (xe_intC b.int (xe_add (xe_mul (xe_ix (xe_var 0) xe_int) xe_int) xe_int)) xe_int) (xe_var 0) xe_int)
    (ys_one (ys_ret (xe_mod (xe_intC b.int (xe_div (xe_ix (xe_var 0) xe_int) xe_int)) (xe_var 1)))))))
abbrev N_law_pick : List Str := ["src", "some"]
abbrev P_law_pick : List Str := ["src", "some"]
theorem sc_law_pick : FnScope N_law_pick P_law_pick (defScope s_law_pick) := ⟨rfl, rfl, rfl, by decide +kernel, rfl, by decide +kernel, by decide +kernel⟩
def u_law_pick (C_law_draw : Ctr) : US :=
    (sSeq (sRet (u2 fIx (uVar 1) (uCall C_law_draw (uCons (uVar 0) (uCons (uF (fA1 fLen) (uCons (uVar 1) uNil)) uNil))))) sNext)
theorem js_law_pick {k : Nat} (b : Bi mg) {C_law_draw : Ctr} (c_law_draw : Cal P w K mg base S s_law_draw "_law_draw" k P_law_draw C_law_draw) (cdv : Value) (A : Around) (outer : List PySem.Env) (s : Shared) (H : Hp) (E : XK) (f : Addr) (hr : Room k (A.deeper (envOfC "_law_pick" (defScope s_law_pick) s.heap.objs.size f cdv))) :
    JSs S (cxOf CX0 P w K mg base N_law_pick "_law_pick" (defScope s_law_pick) f cdv A outer s H E).nox (defBody s_law_pick) (u_law_pick C_law_draw) := by
  have sc := sc_law_pick
  exact (jss_cons (js_ret (je_at (je_var 1) (je_callC c_law_draw hr (fun _ _ _ _ _ _ us hl => match us, hl with | [_, _], _ => rfl) (ja_cons (je_var 0) (ja_cons (je_len b.len (ja_cons (je_var 1) ja_nil)) ja_nil)) (Nat.le_refl _)))) jss_nil)
noncomputable def F_law_pick (src1 some2 : D) : DL.P D :=
  (Mo.bnd (op2 oIx (Mo.ret some2) (appP HDraw (args [(Mo.ret src1), (op1 oLen (Mo.ret some2))]))) fun r3 => Mo.ret r3)
theorem si_law_pick (src1 some2 : D) (R : UK) : SI (fun d => R false d) { nx := fun _ => R false .non, rt := R } [some (false, src1), some (false, some2)] (u_law_pick (cH HDraw false)) (F_law_pick src1 some2) := by
  unfold u_law_pick F_law_pick
  exact (si_ret (ei_2 ix_ok (ei_var (x := some2)) (ei_callH (ai_cons (ei_var (x := src1)) (ai_cons (ei_F1 len_ok (ei_var (x := some2))) ai_nil)))) fun r3 q => rr q)
noncomputable def H_law_pick : List D → DL.P D
  | [src1, some2] => F_law_pick src1 some2
  | _ => fail
theorem len_law_pick : ∀ ds R, cH H_law_pick false ds R → ds.length = P_law_pick.length := fun ds R h => match ds, h with | [src1, some2], _ => rfl | [], h => (by first | (obtain ⟨_, e, _⟩ := h; cases e) | exact (run_fail h).elim) | [_], h => (by first | (obtain ⟨_, e, _⟩ := h; cases e) | exact (run_fail h).elim) | _ :: _ :: _ :: _, h => (by first | (obtain ⟨_, e, _⟩ := h; cases e) | exact (run_fail h).elim)
theorem imp_law_pick : ∀ ds R, cH H_law_pick false ds R → u_law_pick (cH HDraw false) { nx := fun _ => R false .non, rt := R } (startD N_law_pick ds) := fun ds R h => match ds, h with | [src1, some2], h => si_law_pick src1 some2 R h | [], h => (by first | (obtain ⟨_, e, _⟩ := h; cases e) | exact (run_fail h).elim) | [_], h => (by first | (obtain ⟨_, e, _⟩ := h; cases e) | exact (run_fail h).elim) | _ :: _ :: _ :: _, h => (by first | (obtain ⟨_, e, _⟩ := h; cases e) | exact (run_fail h).elim)
abbrev N_law_so : List Str := ["told", "due", "k"]
abbrev P_law_so : List Str := ["told", "due"]
theorem sc_law_so : FnScope N_law_so P_law_so (defScope s_law_so) := ⟨rfl, rfl, rfl, by decide +kernel, rfl, by decide +kernel, by decide +kernel⟩
def u_law_so (C_law_so : Ctr) : US :=
    (sSeq (sIf (uTest (u2 (fIsN false) (uVar 1) (uC (.non)))) (sSeq (sRet (u2 (fIsN false) (uVar 0) (uC (.non)))) sNext) sNext)
    (sSeq (sIf (uTest (u1 (fIsi "tuple") (uVar 1))) (sSeq (sIf (uOr (uNot (uTest (u1 (fIsi "tuple") (uVar 0)))) (uTest (u2 fNe (uF (fA1 fLen) (uCons (uVar 0) uNil)) (uF (fA1 fLen) (uCons (uVar 1) uNil))))) (sSeq (sRet (uC (.bl false))) sNext) sNext)
    (sSeq (sRet (u2 fEq (uF (fA1 fLen) (uCons (uLc (uRng1 (uCons (uF (fA1 fLen) (uCons (uVar 1) uNil)) uNil)) (gN 2) (uNot (uTru (uCall C_law_so (uCons (u2 fIx (uVar 0) (uVar 2)) (uCons (u2 fIx (uVar 1) (uVar 2)) uNil))))) (uVar 2) [2]) uNil)) (uC (.int 0)))) sNext)) sNext)
    (sSeq (sIf (uOr (uTest (u1 (fIsi "bool") (uVar 1))) (uTest (u1 (fIsi "bool") (uVar 0)))) (sSeq (sRet (uAndV (u1 (fIsi "bool") (uVar 1)) (uAndV (u1 (fIsi "bool") (uVar 0)) (u2 fEq (uVar 0) (uVar 1))))) sNext) sNext)
    (sSeq (sIf (uTest (u1 (fIsi "int") (uVar 1))) (sSeq (sRet (uAndV (u1 (fIsi "int") (uVar 0)) (u2 fEq (uVar 0) (uVar 1)))) sNext) sNext)
    (sSeq (sRet (uAndV (u1 (fIsi "str") (uVar 0)) (u2 fEq (uVar 0) (uVar 1)))) sNext)))))
theorem js_law_so {k : Nat} (b : Bi mg) {C_law_so : Ctr} (c_law_so : Cal P w K mg base S s_law_so "_law_so" k P_law_so C_law_so) (cdv : Value) (A : Around) (outer : List PySem.Env) (s : Shared) (H : Hp) (E : XK) (f : Addr) (hr : Room k (A.deeper (envOfC "_law_so" (defScope s_law_so) s.heap.objs.size f cdv))) :
    JSs S (cxOf CX0 P w K mg base N_law_so "_law_so" (defScope s_law_so) f cdv A outer s H E).nox (defBody s_law_so) (u_law_so C_law_so) := by
  have sc := sc_law_so
  exact (jss_cons (js_if (jt_isN (je_var 1) je_non) (jss_cons (js_ret (je_isN (je_var 0) je_non)) jss_nil) jss_nil)
    (jss_cons (js_if (jt_val (je_isT b.isinstance b.tuple (je_var 1))) (jss_cons (js_if (JW.jt (jw_or (jt_not (jt_val (je_isT b.isinstance b.tuple (je_var 0)))) (jw_or1 (jt_ne hr (je_len b.len (ja_cons (je_var 0) ja_nil)) (je_len b.len (ja_cons (je_var 1) ja_nil)))))) (jss_cons (js_ret je_bl) jss_nil) jss_nil)
    (jss_cons (js_ret (je_eq hr (je_len b.len (ja_cons (je_lc (own := [("k", 2)]) rfl sc.nd (JR.ji (jr_range1 (by rfl) b.range (ja_cons (je_len b.len (ja_cons (je_var 1) ja_nil)) ja_nil))) (blkOk_by (by kernel_rfl)) (fun _ _ _ _ _ => (jg_name [2] sc.nd)) (fun _ _ _ _ _ => (jts_one (jt_not (jt_tru (je_callC c_law_so hr (fun _ _ _ _ _ _ us hl => match us, hl with | [_, _], _ => rfl) (ja_cons (je_at (je_var 0) (je_var 2)) (ja_cons (je_at (je_var 1) (je_var 2)) ja_nil)) (Nat.le_refl _)))))) (fun _ _ _ _ _ => (je_var 2))) ja_nil)) je_int)) jss_nil)) jss_nil)
    (jss_cons (js_if (JW.jt (jw_or (jt_val (je_isB b.isinstance b.bool (je_var 1))) (jw_or1 (jt_val (je_isB b.isinstance b.bool (je_var 0)))))) (jss_cons (js_ret (je_and (je_isB b.isinstance b.bool (je_var 1)) (je_and (je_isB b.isinstance b.bool (je_var 0)) (je_one (je_eq hr (je_var 0) (je_var 1)))))) jss_nil) jss_nil)
    (jss_cons (js_if (jt_val (je_isI b.isinstance b.int (je_var 1))) (jss_cons (js_ret (je_and (je_isI b.isinstance b.int (je_var 0)) (je_one (je_eq hr (je_var 0) (je_var 1))))) jss_nil) jss_nil)
    (jss_cons (js_ret (je_and (je_isS b.isinstance b.str (je_var 0)) (je_one (je_eq hr (je_var 0) (je_var 1))))) jss_nil)))))
noncomputable def F_law_so (rec : List D → Option D) (told1 due2 : D) : Option D :=
  (ite3 (op2 (bIsN false) (Mo.ret due2) (Mo.ret (DL.D.non))) (Mo.bnd (vB (op2 (bIsN false) (Mo.ret told1) (Mo.ret (DL.D.non)))) fun r4 => Mo.ret r4) (ite3 (op1 (bIsi "tuple") (Mo.ret due2)) (ite3 (DL.tOr (DL.tNot (op1 (bIsi "tuple") (Mo.ret told1))) (op2 bNe (op1 oLen (Mo.ret told1)) (op1 oLen (Mo.ret due2)))) (Mo.bnd (Mo.ret (DL.D.bl false)) fun r7 => Mo.ret r7) (Mo.bnd (vB (op2 bEq (op1 oLen (lstM (lcF (op1 oRng1 (op1 oLen (Mo.ret due2))) fun d8 => (whenM (DL.tNot (truM (appM rec (args [(op2 oIx (Mo.ret told1) (Mo.ret d8)), (op2 oIx (Mo.ret due2) (Mo.ret d8))])))) (Mo.ret d8))))) (Mo.ret (DL.D.int 0)))) fun r9 => Mo.ret r9)) (ite3 (DL.tOr (op1 (bIsi "bool") (Mo.ret due2)) (op1 (bIsi "bool") (Mo.ret told1))) (Mo.bnd (vB (DL.tAnd (op1 (bIsi "bool") (Mo.ret due2)) (DL.tAnd (op1 (bIsi "bool") (Mo.ret told1)) (op2 bEq (Mo.ret told1) (Mo.ret due2))))) fun r11 => Mo.ret r11) (ite3 (op1 (bIsi "int") (Mo.ret due2)) (Mo.bnd (vB (DL.tAnd (op1 (bIsi "int") (Mo.ret told1)) (op2 bEq (Mo.ret told1) (Mo.ret due2)))) fun r13 => Mo.ret r13) (Mo.bnd (vB (DL.tAnd (op1 (bIsi "str") (Mo.ret told1)) (op2 bEq (Mo.ret told1) (Mo.ret due2)))) fun r14 => Mo.ret r14)))))
theorem si_law_so (rec : List D → Option D) (told1 due2 : D) (R : UK) : SI (fun d => R false d) { nx := fun _ => R false .non, rt := R } [some (false, told1), some (false, due2), none] (u_law_so (cF rec false)) (F_law_so rec told1 due2) := by
  unfold u_law_so F_law_so
  exact (si_ifH (ti_2 (isN_ok false) (ei_var (x := due2)) ei_C) (fun hx3 => (si_ret (ei_2B (isN_ok false) (ei_var (x := told1)) ei_C) fun r4 q => rr q)) (fun hx3 => (hx3 _ _ (si_ifH (ti_1 (isi_ok "tuple") (ei_var (x := due2))) (fun hx5 => (si_ifH (ti_or (ti_not (ti_1 (isi_ok "tuple") (ei_var (x := told1)))) (ti_2 ne_ok (ei_F1 len_ok (ei_var (x := told1))) (ei_F1 len_ok (ei_var (x := due2))))) (fun hx6 => (si_ret ei_C fun r7 q => rr q)) (fun hx6 => (hx6 _ _ (si_ret (ei_2B eq_ok (ei_F1 len_ok (ei_lcF (wi_rng1 (ei_F1 len_ok (ei_var (x := due2)))) fun d8 Q h => (tg_n (el_when (ti_not (ti_tru (ei_call (ai_cons (ei_2 ix_ok (ei_var (x := told1)) (ei_var (x := d8))) (ai_cons (ei_2 ix_ok (ei_var (x := due2)) (ei_var (x := d8))) ai_nil))))) (ei_var (x := d8)) h)))) ei_C) fun r9 q => rr q))))) (fun hx5 => (hx5 _ _ (si_ifH (ti_or (ti_1 (isi_ok "bool") (ei_var (x := due2))) (ti_1 (isi_ok "bool") (ei_var (x := told1)))) (fun hx10 => (si_ret (ei_andB (ei_1B (isi_ok "bool") (ei_var (x := due2))) (ei_andB (ei_1B (isi_ok "bool") (ei_var (x := told1))) (ei_2B eq_ok (ei_var (x := told1)) (ei_var (x := due2))))) fun r11 q => rr q)) (fun hx10 => (hx10 _ _ (si_ifH (ti_1 (isi_ok "int") (ei_var (x := due2))) (fun hx12 => (si_ret (ei_andB (ei_1B (isi_ok "int") (ei_var (x := told1))) (ei_2B eq_ok (ei_var (x := told1)) (ei_var (x := due2)))) fun r13 q => rr q)) (fun hx12 => (hx12 _ _ (si_ret (ei_andB (ei_1B (isi_ok "str") (ei_var (x := told1))) (ei_2B eq_ok (ei_var (x := told1)) (ei_var (x := due2)))) fun r14 q => rr q)))))))))))))
noncomputable def A1_law_so (rec : List D → Option D) : List D → Option D
  | [told1, due2] => F_law_so rec told1 due2
  | _ => none
noncomputable def A_law_so : Nat → List D → Option D
  | 0 => fun _ => none
  | n + 1 => A1_law_so (A_law_so n)
theorem len_law_so (rec : List D → Option D) : ∀ ds R, cF (A1_law_so rec) false ds R → ds.length = P_law_so.length := fun ds R h => match ds, h with | [told1, due2], _ => rfl | [], h => (by first | (obtain ⟨_, e, _⟩ := h; cases e) | exact (run_fail h).elim) | [_], h => (by first | (obtain ⟨_, e, _⟩ := h; cases e) | exact (run_fail h).elim) | _ :: _ :: _ :: _, h => (by first | (obtain ⟨_, e, _⟩ := h; cases e) | exact (run_fail h).elim)
theorem imp_law_so (rec : List D → Option D) : ∀ ds R, cF (A1_law_so rec) false ds R → u_law_so (cF rec false) { nx := fun _ => R false .non, rt := R } (startD N_law_so ds) := fun ds R h => match ds, h with | [told1, due2], h => si_law_so rec told1 due2 R h | [], h => (by first | (obtain ⟨_, e, _⟩ := h; cases e) | exact (run_fail h).elim) | [_], h => (by first | (obtain ⟨_, e, _⟩ := h; cases e) | exact (run_fail h).elim) | _ :: _ :: _ :: _, h => (by first | (obtain ⟨_, e, _⟩ := h; cases e) | exact (run_fail h).elim)
abbrev N_law_ring : List Str := ["n", "rows", "i", "row"]
abbrev P_law_ring : List Str := ["n"]
theorem sc_law_ring : FnScope N_law_ring P_law_ring (defScope s_law_ring) := ⟨rfl, rfl, rfl, by decide +kernel, rfl, by decide +kernel, by decide +kernel⟩
def u_law_ring : US :=
    (sSeq (sAsg 1 (uLst uNil))
    (sSeq (sForR (uRng1 (uCons (uVar 0) uNil)) (gN 2) (sBody (sSeq (sAsgM [] 3 (u2 fMul (uLst (uCons (u1 fNeg (uC (.int 1))) uNil)) (uVar 0)))
    (sSeq (sSetIx noM 3 (u2 fMod (uF (fA1 fInt) (uCons (uSh (u2 fAdd (uVar 2) (uC (.int 1)))) uNil)) (uVar 0)) (uC (.int 1)))
    (sSeq (sSetIx noM 3 (uVar 2) (uC (.int 0)))
    (sSeq (sMeth allM 1 mAppend (uCons (uF (fA1 fTuple) (uCons (uVar 3) uNil)) uNil))
    sNext))))))
    (sBody (sSeq (sRet (uF (fA1 fTuple) (uCons (uVar 1) uNil))) sNext))))
theorem js_law_ring {k : Nat} (b : Bi mg) (cdv : Value) (A : Around) (outer : List PySem.Env) (s : Shared) (H : Hp) (E : XK) (f : Addr) (hr : Room k (A.deeper (envOfC "_law_ring" (defScope s_law_ring) s.heap.objs.size f cdv))) :
    JSs S (cxOf CX0 P w K mg base N_law_ring "_law_ring" (defScope s_law_ring) f cdv A outer s H E).nox (defBody s_law_ring) (u_law_ring) := by
  have sc := sc_law_ring
  exact (jss_cons (js_asg sc.nd (je_lst ja_nil) (i := 1))
    (jss_cons (js_forR PassesOwn.never rfl (jr_range1 (by rfl) b.range (ja_cons (je_var 0) ja_nil)) (jg_name [2] sc.nd) (jss_body (jss_cons (js_asgM [] sc.nd (je_mul (je_lst (ja_cons (je_neg je_int) ja_nil)) (je_var 0)) (i := 3))
    (jss_cons (js_setIx noM (i := 3) je_int (je_mod (je_intC b.int (ja_cons (je_sh (je_add (je_var 2) je_int)) ja_nil)) (je_var 0)) rfl)
    (jss_cons (js_setIx noM (i := 3) je_int (je_var 2) rfl)
    (jss_cons (js_app allM (i := 1) (ja_cons (je_tuple b.tuple (ja_cons (je_var 3) ja_nil)) ja_nil))
    jss_nil))))))
    (jss_body (jss_cons (js_ret (je_tuple b.tuple (ja_cons (je_var 1) ja_nil))) jss_nil))))
noncomputable def F_law_ring (n1 : D) : Option D :=
  (Mo.bnd (lstM (args [])) fun rows2 => (Mo.bnd (op1 oRng1 (Mo.ret n1)) fun ds12 => Mo.bnd (forS (fun d4 (s3 : D) => (Mo.bnd (op2 oRep (lstM (args [(op1 oNeg (Mo.ret (DL.D.int 1)))])) (Mo.ret n1)) fun row6 => (Mo.bnd (setL row6 (Mo.ret (DL.D.int 1)) (op2 oMod (op1 oInt (op2 oAdd (Mo.ret d4) (Mo.ret (DL.D.int 1)))) (Mo.ret n1))) fun row7 => (Mo.bnd (setL row7 (Mo.ret (DL.D.int 0)) (Mo.ret d4)) fun row8 => (Mo.bnd (appL s3 (nlM false (op1 oTuple (Mo.ret row8)))) fun rows9 => (Mo.ret rows9)))))) ds12 rows2) fun s10 : D => (Mo.bnd (op1 oTuple (Mo.ret s10)) fun r11 => Mo.ret r11)))
theorem si_law_ring (n1 : D) (R : UK) : SI (fun d => R false d) { nx := fun _ => R false .non, rt := R } [some (false, n1), none, none, none] (u_law_ring ) (F_law_ring n1) := by
  unfold u_law_ring F_law_ring
  exact (si_asgF (ei_lst ai_nil (hl := lenOk rfl)) fun rows2 => (si_forRS (mk := fun s3 : D => [some (false, n1), some (true, s3), none, none]) (s0 := rows2) (wi_rng1 (ei_var (x := n1))) (fun d4 s3 Ψ E hn hc h => (tgs_n h (si_asgN (ei_rep (ei_lst (ai_cons (ei_1 neg_ok ei_C) ai_nil) (hl := lenOk rfl)) (ei_var (x := n1))) fun row6 => (si_setN ei_C (ei_2 mod_ok (ei_F1 int_ok (ei_add (ei_var (x := d4)) ei_C)) (ei_var (x := n1))) fun row7 => (si_setN ei_C (ei_var (x := d4)) fun row8 => (si_appS (ei_F1 tuple_ok (ei_var (x := row8))) fun rows9 => (si_nx fun q => hn rows9 _ (le_s (le_s (le_n (le_n le_e)))) (rr q)))))))) (le_s (le_s (le_n (le_n le_e)))) (fun s10 => (si_ret (ei_F1 tuple_ok (ei_var (x := s10))) fun r11 q => rr q))))
noncomputable def A_law_ring : List D → Option D
  | [n1] => F_law_ring n1
  | _ => none
theorem len_law_ring : ∀ ds R, cF A_law_ring false ds R → ds.length = P_law_ring.length := fun ds R h => match ds, h with | [n1], _ => rfl | [], h => (by first | (obtain ⟨_, e, _⟩ := h; cases e) | exact (run_fail h).elim) | _ :: _ :: _, h => (by first | (obtain ⟨_, e, _⟩ := h; cases e) | exact (run_fail h).elim)
theorem imp_law_ring : ∀ ds R, cF A_law_ring false ds R → u_law_ring  { nx := fun _ => R false .non, rt := R } (startD N_law_ring ds) := fun ds R h => match ds, h with | [n1], h => si_law_ring n1 R h | [], h => (by first | (obtain ⟨_, e, _⟩ := h; cases e) | exact (run_fail h).elim) | _ :: _ :: _, h => (by first | (obtain ⟨_, e, _⟩ := h; cases e) | exact (run_fail h).elim)
abbrev N_law_blocks : List Str := ["sizes", "lots", "k", "one", "other"]
abbrev P_law_blocks : List Str := ["sizes"]
theorem sc_law_blocks : FnScope N_law_blocks P_law_blocks (defScope s_law_blocks) := ⟨rfl, rfl, rfl, by decide +kernel, rfl, by decide +kernel, by decide +kernel⟩
def u_law_blocks : US :=
    (sSeq (sAsg 1 (uLst uNil))
    (sSeq (sForR (uRng1 (uCons (uF (fA1 fLen) (uCons (uVar 0) uNil)) uNil)) (gN 2) (sBody (sSeq (sAsg 1 (u2 fAdd (uVar 1) (u2 fMul (uLst (uCons (uVar 2) uNil)) (u2 fIx (uVar 0) (uVar 2)))))
    (sBody sNext))))
    (sBody (sSeq (sRet (uF (fA1 fTuple) (uCons (uLc (uIter (uVar 1)) (gN 3) uYes (uF (fA1 fTuple) (uCons (uLc (uIter (uVar 1)) (gN 4) uYes (uIte (uTest (u2 fEq (uVar 3) (uVar 4))) (uC (.int 0)) (uC (.int 6))) [4]) uNil)) [3]) uNil))) sNext))))
theorem js_law_blocks {k : Nat} (b : Bi mg) (cdv : Value) (A : Around) (outer : List PySem.Env) (s : Shared) (H : Hp) (E : XK) (f : Addr) (hr : Room k (A.deeper (envOfC "_law_blocks" (defScope s_law_blocks) s.heap.objs.size f cdv))) :
    JSs S (cxOf CX0 P w K mg base N_law_blocks "_law_blocks" (defScope s_law_blocks) f cdv A outer s H E).nox (defBody s_law_blocks) (u_law_blocks) := by
  have sc := sc_law_blocks
  exact (jss_cons (js_asg sc.nd (je_lst ja_nil) (i := 1))
    (jss_cons (js_forR PassesOwn.never rfl (jr_range1 (by rfl) b.range (ja_cons (je_len b.len (ja_cons (je_var 0) ja_nil)) ja_nil)) (jg_name [2] sc.nd) (jss_body (jss_cons (js_asg sc.nd (je_add (je_var 1) (je_mul (je_lst (ja_cons (je_var 2) ja_nil)) (je_at (je_var 0) (je_var 2)))) (i := 1))
    (jss_body jss_nil))))
    (jss_body (jss_cons (js_ret (je_tuple b.tuple (ja_cons (je_lc (own := [("one", 3)]) rfl sc.nd (ji_seq (je_var 1)) (blkOk_by (by kernel_rfl)) (fun _ _ _ _ _ => (jg_name [3] sc.nd)) (fun _ _ _ _ _ => jts_nil) (fun _ _ _ _ _ => (je_tuple b.tuple (ja_cons (je_lc (own := [("other", 4)]) rfl sc.nd (ji_seq (je_var 1)) (blkOk_by (by kernel_rfl)) (fun _ _ _ _ _ => (jg_name [4] sc.nd)) (fun _ _ _ _ _ => jts_nil) (fun _ _ _ _ _ => (je_ifExp (jt_eq hr (je_var 3) (je_var 4)) je_int je_int))) ja_nil)))) ja_nil))) jss_nil))))
noncomputable def F_law_blocks (sizes1 : D) : Option D :=
  (Mo.bnd (lstM (args [])) fun lots2 => (Mo.bnd (op1 oRng1 (op1 oLen (Mo.ret sizes1))) fun ds11 => Mo.bnd (forS (fun d4 (s3 : D) => (Mo.bnd (op2 oCat (Mo.ret s3) (op2 oRep (lstM (args [(Mo.ret d4)])) (op2 oIx (Mo.ret sizes1) (Mo.ret d4)))) fun lots6 => (Mo.ret lots6))) ds11 lots2) fun s7 : D => (Mo.bnd (op1 oTuple (lstM (lcM (op1 oItems (Mo.ret s7)) fun d8 => (op1 oTuple (lstM (lcM (op1 oItems (Mo.ret s7)) fun d9 => (ite3 (op2 bEq (Mo.ret d8) (Mo.ret d9)) (Mo.ret (DL.D.int 0)) (Mo.ret (DL.D.int 6))))))))) fun r10 => Mo.ret r10)))
theorem si_law_blocks (sizes1 : D) (R : UK) : SI (fun d => R false d) { nx := fun _ => R false .non, rt := R } [some (false, sizes1), none, none, none, none] (u_law_blocks ) (F_law_blocks sizes1) := by
  unfold u_law_blocks F_law_blocks
  exact (si_asgF (ei_lst ai_nil (hl := lenOk rfl)) fun lots2 => (si_forRS (mk := fun s3 : D => [some (false, sizes1), some (true, s3), none, none, none]) (s0 := lots2) (wi_rng1 (ei_F1 len_ok (ei_var (x := sizes1)))) (fun d4 s3 Ψ E hn hc h => (tgs_n h (si_asgZ (ei_cat (ei_var (x := s3)) (ei_rep (ei_lst (ai_cons (ei_var (x := d4)) ai_nil) (hl := lenOk rfl)) (ei_2 ix_ok (ei_var (x := sizes1)) (ei_var (x := d4))))) (ρ0 := [some (false, sizes1), none, some (false, d4), none, none]) (le_s (le_n (le_s (le_n (le_n le_e))))) (le_s (le_n (le_s (le_n (le_n le_e))))) fun lots6 => (si_nx fun q => hn lots6 _ (le_s (le_s (le_n (le_n (le_n le_e))))) (rr q))))) (le_s (le_s (le_n (le_n (le_n le_e))))) (fun s7 => (si_ret (ei_F1 tuple_ok (ei_lc (wi_seq (ei_var (x := s7))) fun d8 Q h => (tg_n (el_id (ei_F1 tuple_ok (ei_lc (wi_seq (ei_var (x := s7))) fun d9 Q h => (tg_n (el_id (ei_ite (ti_2 eq_ok (ei_var (x := d8)) (ei_var (x := d9))) ei_C ei_C) h)))) h)))) fun r10 q => rr q))))
noncomputable def A_law_blocks : List D → Option D
  | [sizes1] => F_law_blocks sizes1
  | _ => none
theorem len_law_blocks : ∀ ds R, cF A_law_blocks false ds R → ds.length = P_law_blocks.length := fun ds R h => match ds, h with | [sizes1], _ => rfl | [], h => (by first | (obtain ⟨_, e, _⟩ := h; cases e) | exact (run_fail h).elim) | _ :: _ :: _, h => (by first | (obtain ⟨_, e, _⟩ := h; cases e) | exact (run_fail h).elim)
theorem imp_law_blocks : ∀ ds R, cF A_law_blocks false ds R → u_law_blocks  { nx := fun _ => R false .non, rt := R } (startD N_law_blocks ds) := fun ds R h => match ds, h with | [sizes1], h => si_law_blocks sizes1 R h | [], h => (by first | (obtain ⟨_, e, _⟩ := h; cases e) | exact (run_fail h).elim) | _ :: _ :: _, h => (by first | (obtain ⟨_, e, _⟩ := h; cases e) | exact (run_fail h).elim)
abbrev N_law_words : List Str := ["many", "values", "found", "turn", "longer", "one", "v"]
abbrev P_law_words : List Str := ["many", "values"]
theorem sc_law_words : FnScope N_law_words P_law_words (defScope s_law_words) := ⟨rfl, rfl, rfl, by decide +kernel, rfl, by decide +kernel, by decide +kernel⟩
def u_law_words : US :=
    (sSeq (sAsg 2 (uSh (uLst (uCons (uTup uNil) uNil))))
    (sSeq (sForR (uRng1 (uCons (uVar 0) uNil)) (gN 3) (sBody (sSeq (sAsg 4 (uLst uNil))
    (sSeq (sFor [] (uIter (uVar 2)) (gN 5) (sBody (sSeq (sAsg 4 (u2 fAdd (uVar 4) (uLc (uRng1 (uCons (uVar 1) uNil)) (gN 6) uYes (uSh (u2 fAdd (uVar 5) (uTup (uCons (uVar 6) uNil)))) [6])))
    (sBody sNext))))
    (sBody (sSeq (sAsg 2 (uVar 4))
    (sBody sNext)))))))
    (sBody (sSeq (sRet (uF (fA1 fTuple) (uCons (uVar 2) uNil))) sNext))))
theorem js_law_words {k : Nat} (b : Bi mg) (cdv : Value) (A : Around) (outer : List PySem.Env) (s : Shared) (H : Hp) (E : XK) (f : Addr) (hr : Room k (A.deeper (envOfC "_law_words" (defScope s_law_words) s.heap.objs.size f cdv))) :
    JSs S (cxOf CX0 P w K mg base N_law_words "_law_words" (defScope s_law_words) f cdv A outer s H E).nox (defBody s_law_words) (u_law_words) := by
  have sc := sc_law_words
  exact (jss_cons (js_asg sc.nd (je_sh (je_lst (ja_cons (je_tup ja_nil) ja_nil))) (i := 2))
    (jss_cons (js_forR PassesOwn.never rfl (jr_range1 (by rfl) b.range (ja_cons (je_var 0) ja_nil)) (jg_name [3] sc.nd) (jss_body (jss_cons (js_asg sc.nd (je_lst ja_nil) (i := 4))
    (jss_cons (js_for [] PassesOwn.never rfl (ji_seq (je_var 2)) (jg_name [5] sc.nd) (jss_body (jss_cons (js_asg sc.nd (je_add (je_var 4) (je_lc (own := [("v", 6)]) rfl sc.nd (JR.ji (jr_range1 (by rfl) b.range (ja_cons (je_var 1) ja_nil))) (blkOk_by (by kernel_rfl)) (fun _ _ _ _ _ => (jg_name [6] sc.nd)) (fun _ _ _ _ _ => jts_nil) (fun _ _ _ _ _ => (je_sh (je_add (je_var 5) (je_tup (ja_cons (je_var 6) ja_nil))))))) (i := 4))
    (jss_body jss_nil))))
    (jss_body (jss_cons (js_asg sc.nd (je_var 4) (i := 2))
    (jss_body jss_nil)))))))
    (jss_body (jss_cons (js_ret (je_tuple b.tuple (ja_cons (je_var 2) ja_nil))) jss_nil))))
noncomputable def F_law_words (many1 values2 : D) : Option D :=
  (Mo.bnd (lstM (args [(tupM (args []))])) fun found3 => (Mo.bnd (op1 oRng1 (Mo.ret many1)) fun ds18 => Mo.bnd (forS (fun d5 (s4 : D) => (Mo.bnd (lstM (args [])) fun longer7 => (Mo.bnd (op1 oItems (Mo.ret s4)) fun ds15 => Mo.bnd (forS (fun d9 (s8 : D) => (Mo.bnd (op2 oCat (Mo.ret s8) (lstM (lcM (op1 oRng1 (Mo.ret values2)) fun d12 => (op2 oAdd (Mo.ret d9) (tupM (args [(Mo.ret d12)])))))) fun longer11 => (Mo.ret longer11))) ds15 longer7) fun s13 : D => (Mo.bnd (Mo.ret s13) fun found14 => (Mo.ret found14))))) ds18 found3) fun s16 : D => (Mo.bnd (op1 oTuple (Mo.ret s16)) fun r17 => Mo.ret r17)))
theorem si_law_words (many1 values2 : D) (R : UK) : SI (fun d => R false d) { nx := fun _ => R false .non, rt := R } [some (false, many1), some (false, values2), none, none, none, none, none] (u_law_words ) (F_law_words many1 values2) := by
  unfold u_law_words F_law_words
  exact (si_asgF (ei_sh (ei_lst (ai_cons (ei_tup ai_nil (hl := lenOk rfl)) ai_nil) (hl := lenOk rfl))) fun found3 => (si_forRS (mk := fun s4 : D => [none, some (false, values2), some (false, s4), none, none, none, none]) (s0 := found3) (wi_rng1 (ei_var (x := many1))) (fun d5 s4 Ψ E hn hc h => (tgs_n h (si_asgF (ei_lst ai_nil (hl := lenOk rfl)) fun longer7 => (si_forNS (mk := fun s8 : D => [none, some (false, values2), none, none, some (true, s8), none, none]) (s0 := longer7) (wi_seq (ei_var (x := s4))) (fun d9 s8 Ψ E hn hc h => (tgs_n h (si_asgZ (ei_cat (ei_var (x := s8)) (ei_lc (wi_rng1 (ei_var (x := values2))) fun d12 Q h => (tg_n (el_id (ei_add (ei_var (x := d9)) (ei_tup (ai_cons (ei_var (x := d12)) ai_nil) (hl := lenOk rfl))) h)))) (ρ0 := [none, some (false, values2), none, none, none, some (false, d9), none]) (le_n (le_s (le_n (le_n (le_n (le_s (le_n le_e))))))) (le_n (le_s (le_n (le_n (le_n (le_s (le_n le_e))))))) fun longer11 => (si_nx fun q => hn longer11 _ (le_n (le_s (le_n (le_n (le_s (le_n (le_n le_e))))))) (rr q))))) (le_n (le_s (le_n (le_n (le_s (le_n (le_n le_e))))))) (fun s13 => (si_asgZ (ei_var (x := s13)) (ρ0 := [none, some (false, values2), none, none, none, none, none]) (le_n (le_s (le_n (le_n (le_n (le_n (le_n le_e))))))) (le_n (le_s (le_n (le_n (le_n (le_n (le_n le_e))))))) fun found14 => (si_nx fun q => hn found14 _ (le_n (le_s (le_s (le_n (le_n (le_n (le_n le_e))))))) (rr q)))))))) (le_n (le_s (le_s (le_n (le_n (le_n (le_n le_e))))))) (fun s16 => (si_ret (ei_F1 tuple_ok (ei_var (x := s16))) fun r17 q => rr q))))
noncomputable def A_law_words : List D → Option D
  | [many1, values2] => F_law_words many1 values2
  | _ => none
theorem len_law_words : ∀ ds R, cF A_law_words false ds R → ds.length = P_law_words.length := fun ds R h => match ds, h with | [many1, values2], _ => rfl | [], h => (by first | (obtain ⟨_, e, _⟩ := h; cases e) | exact (run_fail h).elim) | [_], h => (by first | (obtain ⟨_, e, _⟩ := h; cases e) | exact (run_fail h).elim) | _ :: _ :: _ :: _, h => (by first | (obtain ⟨_, e, _⟩ := h; cases e) | exact (run_fail h).elim)
theorem imp_law_words : ∀ ds R, cF A_law_words false ds R → u_law_words  { nx := fun _ => R false .non, rt := R } (startD N_law_words ds) := fun ds R h => match ds, h with | [many1, values2], h => si_law_words many1 values2 R h | [], h => (by first | (obtain ⟨_, e, _⟩ := h; cases e) | exact (run_fail h).elim) | [_], h => (by first | (obtain ⟨_, e, _⟩ := h; cases e) | exact (run_fail h).elim) | _ :: _ :: _ :: _, h => (by first | (obtain ⟨_, e, _⟩ := h; cases e) | exact (run_fail h).elim)
abbrev N_law_sizes : List Str := ["src", "found", "turn", "size"]
abbrev P_law_sizes : List Str := ["src"]
theorem sc_law_sizes : FnScope N_law_sizes P_law_sizes (defScope s_law_sizes) := ⟨rfl, rfl, rfl, by decide +kernel, rfl, by decide +kernel, by decide +kernel⟩
def u_law_sizes (C_law_draw : Ctr) : US :=
    (sSeq (sAsg 1 (uLst uNil))
    (sSeq (sForR (uRng1 (uCons (uCall C_law_draw (uCons (uVar 0) (uCons (uC (.int 4)) uNil))) uNil)) (gN 2) (sBody (sSeq (sAsgM [] 3 (uSh (u2 fAdd (uC (.int 1)) (uCall C_law_draw (uCons (uVar 0) (uCons (uC (.int 3)) uNil))))))
    (sSeq (sIf (uTest (u2 fLe (uSh (u2 fAdd (uF (fA1 fSumA) (uCons (uVar 1) uNil)) (uVar 3))) (uC (.int 8)))) (sSeq (sMeth noM 1 mAppend (uCons (uVar 3) uNil))
    sNext) sNext)
    sNext))))
    (sBody (sSeq (sRet (uF (fA1 fTuple) (uCons (uVar 1) uNil))) sNext))))
theorem js_law_sizes {k : Nat} (b : Bi mg) {C_law_draw : Ctr} (c_law_draw : Cal P w K mg base S s_law_draw "_law_draw" k P_law_draw C_law_draw) (cdv : Value) (A : Around) (outer : List PySem.Env) (s : Shared) (H : Hp) (E : XK) (f : Addr) (hr : Room k (A.deeper (envOfC "_law_sizes" (defScope s_law_sizes) s.heap.objs.size f cdv))) :
    JSs S (cxOf CX0 P w K mg base N_law_sizes "_law_sizes" (defScope s_law_sizes) f cdv A outer s H E).nox (defBody s_law_sizes) (u_law_sizes C_law_draw) := by
  have sc := sc_law_sizes
  exact (jss_cons (js_asg sc.nd (je_lst ja_nil) (i := 1))
    (jss_cons (js_forR PassesOwn.never rfl (jr_range1 (by rfl) b.range (ja_cons (je_callC c_law_draw hr (fun _ _ _ _ _ _ us hl => match us, hl with | [_, _], _ => rfl) (ja_cons (je_var 0) (ja_cons je_int ja_nil)) (Nat.le_refl _)) ja_nil)) (jg_name [2] sc.nd) (jss_body (jss_cons (js_asgM [] sc.nd (je_sh (je_add je_int (je_callC c_law_draw hr (fun _ _ _ _ _ _ us hl => match us, hl with | [_, _], _ => rfl) (ja_cons (je_var 0) (ja_cons je_int ja_nil)) (Nat.le_refl _)))) (i := 3))
    (jss_cons (js_if (jt_le (je_sh (je_add (je_sumA rfl b.sum (ja_cons (je_var 1) ja_nil)) (je_var 3))) je_int) (jss_cons (js_app noM (i := 1) (ja_cons (je_var 3) ja_nil))
    jss_nil) jss_nil)
    jss_nil))))
    (jss_body (jss_cons (js_ret (je_tuple b.tuple (ja_cons (je_var 1) ja_nil))) jss_nil))))
noncomputable def F_law_sizes (src1 : D) : DL.P D :=
  (Mo.bnd (lstM (args [])) fun found2 => (Mo.bnd (op1 oRng1 (appP HDraw (args [(Mo.ret src1), (Mo.ret (DL.D.int 4))]))) fun ds11 => Mo.bnd (forS (fun d4 (s3 : D) => (Mo.bnd (op2 oAdd (Mo.ret (DL.D.int 1)) (appP HDraw (args [(Mo.ret src1), (Mo.ret (DL.D.int 3))]))) fun size6 => (ite3 (op2 bLe (op2 oAdd (op1 oSum (Mo.ret s3)) (Mo.ret size6)) (Mo.ret (DL.D.int 8))) (Mo.bnd (appL s3 (Mo.ret size6)) fun found8 => (Mo.ret found8)) (Mo.ret s3)))) ds11 found2) fun s9 : D => (Mo.bnd (op1 oTuple (Mo.ret s9)) fun r10 => Mo.ret r10)))
theorem si_law_sizes (src1 : D) (R : UK) : SI (fun d => R false d) { nx := fun _ => R false .non, rt := R } [some (false, src1), none, none, none] (u_law_sizes (cH HDraw false)) (F_law_sizes src1) := by
  unfold u_law_sizes F_law_sizes
  exact (si_asgF (ei_lst ai_nil (hl := lenOk rfl)) fun found2 => (si_forRS (mk := fun s3 : D => [some (false, src1), some (true, s3), none, none]) (s0 := found2) (wi_rng1 (ei_callH (ai_cons (ei_var (x := src1)) (ai_cons ei_C ai_nil)))) (fun d4 s3 Ψ E hn hc h => (tgs_n h (si_asgN (ei_add ei_C (ei_callH (ai_cons (ei_var (x := src1)) (ai_cons ei_C ai_nil)))) fun size6 => (si_ifH (ti_2 le_ok (ei_add (ei_F1 sum_ok (ei_var (x := s3))) (ei_var (x := size6))) ei_C) (fun hx7 => (si_appN (ei_var (x := size6)) fun found8 => (hx7 _ _ (si_nx fun q => hn found8 _ (le_s (le_s (le_n (le_n le_e)))) (rr q))))) (fun hx7 => (hx7 _ _ (si_nx fun q => hn s3 _ (le_s (le_s (le_n (le_n le_e)))) (rr q)))))))) (le_s (le_s (le_n (le_n le_e)))) (fun s9 => (si_ret (ei_F1 tuple_ok (ei_var (x := s9))) fun r10 q => rr q))))
noncomputable def H_law_sizes : List D → DL.P D
  | [src1] => F_law_sizes src1
  | _ => fail
theorem len_law_sizes : ∀ ds R, cH H_law_sizes false ds R → ds.length = P_law_sizes.length := fun ds R h => match ds, h with | [src1], _ => rfl | [], h => (by first | (obtain ⟨_, e, _⟩ := h; cases e) | exact (run_fail h).elim) | _ :: _ :: _, h => (by first | (obtain ⟨_, e, _⟩ := h; cases e) | exact (run_fail h).elim)
theorem imp_law_sizes : ∀ ds R, cH H_law_sizes false ds R → u_law_sizes (cH HDraw false) { nx := fun _ => R false .non, rt := R } (startD N_law_sizes ds) := fun ds R h => match ds, h with | [src1], h => si_law_sizes src1 R h | [], h => (by first | (obtain ⟨_, e, _⟩ := h; cases e) | exact (run_fail h).elim) | _ :: _ :: _, h => (by first | (obtain ⟨_, e, _⟩ := h; cases e) | exact (run_fail h).elim)
abbrev N_law : List Str := ["script", "src", "turn", "n", "sizes", "many", "values", "full"]
abbrev P_law : List Str := ["script"]
theorem sc_law : FnScope N_law P_law (defScope s_law) := ⟨rfl, rfl, rfl, by decide +kernel, rfl, by decide +kernel, by decide +kernel⟩
def u_law (C_law_draw : Ctr) (C_law_sizes : Ctr) (C_law_so : Ctr) (C_law_ring : Ctr) (C_ring_table : Ctr) (C_law_blocks : Ctr) (C_block_table : Ctr) (C_law_pick : Ctr) (C_law_words : Ctr) (C_all_words : Ctr) (C_umbrella : Ctr) (C_three_looks : Ctr) : US :=
    (sSeq (sForR (uRng1 (uCons (uC (.int 3)) uNil)) (gN 2) (sBody (sSeq (sPar 3 4 (uSh (u2 fAdd (uC (.int 1)) (uCall C_law_draw (uCons (uVar 1) (uCons (uC (.int 8)) uNil))))) (uCall C_law_sizes (uCons (uVar 1) uNil)))
    (sSeq (sIf (uNot (uTru (uCall C_law_so (uCons (uIte (uTest (u2 fGt (uVar 2) (uC (.int 0)))) (uCall C_ring_table (uCons (uVar 3) uNil)) (uCallK C_ring_table 0 1 [0] uNil (uCons (uVar 3) uNil))) (uCons (uCall C_law_ring (uCons (uVar 3) uNil)) uNil))))) (sSeq (sRet (uC (.bl false))) sNext) sNext)
    (sSeq (sIf (uNot (uTru (uCall C_law_so (uCons (uIte (uTest (u2 fGt (uVar 2) (uC (.int 0)))) (uCall C_block_table (uCons (uVar 4) uNil)) (uCallK C_block_table 0 1 [0] uNil (uCons (uVar 4) uNil))) (uCons (uCall C_law_blocks (uCons (uVar 4) uNil)) uNil))))) (sSeq (sRet (uC (.bl false))) sNext) sNext)
    (sSeq (sAsgG (gT [(gN 5), (gN 6)]) (uCall C_law_pick (uCons (uVar 1) (uCons (uLst (uCons (uTup (uCons (uC (.int 1)) (uCons (uC (.int 2)) uNil))) (uCons (uTup (uCons (uC (.int 1)) (uCons (uC (.int 3)) uNil))) (uCons (uTup (uCons (uC (.int 1)) (uCons (uC (.int 4)) uNil))) (uCons (uTup (uCons (uC (.int 2)) (uCons (uC (.int 2)) uNil))) (uCons (uTup (uCons (uC (.int 2)) (uCons (uC (.int 3)) uNil))) (uCons (uTup (uCons (uC (.int 3)) (uCons (uC (.int 2)) uNil))) uNil))))))) uNil))))
    (sSeq (sIf (uNot (uTru (uCall C_law_so (uCons (uIte (uTest (u2 fGt (uVar 2) (uC (.int 0)))) (uCall C_all_words (uCons (uVar 5) (uCons (uVar 6) uNil))) (uCallK C_all_words 0 2 [1, 0] uNil (uCons (uVar 6) (uCons (uVar 5) uNil)))) (uCons (uCall C_law_words (uCons (uVar 5) (uCons (uVar 6) uNil))) uNil))))) (sSeq (sRet (uC (.bl false))) sNext) sNext)
    (sSeq (sAsg 7 (uTup (uCons (uTup (uCons (uC (.int 0)) (uCons (uC (.int 1)) uNil))) (uCons (uTup (uCons (uC (.int 0)) (uCons (uC (.int 1)) uNil))) uNil))))
    (sSeq (sIf (uNot (uTru (uCall C_law_so (uCons (uIte (uTest (u2 fGt (uVar 2) (uC (.int 0)))) (uCall C_umbrella (uCons (uVar 3) uNil)) (uCallK C_umbrella 0 1 [0] uNil (uCons (uVar 3) uNil))) (uCons (uTup (uCons (uTup (uCons (uC (.int 2)) (uCons (uC (.int 2)) uNil))) (uCons (uSh (u2 fMul (uTup (uCons (uVar 7) uNil)) (uVar 3))) (uCons (uSh (u2 fMul (uTup (uCons (uVar 7) uNil)) (uVar 3))) (uCons (uC (.int 2)) (uCons (uTup (uCons (uVar 3) (uCons (uTup uNil) uNil))) (uCons (uC (.int 0)) uNil))))))) uNil))))) (sSeq (sRet (uC (.bl false))) sNext) sNext)
    sNext)))))))))
    (sBody (sSeq (sRet (uAndV (uCall C_law_so (uCons (uCall C_three_looks uNil) (uCons (uTup (uCons (uTup (uCons (uTup (uCons (uC (.int 0)) (uCons (uC (.int 1)) uNil))) uNil)) (uCons (uTup (uCons (uTup (uCons (uC (.int 1)) (uCons (uC (.int 2)) uNil))) uNil)) (uCons (uTup (uCons (uTup (uCons (uC (.int 0)) (uCons (uC (.int 2)) uNil))) uNil)) uNil)))) uNil))) (uCall C_law_so (uCons (uCall C_block_table (uCons (uTup (uCons (uC (.int 3)) (uCons (uC (.int 3)) (uCons (uC (.int 2)) uNil)))) uNil)) (uCons (uCall C_law_blocks (uCons (uTup (uCons (uC (.int 3)) (uCons (uC (.int 3)) (uCons (uC (.int 2)) uNil)))) uNil)) uNil))))) sNext)))
def ue_law (K : PySem.W.Frag) : UE :=
    (uLst (uCons (uF (fA1 (fListS K)) (uCons (uVar 0) uNil)) (uCons (uC (.int 0)) (uCons (uC (.int 0)) (uCons (u2 fAdd (uC (.int 1)) (uF (fA1 (fLenS K)) (uCons (uVar 0) uNil))) uNil)))))
theorem js_law {k : Nat} (b : Bi mg) {C_law_draw : Ctr} (c_law_draw : Cal P w K mg base S s_law_draw "_law_draw" k P_law_draw C_law_draw) {C_law_sizes : Ctr} (c_law_sizes : Cal P w K mg base S s_law_sizes "_law_sizes" k P_law_sizes C_law_sizes) {C_law_so : Ctr} (c_law_so : Cal P w K mg base S s_law_so "_law_so" k P_law_so C_law_so) {C_law_ring : Ctr} (c_law_ring : Cal P w K mg base S s_law_ring "_law_ring" k P_law_ring C_law_ring) {C_ring_table : Ctr} (c_ring_table : Cal P w K mg base S s_ring_table "ring_table" k P_ring_table C_ring_table) {C_law_blocks : Ctr} (c_law_blocks : Cal P w K mg base S s_law_blocks "_law_blocks" k P_law_blocks C_law_blocks) {C_block_table : Ctr} (c_block_table : Cal P w K mg base S s_block_table "block_table" k P_block_table C_block_table) {C_law_pick : Ctr} (c_law_pick : Cal P w K mg base S s_law_pick "_law_pick" k P_law_pick C_law_pick) {C_law_words : Ctr} (c_law_words : Cal P w K mg base S s_law_words "_law_words" k P_law_words C_law_words) {C_all_words : Ctr} (c_all_words : Cal P w K mg base S s_all_words "all_words" k P_all_words C_all_words) {C_umbrella : Ctr} (c_umbrella : Cal P w K mg base S s_umbrella "umbrella" k P_umbrella C_umbrella) {C_three_looks : Ctr} (c_three_looks : Cal P w K mg base S s_three_looks "three_looks" k P_three_looks C_three_looks) (cdv : Value) (A : Around) (outer : List PySem.Env) (s : Shared) (H : Hp) (E : XK) (f : Addr) (hr : Room k (A.deeper (envOfC "law" (defScope s_law) s.heap.objs.size f cdv))) :
    JE S (cxOf CX0 P w K mg base N_law "law" (defScope s_law) f cdv A outer s H E).nox (law_rhs (defBody s_law)) (ue_law K) ∧ JSs S (cxOf CX0 P w K mg base N_law "law" (defScope s_law) f cdv A outer s H E).nox (defBody s_law).tail (u_law C_law_draw C_law_sizes C_law_so C_law_ring C_ring_table C_law_blocks C_block_table C_law_pick C_law_words C_all_words C_umbrella C_three_looks) := by
  have sc := sc_law
  refine ⟨?_, ?_⟩
  · exact (je_lst (ja_cons (je_listS b.list (ja_cons (je_var 0) ja_nil)) (ja_cons je_int (ja_cons je_int (ja_cons (je_add je_int (je_lenS b.len (ja_cons (je_var 0) ja_nil))) ja_nil)))))
  · exact (jss_cons (js_forR PassesOwn.never rfl (jr_range1 (by rfl) b.range (ja_cons je_int ja_nil)) (jg_name [2] sc.nd) (jss_body (jss_cons (js_par (i := 3) (j := 4) rfl sc.nd (je_sh (je_add je_int (je_callC c_law_draw hr (fun _ _ _ _ _ _ us hl => match us, hl with | [_, _], _ => rfl) (ja_cons (je_var 1) (ja_cons je_int ja_nil)) (Nat.le_refl _)))) (je_callC c_law_sizes hr (fun _ _ _ _ _ _ us hl => match us, hl with | [_], _ => rfl) (ja_cons (je_var 1) ja_nil) (Nat.le_refl _)))
    (jss_cons (js_if (jt_not (jt_tru (je_callC c_law_so hr (fun _ _ _ _ _ _ us hl => match us, hl with | [_, _], _ => rfl) (ja_cons (je_ifExp (jt_gt (je_var 2) je_int) (je_callC c_ring_table hr (fun _ _ _ _ _ _ us hl => match us, hl with | [_], _ => rfl) (ja_cons (je_var 3) ja_nil) (Nat.le_refl _)) (je_callCK0 (ks := ["n"]) (ix := [0]) c_ring_table hr (fun _ _ _ _ _ _ us ws h1 h2 => match us, ws, h1, h2 with | [], [_], _, _ => rfl) (jk_cons (je_var 3) jk_nil) (Nat.le_refl _))) (ja_cons (je_callC c_law_ring hr (fun _ _ _ _ _ _ us hl => match us, hl with | [_], _ => rfl) (ja_cons (je_var 3) ja_nil) (Nat.le_refl _)) ja_nil)) (Nat.le_refl _)))) (jss_cons (js_ret je_bl) jss_nil) jss_nil)
    (jss_cons (js_if (jt_not (jt_tru (je_callC c_law_so hr (fun _ _ _ _ _ _ us hl => match us, hl with | [_, _], _ => rfl) (ja_cons (je_ifExp (jt_gt (je_var 2) je_int) (je_callC c_block_table hr (fun _ _ _ _ _ _ us hl => match us, hl with | [_], _ => rfl) (ja_cons (je_var 4) ja_nil) (Nat.le_refl _)) (je_callCK0 (ks := ["sizes"]) (ix := [0]) c_block_table hr (fun _ _ _ _ _ _ us ws h1 h2 => match us, ws, h1, h2 with | [], [_], _, _ => rfl) (jk_cons (je_var 4) jk_nil) (Nat.le_refl _))) (ja_cons (je_callC c_law_blocks hr (fun _ _ _ _ _ _ us hl => match us, hl with | [_], _ => rfl) (ja_cons (je_var 4) ja_nil) (Nat.le_refl _)) ja_nil)) (Nat.le_refl _)))) (jss_cons (js_ret je_bl) jss_nil) jss_nil)
    (jss_cons (js_asgG (je_callC c_law_pick hr (fun _ _ _ _ _ _ us hl => match us, hl with | [_, _], _ => rfl) (ja_cons (je_var 1) (ja_cons (je_lst (ja_cons (je_tup (ja_cons je_int (ja_cons je_int ja_nil))) (ja_cons (je_tup (ja_cons je_int (ja_cons je_int ja_nil))) (ja_cons (je_tup (ja_cons je_int (ja_cons je_int ja_nil))) (ja_cons (je_tup (ja_cons je_int (ja_cons je_int ja_nil))) (ja_cons (je_tup (ja_cons je_int (ja_cons je_int ja_nil))) (ja_cons (je_tup (ja_cons je_int (ja_cons je_int ja_nil))) ja_nil))))))) ja_nil)) (Nat.le_refl _)) (jg_tup rfl (jgs_cons (jg_name [5, 6] sc.nd) (jgs_cons (jg_name [5, 6] sc.nd) (jgs_nil [5, 6])))))
    (jss_cons (js_if (jt_not (jt_tru (je_callC c_law_so hr (fun _ _ _ _ _ _ us hl => match us, hl with | [_, _], _ => rfl) (ja_cons (je_ifExp (jt_gt (je_var 2) je_int) (je_callC c_all_words hr (fun _ _ _ _ _ _ us hl => match us, hl with | [_, _], _ => rfl) (ja_cons (je_var 5) (ja_cons (je_var 6) ja_nil)) (Nat.le_refl _)) (je_callCK0 (ks := ["values", "many"]) (ix := [1, 0]) c_all_words hr (fun _ _ _ _ _ _ us ws h1 h2 => match us, ws, h1, h2 with | [], [_, _], _, _ => rfl) (jk_cons (je_var 6) (jk_cons (je_var 5) jk_nil)) (Nat.le_refl _))) (ja_cons (je_callC c_law_words hr (fun _ _ _ _ _ _ us hl => match us, hl with | [_, _], _ => rfl) (ja_cons (je_var 5) (ja_cons (je_var 6) ja_nil)) (Nat.le_refl _)) ja_nil)) (Nat.le_refl _)))) (jss_cons (js_ret je_bl) jss_nil) jss_nil)
    (jss_cons (js_asg sc.nd (je_tup (ja_cons (je_tup (ja_cons je_int (ja_cons je_int ja_nil))) (ja_cons (je_tup (ja_cons je_int (ja_cons je_int ja_nil))) ja_nil))) (i := 7))
    (jss_cons (js_if (jt_not (jt_tru (je_callC c_law_so hr (fun _ _ _ _ _ _ us hl => match us, hl with | [_, _], _ => rfl) (ja_cons (je_ifExp (jt_gt (je_var 2) je_int) (je_callC c_umbrella hr (fun _ _ _ _ _ _ us hl => match us, hl with | [_], _ => rfl) (ja_cons (je_var 3) ja_nil) (Nat.le_refl _)) (je_callCK0 (ks := ["n"]) (ix := [0]) c_umbrella hr (fun _ _ _ _ _ _ us ws h1 h2 => match us, ws, h1, h2 with | [], [_], _, _ => rfl) (jk_cons (je_var 3) jk_nil) (Nat.le_refl _))) (ja_cons (je_tup (ja_cons (je_tup (ja_cons je_int (ja_cons je_int ja_nil))) (ja_cons (je_sh (je_mul (je_tup (ja_cons (je_var 7) ja_nil)) (je_var 3))) (ja_cons (je_sh (je_mul (je_tup (ja_cons (je_var 7) ja_nil)) (je_var 3))) (ja_cons je_int (ja_cons (je_tup (ja_cons (je_var 3) (ja_cons (je_tup ja_nil) ja_nil))) (ja_cons je_int ja_nil))))))) ja_nil)) (Nat.le_refl _)))) (jss_cons (js_ret je_bl) jss_nil) jss_nil)
    jss_nil)))))))))
    (jss_body (jss_cons (js_ret (je_and (je_callC c_law_so hr (fun _ _ _ _ _ _ us hl => match us, hl with | [_, _], _ => rfl) (ja_cons (je_callC0 c_three_looks hr (fun _ _ _ _ _ _ us hl => match us, hl with | [], _ => rfl) (Nat.le_refl _)) (ja_cons (je_tup (ja_cons (je_tup (ja_cons (je_tup (ja_cons je_int (ja_cons je_int ja_nil))) ja_nil)) (ja_cons (je_tup (ja_cons (je_tup (ja_cons je_int (ja_cons je_int ja_nil))) ja_nil)) (ja_cons (je_tup (ja_cons (je_tup (ja_cons je_int (ja_cons je_int ja_nil))) ja_nil)) ja_nil)))) ja_nil)) (Nat.le_refl _)) (je_one (je_callC c_law_so hr (fun _ _ _ _ _ _ us hl => match us, hl with | [_, _], _ => rfl) (ja_cons (je_callC c_block_table hr (fun _ _ _ _ _ _ us hl => match us, hl with | [_], _ => rfl) (ja_cons (je_tup (ja_cons je_int (ja_cons je_int (ja_cons je_int ja_nil)))) ja_nil) (Nat.le_refl _)) (ja_cons (je_callC c_law_blocks hr (fun _ _ _ _ _ _ us hl => match us, hl with | [_], _ => rfl) (ja_cons (je_tup (ja_cons je_int (ja_cons je_int (ja_cons je_int ja_nil)))) ja_nil) (Nat.le_refl _)) ja_nil)) (Nat.le_refl _))))) jss_nil)))
theorem hs_law {f : Addr} (cdv : Value) (A : Around) (outer : List PySem.Env) (s : Shared) (H : Hp) (E : XK) (t : TE) (h : PE (cxOf CX0 P w K mg base N_law "law" (defScope s_law) f cdv A outer s H E).nox (law_rhs (defBody s_law)) t) : PS (cxOf CX0 P w K mg base N_law "law" (defScope s_law) f cdv A outer s H E).nox ((defBody s_law).headD (.Pass ⟨0, 0, 0, 0⟩)) (tAsg t (gName 1)) := ps_set (i := 1) sc_law.nd rfl (by first | exact Or.inl rfl | exact Or.inr rfl) h rfl (by first | exact .inl rfl | exact .inr rfl)
noncomputable def F_law : DL.P D :=
  (Mo.bnd (op1 oRng1 (Mo.ret (DL.D.int 3))) fun ds21 => Mo.bnd (forC (fun d2 (s1 : Unit) => (Mo.bnd (op2 oAdd (Mo.ret (DL.D.int 1)) (appP HDraw (args [(Mo.ret .src), (Mo.ret (DL.D.int 8))]))) fun n4 => Mo.bnd (appP H_law_sizes (args [(Mo.ret .src)])) fun sizes5 => (ite3 (DL.tNot (truM (appM (A_law_so 5) (args [(ite3 (op2 bGt (Mo.ret d2) (Mo.ret (DL.D.int 0))) (appM A_ring_table (args [(Mo.ret n4)])) (appM A_ring_table (Mo.bnd (args []) fun ds => Mo.bnd (args [(Mo.ret n4)]) fun es => Mo.ret (pick (ds ++ es) [0])))), (appM A_law_ring (args [(Mo.ret n4)]))])))) (Mo.bnd (Mo.ret (DL.D.bl false)) fun r7 => Mo.ret (.rt r7)) (ite3 (DL.tNot (truM (appM (A_law_so 5) (args [(ite3 (op2 bGt (Mo.ret d2) (Mo.ret (DL.D.int 0))) (appM A_block_table (args [(Mo.ret sizes5)])) (appM A_block_table (Mo.bnd (args []) fun ds => Mo.bnd (args [(Mo.ret sizes5)]) fun es => Mo.ret (pick (ds ++ es) [0])))), (appM A_law_blocks (args [(Mo.ret sizes5)]))])))) (Mo.bnd (Mo.ret (DL.D.bl false)) fun r9 => Mo.ret (.rt r9)) (Mo.bnd (appP H_law_pick (args [(Mo.ret .src), (lstM (args [(tupM (args [(Mo.ret (DL.D.int 1)), (Mo.ret (DL.D.int 2))])), (tupM (args [(Mo.ret (DL.D.int 1)), (Mo.ret (DL.D.int 3))])), (tupM (args [(Mo.ret (DL.D.int 1)), (Mo.ret (DL.D.int 4))])), (tupM (args [(Mo.ret (DL.D.int 2)), (Mo.ret (DL.D.int 2))])), (tupM (args [(Mo.ret (DL.D.int 2)), (Mo.ret (DL.D.int 3))])), (tupM (args [(Mo.ret (DL.D.int 3)), (Mo.ret (DL.D.int 2))]))]))])) fun d10 => (un2 d10 fun many11 values12 => (ite3 (DL.tNot (truM (appM (A_law_so 5) (args [(ite3 (op2 bGt (Mo.ret d2) (Mo.ret (DL.D.int 0))) (appM A_all_words (args [(Mo.ret many11), (Mo.ret values12)])) (appM A_all_words (Mo.bnd (args []) fun ds => Mo.bnd (args [(Mo.ret values12), (Mo.ret many11)]) fun es => Mo.ret (pick (ds ++ es) [1, 0])))), (appM A_law_words (args [(Mo.ret many11), (Mo.ret values12)]))])))) (Mo.bnd (Mo.ret (DL.D.bl false)) fun r15 => Mo.ret (.rt r15)) (Mo.bnd (tupM (args [(tupM (args [(Mo.ret (DL.D.int 0)), (Mo.ret (DL.D.int 1))])), (tupM (args [(Mo.ret (DL.D.int 0)), (Mo.ret (DL.D.int 1))]))])) fun full16 => (ite3 (DL.tNot (truM (appM (A_law_so 5) (args [(ite3 (op2 bGt (Mo.ret d2) (Mo.ret (DL.D.int 0))) (appM A_umbrella (args [(Mo.ret n4)])) (appM A_umbrella (Mo.bnd (args []) fun ds => Mo.bnd (args [(Mo.ret n4)]) fun es => Mo.ret (pick (ds ++ es) [0])))), (tupM (args [(tupM (args [(Mo.ret (DL.D.int 2)), (Mo.ret (DL.D.int 2))])), (op2 oMul (tupM (args [(Mo.ret full16)])) (Mo.ret n4)), (op2 oMul (tupM (args [(Mo.ret full16)])) (Mo.ret n4)), (Mo.ret (DL.D.int 2)), (tupM (args [(Mo.ret n4), (tupM (args []))])), (Mo.ret (DL.D.int 0))]))])))) (Mo.bnd (Mo.ret (DL.D.bl false)) fun r18 => Mo.ret (.rt r18)) (Mo.ret (.nx ()))))))))))) ds21 ()) (ctlK (fun r22 => (Mo.ret r22)) fun s19 : Unit => (Mo.bnd (vB (DL.tAnd (toB (appM (A_law_so 5) (args [(appM A_three_looks (args [])), (tupM (args [(tupM (args [(tupM (args [(Mo.ret (DL.D.int 0)), (Mo.ret (DL.D.int 1))]))])), (tupM (args [(tupM (args [(Mo.ret (DL.D.int 1)), (Mo.ret (DL.D.int 2))]))])), (tupM (args [(tupM (args [(Mo.ret (DL.D.int 0)), (Mo.ret (DL.D.int 2))]))]))]))]))) (toB (appM (A_law_so 5) (args [(appM A_block_table (args [(tupM (args [(Mo.ret (DL.D.int 3)), (Mo.ret (DL.D.int 3)), (Mo.ret (DL.D.int 2))]))])), (appM A_law_blocks (args [(tupM (args [(Mo.ret (DL.D.int 3)), (Mo.ret (DL.D.int 3)), (Mo.ret (DL.D.int 2))]))]))]))))) fun r20 => Mo.ret r20)))
theorem si_law (R : UK) : SI (fun d => R false d) { nx := fun _ => False, rt := R } ([none, some (false, .src), none, none, none, none, none, none]) (u_law (cH HDraw false) (cH H_law_sizes false) (cF (A_law_so 5) false) (cF A_law_ring false) (cF A_ring_table false) (cF A_law_blocks false) (cF A_block_table false) (cH H_law_pick false) (cF A_law_words false) (cF A_all_words false) (cF A_umbrella false) (cF A_three_looks false)) (F_law ) := by
  unfold u_law F_law
  exact (si_forRC (mk := fun s1 : Unit => [none, some (false, .src), none, none, none, none, none, none]) (s0 := ()) (t := false) (wi_rng1 ei_C) (fun d2 s1 Ψ E hn hc hb hr h => (tgs_n h (si_parF (ei_add ei_C (ei_callH (ai_cons (ei_var (x := .src)) (ai_cons ei_C ai_nil)))) (ei_callH (ai_cons (ei_var (x := .src)) ai_nil)) fun n4 sizes5 => (si_ifH (ti_not (ti_tru (ei_call (ai_cons (ei_ite (ti_2 gt_ok (ei_var (x := d2)) ei_C) (ei_call (ai_cons (ei_var (x := n4)) ai_nil)) (ei_callM ai_nil (ai_cons (ei_var (x := n4)) ai_nil))) (ai_cons (ei_call (ai_cons (ei_var (x := n4)) ai_nil)) ai_nil))))) (fun hx6 => (si_ret ei_C fun r7 q => hr _ (rr q))) (fun hx6 => (hx6 _ _ (si_ifH (ti_not (ti_tru (ei_call (ai_cons (ei_ite (ti_2 gt_ok (ei_var (x := d2)) ei_C) (ei_call (ai_cons (ei_var (x := sizes5)) ai_nil)) (ei_callM ai_nil (ai_cons (ei_var (x := sizes5)) ai_nil))) (ai_cons (ei_call (ai_cons (ei_var (x := sizes5)) ai_nil)) ai_nil))))) (fun hx8 => (si_ret ei_C fun r9 q => hr _ (rr q))) (fun hx8 => (hx8 _ _ (si_asgGF (ei_callH (ai_cons (ei_var (x := .src)) (ai_cons (ei_lst (ai_cons (ei_tup (ai_cons ei_C (ai_cons ei_C ai_nil)) (hl := lenOk rfl)) (ai_cons (ei_tup (ai_cons ei_C (ai_cons ei_C ai_nil)) (hl := lenOk rfl)) (ai_cons (ei_tup (ai_cons ei_C (ai_cons ei_C ai_nil)) (hl := lenOk rfl)) (ai_cons (ei_tup (ai_cons ei_C (ai_cons ei_C ai_nil)) (hl := lenOk rfl)) (ai_cons (ei_tup (ai_cons ei_C (ai_cons ei_C ai_nil)) (hl := lenOk rfl)) (ai_cons (ei_tup (ai_cons ei_C (ai_cons ei_C ai_nil)) (hl := lenOk rfl)) ai_nil)))))) (hl := lenOk rfl)) ai_nil))) fun d10 h => (tgs_2 h fun many11 values12 => (si_ifH (ti_not (ti_tru (ei_call (ai_cons (ei_ite (ti_2 gt_ok (ei_var (x := d2)) ei_C) (ei_call (ai_cons (ei_var (x := many11)) (ai_cons (ei_var (x := values12)) ai_nil))) (ei_callM ai_nil (ai_cons (ei_var (x := values12)) (ai_cons (ei_var (x := many11)) ai_nil)))) (ai_cons (ei_call (ai_cons (ei_var (x := many11)) (ai_cons (ei_var (x := values12)) ai_nil))) ai_nil))))) (fun hx14 => (si_ret ei_C fun r15 q => hr _ (rr q))) (fun hx14 => (hx14 _ _ (si_asgF (ei_tup (ai_cons (ei_tup (ai_cons ei_C (ai_cons ei_C ai_nil)) (hl := lenOk rfl)) (ai_cons (ei_tup (ai_cons ei_C (ai_cons ei_C ai_nil)) (hl := lenOk rfl)) ai_nil)) (hl := lenOk rfl)) fun full16 => (si_ifH (ti_not (ti_tru (ei_call (ai_cons (ei_ite (ti_2 gt_ok (ei_var (x := d2)) ei_C) (ei_call (ai_cons (ei_var (x := n4)) ai_nil)) (ei_callM ai_nil (ai_cons (ei_var (x := n4)) ai_nil))) (ai_cons (ei_tup (ai_cons (ei_tup (ai_cons ei_C (ai_cons ei_C ai_nil)) (hl := lenOk rfl)) (ai_cons (ei_mul (ei_tup (ai_cons (ei_var (x := full16)) ai_nil) (hl := lenOk rfl)) (ei_var (x := n4))) (ai_cons (ei_mul (ei_tup (ai_cons (ei_var (x := full16)) ai_nil) (hl := lenOk rfl)) (ei_var (x := n4))) (ai_cons ei_C (ai_cons (ei_tup (ai_cons (ei_var (x := n4)) (ai_cons (ei_tup ai_nil (hl := lenOk rfl)) ai_nil)) (hl := lenOk rfl)) (ai_cons ei_C ai_nil)))))) (hl := lenOk rfl)) ai_nil))))) (fun hx17 => (si_ret ei_C fun r18 q => hr _ (rr q))) (fun hx17 => (hx17 _ _ (si_nx fun q => hn () _ (le_n (le_s (le_n (le_n (le_n (le_n (le_n (le_n le_e)))))))) (rr q)))))))))))))))))))) (le_n (le_s (le_n (le_n (le_n (le_n (le_n (le_n le_e)))))))) (fun s19 => (si_ret (ei_andB (ei_toB (ei_call (ai_cons (ei_call ai_nil) (ai_cons (ei_tup (ai_cons (ei_tup (ai_cons (ei_tup (ai_cons ei_C (ai_cons ei_C ai_nil)) (hl := lenOk rfl)) ai_nil) (hl := lenOk rfl)) (ai_cons (ei_tup (ai_cons (ei_tup (ai_cons ei_C (ai_cons ei_C ai_nil)) (hl := lenOk rfl)) ai_nil) (hl := lenOk rfl)) (ai_cons (ei_tup (ai_cons (ei_tup (ai_cons ei_C (ai_cons ei_C ai_nil)) (hl := lenOk rfl)) ai_nil) (hl := lenOk rfl)) ai_nil))) (hl := lenOk rfl)) ai_nil)))) (ei_toB (ei_call (ai_cons (ei_call (ai_cons (ei_tup (ai_cons ei_C (ai_cons ei_C (ai_cons ei_C ai_nil))) (hl := lenOk rfl)) ai_nil)) (ai_cons (ei_call (ai_cons (ei_tup (ai_cons ei_C (ai_cons ei_C (ai_cons ei_C ai_nil))) (hl := lenOk rfl)) ai_nil)) ai_nil))))) fun r20 q => rr q)) (fun r22 q => rr q))
end
end My

namespace My
open DL
/-- two programs' answers are there, and the law's own look holds them alike -/
noncomputable def ck (a b : Option D) : Bool := match a, b with
  | some a, some b => match A_law_so 5 [a, b] with
    | some (.bl true) => true
    | _ => false
  | _, _ => false
theorem ck_ok {a b : Option D} (h : ck a b = true) : ∃ x y, a = some x ∧ b = some y ∧ A_law_so 5 [x, y] = some (.bl true) := by
  unfold ck at h
  split at h
  · split at h
    · exact ⟨_, _, rfl, rfl, by assumption⟩
    · cases h
  · cases h
theorem ring_all : ∀ n : Fin 8, ck (A_ring_table [.int ((n.val : Int) + 1)]) (A_law_ring [.int ((n.val : Int) + 1)]) = true := by decide +kernel
theorem ring_ok {n : Int} (h0 : 0 ≤ n) (h1 : n < 8) : ∃ x y, A_ring_table [.int (1 + n)] = some x ∧ A_law_ring [.int (1 + n)] = some y ∧ A_law_so 5 [x, y] = some (.bl true) := by
  have := ring_all ⟨n.toNat, by omega⟩
  rw [show (((⟨n.toNat, by omega⟩ : Fin 8).val : Int) + 1) = 1 + n from by show (n.toNat : Int) + 1 = _; omega] at this
  exact ck_ok this
theorem blk0 : ck (A_block_table [dI []]) (A_law_blocks [dI []]) = true := by decide +kernel
theorem blk1 : ∀ a : Fin 3, ck (A_block_table [dI [(a.val : Int) + 1]]) (A_law_blocks [dI [(a.val : Int) + 1]]) = true := by decide +kernel
theorem blk2 : ∀ a b : Fin 3, ck (A_block_table [dI [(a.val : Int) + 1, (b.val : Int) + 1]]) (A_law_blocks [dI [(a.val : Int) + 1, (b.val : Int) + 1]]) = true := by decide +kernel
theorem blk3 : ∀ a b c : Fin 3, ck (A_block_table [dI [(a.val : Int) + 1, (b.val : Int) + 1, (c.val : Int) + 1]]) (A_law_blocks [dI [(a.val : Int) + 1, (b.val : Int) + 1, (c.val : Int) + 1]]) = true := by decide +kernel
theorem fin3 {a : Int} (h : 1 ≤ a ∧ a ≤ 3) : ∃ i : Fin 3, a = (i.val : Int) + 1 := ⟨⟨(a - 1).toNat, by omega⟩, by show a = ((a - 1).toNat : Int) + 1; omega⟩
theorem blk_ok {l : List Int} (h0 : l.length ≤ 3) (h : ∀ x ∈ l, 1 ≤ x ∧ x ≤ 3) : ∃ x y, A_block_table [dI l] = some x ∧ A_law_blocks [dI l] = some y ∧ A_law_so 5 [x, y] = some (.bl true) := by
  match l, h0, h with
  | [], _, _ => exact ck_ok blk0
  | [a], _, h =>
    obtain ⟨i, rfl⟩ := fin3 (h a (by simp))
    exact ck_ok (blk1 i)
  | [a, b], _, h =>
    obtain ⟨i, rfl⟩ := fin3 (h a (by simp))
    obtain ⟨j, rfl⟩ := fin3 (h b (by simp))
    exact ck_ok (blk2 i j)
  | [a, b, c], _, h =>
    obtain ⟨i, rfl⟩ := fin3 (h a (by simp))
    obtain ⟨j, rfl⟩ := fin3 (h b (by simp))
    obtain ⟨k, rfl⟩ := fin3 (h c (by simp))
    exact ck_ok (blk3 i j k)
  | _ :: _ :: _ :: _ :: _, h0, _ => simp at h0
def prs : List (Int × Int) := [(1, 2), (1, 3), (1, 4), (2, 2), (2, 3), (3, 2)]
theorem wrd_all : ∀ i : Fin 6, ck (A_all_words [.int (prs.getD i.val (0, 0)).1, .int (prs.getD i.val (0, 0)).2]) (A_law_words [.int (prs.getD i.val (0, 0)).1, .int (prs.getD i.val (0, 0)).2]) = true := by decide +kernel
def umb (n : Int) : Option D := (tupM (args [(tupM (args [(Mo.ret (.int 2)), (Mo.ret (.int 2))])), (op2 oMul (tupM (args [(Mo.ret (.tup [.tup [.int 0, .int 1], .tup [.int 0, .int 1]]))])) (Mo.ret (.int n))), (op2 oMul (tupM (args [(Mo.ret (.tup [.tup [.int 0, .int 1], .tup [.int 0, .int 1]]))])) (Mo.ret (.int n))), (Mo.ret (.int 2)), (tupM (args [(Mo.ret (.int n)), (tupM (args []))])), (Mo.ret (.int 0))]))
theorem umb_all : ∀ n : Fin 8, ck (A_umbrella [.int ((n.val : Int) + 1)]) (umb ((n.val : Int) + 1)) = true := by decide +kernel
theorem three_ok : ck (A_three_looks []) (some (.tup [.tup [.tup [.int 0, .int 1]], .tup [.tup [.int 1, .int 2]], .tup [.tup [.int 0, .int 2]]])) = true := by decide +kernel
theorem last_ok : ck (A_block_table [.tup [.int 3, .int 3, .int 2]]) (A_law_blocks [.tup [.int 3, .int 3, .int 2]]) = true := by decide +kernel
theorem umb_ok {n : Int} (h0 : 0 ≤ n) (h1 : n < 8) : ∃ x y, A_umbrella [.int (1 + n)] = some x ∧ umb (1 + n) = some y ∧ A_law_so 5 [x, y] = some (.bl true) := by
  have := umb_all ⟨n.toNat, by omega⟩
  rw [show (((⟨n.toNat, by omega⟩ : Fin 8).val : Int) + 1) = 1 + n from by show (n.toNat : Int) + 1 = _; omega] at this
  exact ck_ok this
theorem sizes_p {Q : D → Prop} (h : ∀ l : List Int, l.length ≤ 3 → (∀ x ∈ l, 1 ≤ x ∧ x ≤ 3) → Q (dI l)) : (H_law_sizes [.src]).p Q := by
  show (F_law_sizes .src).p Q
  unfold F_law_sizes
  simp (maxSteps := 3000000) (disch := first | omega | (simp only [List.length_range, List.length_map, List.length_replicate, List.length_range', List.length_set, List.length_append, List.length_cons, List.length_nil, List.length_zip, List.length_take, List.length_drop, List.length_reverse]; omega)) only [DL.w_ret, DL.w_bnd, DL.w_ofO, DL.w_op1, DL.w_op2, DL.w_args0, DL.w_args, DL.w_tupM, DL.w_lstM, DL.w_appP, DL.w_appM, DL.w_ite, DL.w_if, DL.w_vB, DL.w_toB, DL.w_truM, DL.w_tNot, DL.w_tAnd, DL.w_tOr, DL.w_nlM, DL.w_lcM, DL.w_lcF, DL.w_whenM, DL.w_slM, DL.w_slL, DL.w_somI, DL.w_asI, DL.w_appL, DL.w_asL, DL.w_setL, DL.w_un2, DL.w_un3, DL.w_un4, DL.w_ctlN, DL.w_ctlR, DL.w_bndP, DL.w_ex, DL.w_draw, DL.chkL_m, DL.chk4_m, DL.dL, DL.dI, DL.dG, DL.e_ret, DL.e_bnd, DL.e_ofO, DL.e_op1, DL.e_op2, DL.e_op3, DL.e_args0, DL.e_args, DL.e_tupM, DL.e_lstM, DL.e_appM, DL.e_bind, DL.e_map, DL.e_un2, DL.e_un3, DL.e_un4, DL.e_un5, DL.e_ite, DL.e_andT, DL.e_andF, DL.e_and, DL.e_orT, DL.e_orF, DL.e_or, DL.e_not, DL.e_toB, DL.e_tru, DL.isT_bl, DL.isT_lst, DL.isT_tup, DL.e_vB, DL.e_when, DL.e_some, DL.e_intM, DL.e_sumQ, DL.e_allQ, DL.e_anyQ, DL.e_lcM, DL.e_lcF, DL.e_lc2M, DL.e_in4M, DL.e_in4F, DL.e_nlM, DL.e_nlI, DL.e_nlB, DL.e_nlS, DL.e_nlN, DL.e_nlL, DL.e_nlT, DL.e_nlLL, DL.e_nlTT, DL.e_nlR, DL.e_nlE, DL.e_app, DL.e_set, DL.e_ext, DL.e_pop, DL.e_popAt, DL.e_bndP, DL.e_slL, DL.e_slM, DL.e_somI, DL.e_ctlN, DL.e_ctlR, DL.e_withK, DL.e_isNN, DL.e_isNI, DL.e_isNT, DL.e_isNB, DL.aug_int, DL.add_int, DL.sub_int, DL.neg_int, DL.int_int, DL.int_bl, DL.lt_int, DL.le_int, DL.gt_int, DL.ge_int, DL.max_int, DL.min_int, DL.items_lst, DL.items_tup, DL.tuple_lst, DL.tuple_tup, DL.list_lst, DL.list_tup, DL.rev_lst, DL.mod_int, DL.mul_int', DL.div_pos, DL.bEq_int, DL.bNe_int, DL.bEq_dI, DL.bNe_dI, DL.ix_lst, DL.ix_tup, DL.len_lst, DL.len_tup, DL.setO_int, DL.rng1_ok, DL.rng2_ok, DL.lr1_eq, DL.tr1_eq, DL.enumL, DL.enumT, DL.zipTT, DL.zipLL, DL.cat_map, DL.addT_map, DL.addL_map, DL.appO_map, DL.rep_int, DL.sum_int, DL.sumT_int, DL.in_lst, DL.in_tup, DL.slT_to, DL.slT_from, DL.slL_to, DL.slL_from, DL.slLL_to, DL.slLL_from, Int.toNat_natCast, if_true, if_false, decide_true, decide_false, Bool.not_true, Bool.not_false, Bool.false_eq_true, reduceIte, Int.reduceToNat]
  refine ⟨by omega, by omega, fun k h0 h1 => ?_⟩
  simp (maxSteps := 3000000) (disch := first | omega | (simp only [List.length_range, List.length_map, List.length_replicate, List.length_range', List.length_set, List.length_append, List.length_cons, List.length_nil, List.length_zip, List.length_take, List.length_drop, List.length_reverse]; omega)) only [DL.w_ret, DL.w_bnd, DL.w_ofO, DL.w_op1, DL.w_op2, DL.w_args0, DL.w_args, DL.w_tupM, DL.w_lstM, DL.w_appP, DL.w_appM, DL.w_ite, DL.w_if, DL.w_vB, DL.w_toB, DL.w_truM, DL.w_tNot, DL.w_tAnd, DL.w_tOr, DL.w_nlM, DL.w_lcM, DL.w_lcF, DL.w_whenM, DL.w_slM, DL.w_slL, DL.w_somI, DL.w_asI, DL.w_appL, DL.w_asL, DL.w_setL, DL.w_un2, DL.w_un3, DL.w_un4, DL.w_ctlN, DL.w_ctlR, DL.w_bndP, DL.w_ex, DL.w_draw, DL.chkL_m, DL.chk4_m, DL.dL, DL.dI, DL.dG, DL.e_ret, DL.e_bnd, DL.e_ofO, DL.e_op1, DL.e_op2, DL.e_op3, DL.e_args0, DL.e_args, DL.e_tupM, DL.e_lstM, DL.e_appM, DL.e_bind, DL.e_map, DL.e_un2, DL.e_un3, DL.e_un4, DL.e_un5, DL.e_ite, DL.e_andT, DL.e_andF, DL.e_and, DL.e_orT, DL.e_orF, DL.e_or, DL.e_not, DL.e_toB, DL.e_tru, DL.isT_bl, DL.isT_lst, DL.isT_tup, DL.e_vB, DL.e_when, DL.e_some, DL.e_intM, DL.e_sumQ, DL.e_allQ, DL.e_anyQ, DL.e_lcM, DL.e_lcF, DL.e_lc2M, DL.e_in4M, DL.e_in4F, DL.e_nlM, DL.e_nlI, DL.e_nlB, DL.e_nlS, DL.e_nlN, DL.e_nlL, DL.e_nlT, DL.e_nlLL, DL.e_nlTT, DL.e_nlR, DL.e_nlE, DL.e_app, DL.e_set, DL.e_ext, DL.e_pop, DL.e_popAt, DL.e_bndP, DL.e_slL, DL.e_slM, DL.e_somI, DL.e_ctlN, DL.e_ctlR, DL.e_withK, DL.e_isNN, DL.e_isNI, DL.e_isNT, DL.e_isNB, DL.aug_int, DL.add_int, DL.sub_int, DL.neg_int, DL.int_int, DL.int_bl, DL.lt_int, DL.le_int, DL.gt_int, DL.ge_int, DL.max_int, DL.min_int, DL.items_lst, DL.items_tup, DL.tuple_lst, DL.tuple_tup, DL.list_lst, DL.list_tup, DL.rev_lst, DL.mod_int, DL.mul_int', DL.div_pos, DL.bEq_int, DL.bNe_int, DL.bEq_dI, DL.bNe_dI, DL.ix_lst, DL.ix_tup, DL.len_lst, DL.len_tup, DL.setO_int, DL.rng1_ok, DL.rng2_ok, DL.lr1_eq, DL.tr1_eq, DL.enumL, DL.enumT, DL.zipTT, DL.zipLL, DL.cat_map, DL.addT_map, DL.addL_map, DL.appO_map, DL.rep_int, DL.sum_int, DL.sumT_int, DL.in_lst, DL.in_tup, DL.slT_to, DL.slT_from, DL.slL_to, DL.slL_from, DL.slLL_to, DL.slLL_from, Int.toNat_natCast, if_true, if_false, decide_true, decide_false, Bool.not_true, Bool.not_false, Bool.false_eq_true, reduceIte, Int.reduceToNat, rng1_ok]
  refine forS_inv (fun n s => ∃ l : List Int, s = dL l ∧ l.length ≤ n ∧ ∀ x ∈ l, 1 ≤ x ∧ x ≤ 3) ?_ (fun n d s hd hs => ?_) (fun s hs => ?_)
  · exact ⟨[], rfl, by simp, by simp⟩
  · obtain ⟨l, rfl, hl, hx⟩ := hs
    have hn := (List.getElem?_eq_some_iff.mp hd).1
    rw [List.length_map, List.length_range] at hn
    have hs := sum_int (l := l)
    simp (maxSteps := 3000000) (disch := first | omega | (simp only [List.length_range, List.length_map, List.length_replicate, List.length_range', List.length_set, List.length_append, List.length_cons, List.length_nil, List.length_zip, List.length_take, List.length_drop, List.length_reverse]; omega)) only [DL.w_ret, DL.w_bnd, DL.w_ofO, DL.w_op1, DL.w_op2, DL.w_args0, DL.w_args, DL.w_tupM, DL.w_lstM, DL.w_appP, DL.w_appM, DL.w_ite, DL.w_if, DL.w_vB, DL.w_toB, DL.w_truM, DL.w_tNot, DL.w_tAnd, DL.w_tOr, DL.w_nlM, DL.w_lcM, DL.w_lcF, DL.w_whenM, DL.w_slM, DL.w_slL, DL.w_somI, DL.w_asI, DL.w_appL, DL.w_asL, DL.w_setL, DL.w_un2, DL.w_un3, DL.w_un4, DL.w_ctlN, DL.w_ctlR, DL.w_bndP, DL.w_ex, DL.w_draw, DL.chkL_m, DL.chk4_m, DL.dL, DL.dI, DL.dG, DL.e_ret, DL.e_bnd, DL.e_ofO, DL.e_op1, DL.e_op2, DL.e_op3, DL.e_args0, DL.e_args, DL.e_tupM, DL.e_lstM, DL.e_appM, DL.e_bind, DL.e_map, DL.e_un2, DL.e_un3, DL.e_un4, DL.e_un5, DL.e_ite, DL.e_andT, DL.e_andF, DL.e_and, DL.e_orT, DL.e_orF, DL.e_or, DL.e_not, DL.e_toB, DL.e_tru, DL.isT_bl, DL.isT_lst, DL.isT_tup, DL.e_vB, DL.e_when, DL.e_some, DL.e_intM, DL.e_sumQ, DL.e_allQ, DL.e_anyQ, DL.e_lcM, DL.e_lcF, DL.e_lc2M, DL.e_in4M, DL.e_in4F, DL.e_nlM, DL.e_nlI, DL.e_nlB, DL.e_nlS, DL.e_nlN, DL.e_nlL, DL.e_nlT, DL.e_nlLL, DL.e_nlTT, DL.e_nlR, DL.e_nlE, DL.e_app, DL.e_set, DL.e_ext, DL.e_pop, DL.e_popAt, DL.e_bndP, DL.e_slL, DL.e_slM, DL.e_somI, DL.e_ctlN, DL.e_ctlR, DL.e_withK, DL.e_isNN, DL.e_isNI, DL.e_isNT, DL.e_isNB, DL.aug_int, DL.add_int, DL.sub_int, DL.neg_int, DL.int_int, DL.int_bl, DL.lt_int, DL.le_int, DL.gt_int, DL.ge_int, DL.max_int, DL.min_int, DL.items_lst, DL.items_tup, DL.tuple_lst, DL.tuple_tup, DL.list_lst, DL.list_tup, DL.rev_lst, DL.mod_int, DL.mul_int', DL.div_pos, DL.bEq_int, DL.bNe_int, DL.bEq_dI, DL.bNe_dI, DL.ix_lst, DL.ix_tup, DL.len_lst, DL.len_tup, DL.setO_int, DL.rng1_ok, DL.rng2_ok, DL.lr1_eq, DL.tr1_eq, DL.enumL, DL.enumT, DL.zipTT, DL.zipLL, DL.cat_map, DL.addT_map, DL.addL_map, DL.appO_map, DL.rep_int, DL.sum_int, DL.sumT_int, DL.in_lst, DL.in_tup, DL.slT_to, DL.slT_from, DL.slL_to, DL.slL_from, DL.slLL_to, DL.slLL_from, Int.toNat_natCast, if_true, if_false, decide_true, decide_false, Bool.not_true, Bool.not_false, Bool.false_eq_true, reduceIte, Int.reduceToNat, hs]
    refine ⟨by omega, by omega, fun q h2 h3 => ?_⟩
    split
    · refine ⟨l ++ [1 + q], rfl, by simp; omega, fun x hx' => ?_⟩
      rcases List.mem_append.mp hx' with hx' | hx'
      · exact hx x hx'
      · rw [List.mem_singleton.mp hx']; omega
    · exact ⟨l, rfl, by omega, hx⟩
  · obtain ⟨l, rfl, hl, hx⟩ := hs
    rw [List.length_map, List.length_range] at hl
    simp (maxSteps := 3000000) (disch := first | omega | (simp only [List.length_range, List.length_map, List.length_replicate, List.length_range', List.length_set, List.length_append, List.length_cons, List.length_nil, List.length_zip, List.length_take, List.length_drop, List.length_reverse]; omega)) only [DL.w_ret, DL.w_bnd, DL.w_ofO, DL.w_op1, DL.w_op2, DL.w_args0, DL.w_args, DL.w_tupM, DL.w_lstM, DL.w_appP, DL.w_appM, DL.w_ite, DL.w_if, DL.w_vB, DL.w_toB, DL.w_truM, DL.w_tNot, DL.w_tAnd, DL.w_tOr, DL.w_nlM, DL.w_lcM, DL.w_lcF, DL.w_whenM, DL.w_slM, DL.w_slL, DL.w_somI, DL.w_asI, DL.w_appL, DL.w_asL, DL.w_setL, DL.w_un2, DL.w_un3, DL.w_un4, DL.w_ctlN, DL.w_ctlR, DL.w_bndP, DL.w_ex, DL.w_draw, DL.chkL_m, DL.chk4_m, DL.dL, DL.dI, DL.dG, DL.e_ret, DL.e_bnd, DL.e_ofO, DL.e_op1, DL.e_op2, DL.e_op3, DL.e_args0, DL.e_args, DL.e_tupM, DL.e_lstM, DL.e_appM, DL.e_bind, DL.e_map, DL.e_un2, DL.e_un3, DL.e_un4, DL.e_un5, DL.e_ite, DL.e_andT, DL.e_andF, DL.e_and, DL.e_orT, DL.e_orF, DL.e_or, DL.e_not, DL.e_toB, DL.e_tru, DL.isT_bl, DL.isT_lst, DL.isT_tup, DL.e_vB, DL.e_when, DL.e_some, DL.e_intM, DL.e_sumQ, DL.e_allQ, DL.e_anyQ, DL.e_lcM, DL.e_lcF, DL.e_lc2M, DL.e_in4M, DL.e_in4F, DL.e_nlM, DL.e_nlI, DL.e_nlB, DL.e_nlS, DL.e_nlN, DL.e_nlL, DL.e_nlT, DL.e_nlLL, DL.e_nlTT, DL.e_nlR, DL.e_nlE, DL.e_app, DL.e_set, DL.e_ext, DL.e_pop, DL.e_popAt, DL.e_bndP, DL.e_slL, DL.e_slM, DL.e_somI, DL.e_ctlN, DL.e_ctlR, DL.e_withK, DL.e_isNN, DL.e_isNI, DL.e_isNT, DL.e_isNB, DL.aug_int, DL.add_int, DL.sub_int, DL.neg_int, DL.int_int, DL.int_bl, DL.lt_int, DL.le_int, DL.gt_int, DL.ge_int, DL.max_int, DL.min_int, DL.items_lst, DL.items_tup, DL.tuple_lst, DL.tuple_tup, DL.list_lst, DL.list_tup, DL.rev_lst, DL.mod_int, DL.mul_int', DL.div_pos, DL.bEq_int, DL.bNe_int, DL.bEq_dI, DL.bNe_dI, DL.ix_lst, DL.ix_tup, DL.len_lst, DL.len_tup, DL.setO_int, DL.rng1_ok, DL.rng2_ok, DL.lr1_eq, DL.tr1_eq, DL.enumL, DL.enumT, DL.zipTT, DL.zipLL, DL.cat_map, DL.addT_map, DL.addL_map, DL.appO_map, DL.rep_int, DL.sum_int, DL.sumT_int, DL.in_lst, DL.in_tup, DL.slT_to, DL.slT_from, DL.slL_to, DL.slL_from, DL.slLL_to, DL.slLL_from, Int.toNat_natCast, if_true, if_false, decide_true, decide_false, Bool.not_true, Bool.not_false, Bool.false_eq_true, reduceIte, Int.reduceToNat]
    exact h l (by omega) hx
theorem pick_p (row : List D) (Q : D → Prop) (h0 : row ≠ []) (h1 : row.length < 1000) (h : ∀ d ∈ row, Q d) : (H_law_pick [.src, .lst row]).p Q := by
  show (F_law_pick .src (.lst row)).p Q
  unfold F_law_pick
  have : 0 < row.length := List.length_pos_iff.mpr h0
  have el : oLen (.lst row) = some (.int (row.length : Nat)) := rfl
  simp (disch := first | omega | (simp only [List.length_range, List.length_map, List.length_replicate, List.length_range', List.length_set, List.length_append, List.length_cons, List.length_nil, List.length_zip, List.length_take, List.length_drop, List.length_reverse]; omega)) only [DL.w_ret, DL.w_bnd, DL.w_ofO, DL.w_op1, DL.w_op2, DL.w_args0, DL.w_args, DL.w_tupM, DL.w_lstM, DL.w_appP, DL.w_appM, DL.w_ite, DL.w_if, DL.w_vB, DL.w_toB, DL.w_truM, DL.w_tNot, DL.w_tAnd, DL.w_tOr, DL.w_nlM, DL.w_lcM, DL.w_lcF, DL.w_whenM, DL.w_slM, DL.w_slL, DL.w_somI, DL.w_asI, DL.w_appL, DL.w_asL, DL.w_setL, DL.w_un2, DL.w_un3, DL.w_un4, DL.w_ctlN, DL.w_ctlR, DL.w_bndP, DL.w_ex, DL.w_draw, DL.chkL_m, DL.chk4_m, DL.dL, DL.dI, DL.dG, DL.e_ret, DL.e_bnd, DL.e_ofO, DL.e_op1, DL.e_op2, DL.e_op3, DL.e_args0, DL.e_args, DL.e_tupM, DL.e_lstM, DL.e_appM, DL.e_bind, DL.e_map, DL.e_un2, DL.e_un3, DL.e_un4, DL.e_un5, DL.e_ite, DL.e_andT, DL.e_andF, DL.e_and, DL.e_orT, DL.e_orF, DL.e_or, DL.e_not, DL.e_toB, DL.e_tru, DL.isT_bl, DL.isT_lst, DL.isT_tup, DL.e_vB, DL.e_when, DL.e_some, DL.e_intM, DL.e_sumQ, DL.e_allQ, DL.e_anyQ, DL.e_lcM, DL.e_lcF, DL.e_lc2M, DL.e_in4M, DL.e_in4F, DL.e_nlM, DL.e_nlI, DL.e_nlB, DL.e_nlS, DL.e_nlN, DL.e_nlL, DL.e_nlT, DL.e_nlLL, DL.e_nlTT, DL.e_nlR, DL.e_nlE, DL.e_app, DL.e_set, DL.e_ext, DL.e_pop, DL.e_popAt, DL.e_bndP, DL.e_slL, DL.e_slM, DL.e_somI, DL.e_ctlN, DL.e_ctlR, DL.e_withK, DL.e_isNN, DL.e_isNI, DL.e_isNT, DL.e_isNB, DL.aug_int, DL.add_int, DL.sub_int, DL.neg_int, DL.int_int, DL.int_bl, DL.lt_int, DL.le_int, DL.gt_int, DL.ge_int, DL.max_int, DL.min_int, DL.items_lst, DL.items_tup, DL.tuple_lst, DL.tuple_tup, DL.list_lst, DL.list_tup, DL.rev_lst, DL.mod_int, DL.mul_int', DL.div_pos, DL.bEq_int, DL.bNe_int, DL.bEq_dI, DL.bNe_dI, DL.ix_lst, DL.ix_tup, DL.len_lst, DL.len_tup, DL.setO_int, DL.rng1_ok, DL.rng2_ok, DL.lr1_eq, DL.tr1_eq, DL.enumL, DL.enumT, DL.zipTT, DL.zipLL, DL.cat_map, DL.addT_map, DL.addL_map, DL.appO_map, DL.rep_int, DL.sum_int, DL.sumT_int, DL.in_lst, DL.in_tup, DL.slT_to, DL.slT_from, DL.slL_to, DL.slL_from, DL.slLL_to, DL.slLL_from, Int.toNat_natCast, if_true, if_false, decide_true, decide_false, Bool.not_true, Bool.not_false, Bool.false_eq_true, reduceIte, Int.reduceToNat, el]
  refine ⟨by omega, by omega, fun k hk hk2 => ?_⟩
  obtain ⟨d, hd, e⟩ := atI_mem hk hk2
  exact ⟨d, e, h d hd⟩
theorem mul1 {d : D} {n : Int} (h0 : 0 ≤ n) (h1 : n < 8) : oMul (.tup [d]) (.int (1 + n)) = some (.tup (List.replicate (1 + n).toNat [d]).flatten) := by
  unfold oMul
  dsimp only
  rw [if_pos ⟨by simp, by omega, by omega, by simp⟩]
theorem law_p : DL.P.p F_law fun d => d = .bl true := by
  unfold F_law
  simp (maxSteps := 3000000) (disch := first | omega | (simp only [List.length_range, List.length_map, List.length_replicate, List.length_range', List.length_set, List.length_append, List.length_cons, List.length_nil, List.length_zip, List.length_take, List.length_drop, List.length_reverse]; omega)) only [DL.w_ret, DL.w_bnd, DL.w_ofO, DL.w_op1, DL.w_op2, DL.w_args0, DL.w_args, DL.w_tupM, DL.w_lstM, DL.w_appP, DL.w_appM, DL.w_ite, DL.w_if, DL.w_vB, DL.w_toB, DL.w_truM, DL.w_tNot, DL.w_tAnd, DL.w_tOr, DL.w_nlM, DL.w_lcM, DL.w_lcF, DL.w_whenM, DL.w_slM, DL.w_slL, DL.w_somI, DL.w_asI, DL.w_appL, DL.w_asL, DL.w_setL, DL.w_un2, DL.w_un3, DL.w_un4, DL.w_ctlN, DL.w_ctlR, DL.w_bndP, DL.w_ex, DL.w_draw, DL.chkL_m, DL.chk4_m, DL.dL, DL.dI, DL.dG, DL.e_ret, DL.e_bnd, DL.e_ofO, DL.e_op1, DL.e_op2, DL.e_op3, DL.e_args0, DL.e_args, DL.e_tupM, DL.e_lstM, DL.e_appM, DL.e_bind, DL.e_map, DL.e_un2, DL.e_un3, DL.e_un4, DL.e_un5, DL.e_ite, DL.e_andT, DL.e_andF, DL.e_and, DL.e_orT, DL.e_orF, DL.e_or, DL.e_not, DL.e_toB, DL.e_tru, DL.isT_bl, DL.isT_lst, DL.isT_tup, DL.e_vB, DL.e_when, DL.e_some, DL.e_intM, DL.e_sumQ, DL.e_allQ, DL.e_anyQ, DL.e_lcM, DL.e_lcF, DL.e_lc2M, DL.e_in4M, DL.e_in4F, DL.e_nlM, DL.e_nlI, DL.e_nlB, DL.e_nlS, DL.e_nlN, DL.e_nlL, DL.e_nlT, DL.e_nlLL, DL.e_nlTT, DL.e_nlR, DL.e_nlE, DL.e_app, DL.e_set, DL.e_ext, DL.e_pop, DL.e_popAt, DL.e_bndP, DL.e_slL, DL.e_slM, DL.e_somI, DL.e_ctlN, DL.e_ctlR, DL.e_withK, DL.e_isNN, DL.e_isNI, DL.e_isNT, DL.e_isNB, DL.aug_int, DL.add_int, DL.sub_int, DL.neg_int, DL.int_int, DL.int_bl, DL.lt_int, DL.le_int, DL.gt_int, DL.ge_int, DL.max_int, DL.min_int, DL.items_lst, DL.items_tup, DL.tuple_lst, DL.tuple_tup, DL.list_lst, DL.list_tup, DL.rev_lst, DL.mod_int, DL.mul_int', DL.div_pos, DL.bEq_int, DL.bNe_int, DL.bEq_dI, DL.bNe_dI, DL.ix_lst, DL.ix_tup, DL.len_lst, DL.len_tup, DL.setO_int, DL.rng1_ok, DL.rng2_ok, DL.lr1_eq, DL.tr1_eq, DL.enumL, DL.enumT, DL.zipTT, DL.zipLL, DL.cat_map, DL.addT_map, DL.addL_map, DL.appO_map, DL.rep_int, DL.sum_int, DL.sumT_int, DL.in_lst, DL.in_tup, DL.slT_to, DL.slT_from, DL.slL_to, DL.slL_from, DL.slLL_to, DL.slLL_from, Int.toNat_natCast, if_true, if_false, decide_true, decide_false, Bool.not_true, Bool.not_false, Bool.false_eq_true, reduceIte, Int.reduceToNat]
  have pk1 : ∀ x : D, DL.pick ([] ++ [x]) [0] = [x] := fun _ => rfl
  have pk2 : ∀ x y : D, DL.pick ([] ++ [x, y]) [1, 0] = [y, x] := fun _ _ => rfl
  refine forC_all (fun _ => True) trivial (fun i hi _ _ => ?_) (fun _ _ => ?_)
  · simp (maxSteps := 3000000) (disch := first | omega | (simp only [List.length_range, List.length_map, List.length_replicate, List.length_range', List.length_set, List.length_append, List.length_cons, List.length_nil, List.length_zip, List.length_take, List.length_drop, List.length_reverse]; omega)) only [DL.w_ret, DL.w_bnd, DL.w_ofO, DL.w_op1, DL.w_op2, DL.w_args0, DL.w_args, DL.w_tupM, DL.w_lstM, DL.w_appP, DL.w_appM, DL.w_ite, DL.w_if, DL.w_vB, DL.w_toB, DL.w_truM, DL.w_tNot, DL.w_tAnd, DL.w_tOr, DL.w_nlM, DL.w_lcM, DL.w_lcF, DL.w_whenM, DL.w_slM, DL.w_slL, DL.w_somI, DL.w_asI, DL.w_appL, DL.w_asL, DL.w_setL, DL.w_un2, DL.w_un3, DL.w_un4, DL.w_ctlN, DL.w_ctlR, DL.w_bndP, DL.w_ex, DL.w_draw, DL.chkL_m, DL.chk4_m, DL.dL, DL.dI, DL.dG, DL.e_ret, DL.e_bnd, DL.e_ofO, DL.e_op1, DL.e_op2, DL.e_op3, DL.e_args0, DL.e_args, DL.e_tupM, DL.e_lstM, DL.e_appM, DL.e_bind, DL.e_map, DL.e_un2, DL.e_un3, DL.e_un4, DL.e_un5, DL.e_ite, DL.e_andT, DL.e_andF, DL.e_and, DL.e_orT, DL.e_orF, DL.e_or, DL.e_not, DL.e_toB, DL.e_tru, DL.isT_bl, DL.isT_lst, DL.isT_tup, DL.e_vB, DL.e_when, DL.e_some, DL.e_intM, DL.e_sumQ, DL.e_allQ, DL.e_anyQ, DL.e_lcM, DL.e_lcF, DL.e_lc2M, DL.e_in4M, DL.e_in4F, DL.e_nlM, DL.e_nlI, DL.e_nlB, DL.e_nlS, DL.e_nlN, DL.e_nlL, DL.e_nlT, DL.e_nlLL, DL.e_nlTT, DL.e_nlR, DL.e_nlE, DL.e_app, DL.e_set, DL.e_ext, DL.e_pop, DL.e_popAt, DL.e_bndP, DL.e_slL, DL.e_slM, DL.e_somI, DL.e_ctlN, DL.e_ctlR, DL.e_withK, DL.e_isNN, DL.e_isNI, DL.e_isNT, DL.e_isNB, DL.aug_int, DL.add_int, DL.sub_int, DL.neg_int, DL.int_int, DL.int_bl, DL.lt_int, DL.le_int, DL.gt_int, DL.ge_int, DL.max_int, DL.min_int, DL.items_lst, DL.items_tup, DL.tuple_lst, DL.tuple_tup, DL.list_lst, DL.list_tup, DL.rev_lst, DL.mod_int, DL.mul_int', DL.div_pos, DL.bEq_int, DL.bNe_int, DL.bEq_dI, DL.bNe_dI, DL.ix_lst, DL.ix_tup, DL.len_lst, DL.len_tup, DL.setO_int, DL.rng1_ok, DL.rng2_ok, DL.lr1_eq, DL.tr1_eq, DL.enumL, DL.enumT, DL.zipTT, DL.zipLL, DL.cat_map, DL.addT_map, DL.addL_map, DL.appO_map, DL.rep_int, DL.sum_int, DL.sumT_int, DL.in_lst, DL.in_tup, DL.slT_to, DL.slT_from, DL.slL_to, DL.slL_from, DL.slLL_to, DL.slLL_from, Int.toNat_natCast, if_true, if_false, decide_true, decide_false, Bool.not_true, Bool.not_false, Bool.false_eq_true, reduceIte, Int.reduceToNat]
    refine ⟨by omega, by omega, fun n h0 h1 => ?_⟩
    obtain ⟨x, y, e1, e2, e3⟩ := ring_ok h0 h1
    have hz : decide (0 < (i : Int)) = true ∨ decide (0 < (i : Int)) = false := by cases decide (0 < (i : Int)) <;> simp
    rcases hz with hz | hz
    all_goals
      simp (maxSteps := 3000000) (disch := first | omega | (simp only [List.length_range, List.length_map, List.length_replicate, List.length_range', List.length_set, List.length_append, List.length_cons, List.length_nil, List.length_zip, List.length_take, List.length_drop, List.length_reverse]; omega)) only [DL.w_ret, DL.w_bnd, DL.w_ofO, DL.w_op1, DL.w_op2, DL.w_args0, DL.w_args, DL.w_tupM, DL.w_lstM, DL.w_appP, DL.w_appM, DL.w_ite, DL.w_if, DL.w_vB, DL.w_toB, DL.w_truM, DL.w_tNot, DL.w_tAnd, DL.w_tOr, DL.w_nlM, DL.w_lcM, DL.w_lcF, DL.w_whenM, DL.w_slM, DL.w_slL, DL.w_somI, DL.w_asI, DL.w_appL, DL.w_asL, DL.w_setL, DL.w_un2, DL.w_un3, DL.w_un4, DL.w_ctlN, DL.w_ctlR, DL.w_bndP, DL.w_ex, DL.w_draw, DL.chkL_m, DL.chk4_m, DL.dL, DL.dI, DL.dG, DL.e_ret, DL.e_bnd, DL.e_ofO, DL.e_op1, DL.e_op2, DL.e_op3, DL.e_args0, DL.e_args, DL.e_tupM, DL.e_lstM, DL.e_appM, DL.e_bind, DL.e_map, DL.e_un2, DL.e_un3, DL.e_un4, DL.e_un5, DL.e_ite, DL.e_andT, DL.e_andF, DL.e_and, DL.e_orT, DL.e_orF, DL.e_or, DL.e_not, DL.e_toB, DL.e_tru, DL.isT_bl, DL.isT_lst, DL.isT_tup, DL.e_vB, DL.e_when, DL.e_some, DL.e_intM, DL.e_sumQ, DL.e_allQ, DL.e_anyQ, DL.e_lcM, DL.e_lcF, DL.e_lc2M, DL.e_in4M, DL.e_in4F, DL.e_nlM, DL.e_nlI, DL.e_nlB, DL.e_nlS, DL.e_nlN, DL.e_nlL, DL.e_nlT, DL.e_nlLL, DL.e_nlTT, DL.e_nlR, DL.e_nlE, DL.e_app, DL.e_set, DL.e_ext, DL.e_pop, DL.e_popAt, DL.e_bndP, DL.e_slL, DL.e_slM, DL.e_somI, DL.e_ctlN, DL.e_ctlR, DL.e_withK, DL.e_isNN, DL.e_isNI, DL.e_isNT, DL.e_isNB, DL.aug_int, DL.add_int, DL.sub_int, DL.neg_int, DL.int_int, DL.int_bl, DL.lt_int, DL.le_int, DL.gt_int, DL.ge_int, DL.max_int, DL.min_int, DL.items_lst, DL.items_tup, DL.tuple_lst, DL.tuple_tup, DL.list_lst, DL.list_tup, DL.rev_lst, DL.mod_int, DL.mul_int', DL.div_pos, DL.bEq_int, DL.bNe_int, DL.bEq_dI, DL.bNe_dI, DL.ix_lst, DL.ix_tup, DL.len_lst, DL.len_tup, DL.setO_int, DL.rng1_ok, DL.rng2_ok, DL.lr1_eq, DL.tr1_eq, DL.enumL, DL.enumT, DL.zipTT, DL.zipLL, DL.cat_map, DL.addT_map, DL.addL_map, DL.appO_map, DL.rep_int, DL.sum_int, DL.sumT_int, DL.in_lst, DL.in_tup, DL.slT_to, DL.slT_from, DL.slL_to, DL.slL_from, DL.slLL_to, DL.slLL_from, Int.toNat_natCast, if_true, if_false, decide_true, decide_false, Bool.not_true, Bool.not_false, Bool.false_eq_true, reduceIte, Int.reduceToNat, e1, e2, e3, pk1, hz]
      refine sizes_p fun l hl hx => ?_
      obtain ⟨bx, by_, b1, b2, b3⟩ := blk_ok hl hx
      simp (maxSteps := 3000000) (disch := first | omega | (simp only [List.length_range, List.length_map, List.length_replicate, List.length_range', List.length_set, List.length_append, List.length_cons, List.length_nil, List.length_zip, List.length_take, List.length_drop, List.length_reverse]; omega)) only [DL.w_ret, DL.w_bnd, DL.w_ofO, DL.w_op1, DL.w_op2, DL.w_args0, DL.w_args, DL.w_tupM, DL.w_lstM, DL.w_appP, DL.w_appM, DL.w_ite, DL.w_if, DL.w_vB, DL.w_toB, DL.w_truM, DL.w_tNot, DL.w_tAnd, DL.w_tOr, DL.w_nlM, DL.w_lcM, DL.w_lcF, DL.w_whenM, DL.w_slM, DL.w_slL, DL.w_somI, DL.w_asI, DL.w_appL, DL.w_asL, DL.w_setL, DL.w_un2, DL.w_un3, DL.w_un4, DL.w_ctlN, DL.w_ctlR, DL.w_bndP, DL.w_ex, DL.w_draw, DL.chkL_m, DL.chk4_m, DL.dL, DL.dI, DL.dG, DL.e_ret, DL.e_bnd, DL.e_ofO, DL.e_op1, DL.e_op2, DL.e_op3, DL.e_args0, DL.e_args, DL.e_tupM, DL.e_lstM, DL.e_appM, DL.e_bind, DL.e_map, DL.e_un2, DL.e_un3, DL.e_un4, DL.e_un5, DL.e_ite, DL.e_andT, DL.e_andF, DL.e_and, DL.e_orT, DL.e_orF, DL.e_or, DL.e_not, DL.e_toB, DL.e_tru, DL.isT_bl, DL.isT_lst, DL.isT_tup, DL.e_vB, DL.e_when, DL.e_some, DL.e_intM, DL.e_sumQ, DL.e_allQ, DL.e_anyQ, DL.e_lcM, DL.e_lcF, DL.e_lc2M, DL.e_in4M, DL.e_in4F, DL.e_nlM, DL.e_nlI, DL.e_nlB, DL.e_nlS, DL.e_nlN, DL.e_nlL, DL.e_nlT, DL.e_nlLL, DL.e_nlTT, DL.e_nlR, DL.e_nlE, DL.e_app, DL.e_set, DL.e_ext, DL.e_pop, DL.e_popAt, DL.e_bndP, DL.e_slL, DL.e_slM, DL.e_somI, DL.e_ctlN, DL.e_ctlR, DL.e_withK, DL.e_isNN, DL.e_isNI, DL.e_isNT, DL.e_isNB, DL.aug_int, DL.add_int, DL.sub_int, DL.neg_int, DL.int_int, DL.int_bl, DL.lt_int, DL.le_int, DL.gt_int, DL.ge_int, DL.max_int, DL.min_int, DL.items_lst, DL.items_tup, DL.tuple_lst, DL.tuple_tup, DL.list_lst, DL.list_tup, DL.rev_lst, DL.mod_int, DL.mul_int', DL.div_pos, DL.bEq_int, DL.bNe_int, DL.bEq_dI, DL.bNe_dI, DL.ix_lst, DL.ix_tup, DL.len_lst, DL.len_tup, DL.setO_int, DL.rng1_ok, DL.rng2_ok, DL.lr1_eq, DL.tr1_eq, DL.enumL, DL.enumT, DL.zipTT, DL.zipLL, DL.cat_map, DL.addT_map, DL.addL_map, DL.appO_map, DL.rep_int, DL.sum_int, DL.sumT_int, DL.in_lst, DL.in_tup, DL.slT_to, DL.slT_from, DL.slL_to, DL.slL_from, DL.slLL_to, DL.slLL_from, Int.toNat_natCast, if_true, if_false, decide_true, decide_false, Bool.not_true, Bool.not_false, Bool.false_eq_true, reduceIte, Int.reduceToNat, b1, b2, b3, pk1, hz]
      refine pick_p _ _ (by simp) (by simp) fun d hd => ?_
      have hd : ∃ i : Fin 6, d = .tup [.int (prs.getD i.val (0, 0)).1, .int (prs.getD i.val (0, 0)).2] := by
        simp only [List.mem_cons, List.not_mem_nil, or_false] at hd
        rcases hd with rfl | rfl | rfl | rfl | rfl | rfl
        · exact ⟨0, rfl⟩
        · exact ⟨1, rfl⟩
        · exact ⟨2, rfl⟩
        · exact ⟨3, rfl⟩
        · exact ⟨4, rfl⟩
        · exact ⟨5, rfl⟩
      obtain ⟨j, rfl⟩ := hd
      obtain ⟨wx, wy, w1, w2, w3⟩ := ck_ok (wrd_all j)
      obtain ⟨ux, uy, u1, u2, u3⟩ := umb_ok h0 h1
      unfold umb at u2
      have em := mul1 (d := .tup [.tup [.int 0, .int 1], .tup [.int 0, .int 1]]) h0 h1
      simp (maxSteps := 3000000) (disch := first | omega | (simp only [List.length_range, List.length_map, List.length_replicate, List.length_range', List.length_set, List.length_append, List.length_cons, List.length_nil, List.length_zip, List.length_take, List.length_drop, List.length_reverse]; omega)) only [DL.dL, DL.dI, DL.dG, DL.e_ret, DL.e_bnd, DL.e_ofO, DL.e_op1, DL.e_op2, DL.e_op3, DL.e_args0, DL.e_args, DL.e_tupM, DL.e_lstM, DL.e_appM, DL.e_bind, DL.e_map, DL.e_un2, DL.e_un3, DL.e_un4, DL.e_un5, DL.e_ite, DL.e_andT, DL.e_andF, DL.e_and, DL.e_orT, DL.e_orF, DL.e_or, DL.e_not, DL.e_toB, DL.e_tru, DL.isT_bl, DL.isT_lst, DL.isT_tup, DL.e_vB, DL.e_when, DL.e_some, DL.e_intM, DL.e_sumQ, DL.e_allQ, DL.e_anyQ, DL.e_lcM, DL.e_lcF, DL.e_lc2M, DL.e_in4M, DL.e_in4F, DL.e_nlM, DL.e_nlI, DL.e_nlB, DL.e_nlS, DL.e_nlN, DL.e_nlL, DL.e_nlT, DL.e_nlLL, DL.e_nlTT, DL.e_nlR, DL.e_nlE, DL.e_app, DL.e_set, DL.e_ext, DL.e_pop, DL.e_popAt, DL.e_bndP, DL.e_slL, DL.e_slM, DL.e_somI, DL.e_ctlN, DL.e_ctlR, DL.e_withK, DL.e_isNN, DL.e_isNI, DL.e_isNT, DL.e_isNB, DL.aug_int, DL.add_int, DL.sub_int, DL.neg_int, DL.int_int, DL.int_bl, DL.lt_int, DL.le_int, DL.gt_int, DL.ge_int, DL.max_int, DL.min_int, DL.items_lst, DL.items_tup, DL.tuple_lst, DL.tuple_tup, DL.list_lst, DL.list_tup, DL.rev_lst, DL.mod_int, DL.mul_int', DL.div_pos, DL.bEq_int, DL.bNe_int, DL.bEq_dI, DL.bNe_dI, DL.ix_lst, DL.ix_tup, DL.len_lst, DL.len_tup, DL.setO_int, DL.rng1_ok, DL.rng2_ok, DL.lr1_eq, DL.tr1_eq, DL.enumL, DL.enumT, DL.zipTT, DL.zipLL, DL.cat_map, DL.addT_map, DL.addL_map, DL.appO_map, DL.rep_int, DL.sum_int, DL.sumT_int, DL.in_lst, DL.in_tup, DL.slT_to, DL.slT_from, DL.slL_to, DL.slL_from, DL.slLL_to, DL.slLL_from, Int.toNat_natCast, if_true, if_false, decide_true, decide_false, Bool.not_true, Bool.not_false, Bool.false_eq_true, reduceIte, Int.reduceToNat, em] at u2
      obtain rfl := Option.some.inj u2
      simp (maxSteps := 3000000) (disch := first | omega | (simp only [List.length_range, List.length_map, List.length_replicate, List.length_range', List.length_set, List.length_append, List.length_cons, List.length_nil, List.length_zip, List.length_take, List.length_drop, List.length_reverse]; omega)) only [DL.w_ret, DL.w_bnd, DL.w_ofO, DL.w_op1, DL.w_op2, DL.w_args0, DL.w_args, DL.w_tupM, DL.w_lstM, DL.w_appP, DL.w_appM, DL.w_ite, DL.w_if, DL.w_vB, DL.w_toB, DL.w_truM, DL.w_tNot, DL.w_tAnd, DL.w_tOr, DL.w_nlM, DL.w_lcM, DL.w_lcF, DL.w_whenM, DL.w_slM, DL.w_slL, DL.w_somI, DL.w_asI, DL.w_appL, DL.w_asL, DL.w_setL, DL.w_un2, DL.w_un3, DL.w_un4, DL.w_ctlN, DL.w_ctlR, DL.w_bndP, DL.w_ex, DL.w_draw, DL.chkL_m, DL.chk4_m, DL.dL, DL.dI, DL.dG, DL.e_ret, DL.e_bnd, DL.e_ofO, DL.e_op1, DL.e_op2, DL.e_op3, DL.e_args0, DL.e_args, DL.e_tupM, DL.e_lstM, DL.e_appM, DL.e_bind, DL.e_map, DL.e_un2, DL.e_un3, DL.e_un4, DL.e_un5, DL.e_ite, DL.e_andT, DL.e_andF, DL.e_and, DL.e_orT, DL.e_orF, DL.e_or, DL.e_not, DL.e_toB, DL.e_tru, DL.isT_bl, DL.isT_lst, DL.isT_tup, DL.e_vB, DL.e_when, DL.e_some, DL.e_intM, DL.e_sumQ, DL.e_allQ, DL.e_anyQ, DL.e_lcM, DL.e_lcF, DL.e_lc2M, DL.e_in4M, DL.e_in4F, DL.e_nlM, DL.e_nlI, DL.e_nlB, DL.e_nlS, DL.e_nlN, DL.e_nlL, DL.e_nlT, DL.e_nlLL, DL.e_nlTT, DL.e_nlR, DL.e_nlE, DL.e_app, DL.e_set, DL.e_ext, DL.e_pop, DL.e_popAt, DL.e_bndP, DL.e_slL, DL.e_slM, DL.e_somI, DL.e_ctlN, DL.e_ctlR, DL.e_withK, DL.e_isNN, DL.e_isNI, DL.e_isNT, DL.e_isNB, DL.aug_int, DL.add_int, DL.sub_int, DL.neg_int, DL.int_int, DL.int_bl, DL.lt_int, DL.le_int, DL.gt_int, DL.ge_int, DL.max_int, DL.min_int, DL.items_lst, DL.items_tup, DL.tuple_lst, DL.tuple_tup, DL.list_lst, DL.list_tup, DL.rev_lst, DL.mod_int, DL.mul_int', DL.div_pos, DL.bEq_int, DL.bNe_int, DL.bEq_dI, DL.bNe_dI, DL.ix_lst, DL.ix_tup, DL.len_lst, DL.len_tup, DL.setO_int, DL.rng1_ok, DL.rng2_ok, DL.lr1_eq, DL.tr1_eq, DL.enumL, DL.enumT, DL.zipTT, DL.zipLL, DL.cat_map, DL.addT_map, DL.addL_map, DL.appO_map, DL.rep_int, DL.sum_int, DL.sumT_int, DL.in_lst, DL.in_tup, DL.slT_to, DL.slT_from, DL.slL_to, DL.slL_from, DL.slLL_to, DL.slLL_from, Int.toNat_natCast, if_true, if_false, decide_true, decide_false, Bool.not_true, Bool.not_false, Bool.false_eq_true, reduceIte, Int.reduceToNat, w1, w2, w3, u1, u3, em, pk1, pk2, hz]
      exact ⟨(), trivial, trivial⟩
  · simp (maxSteps := 3000000) (disch := first | omega | (simp only [List.length_range, List.length_map, List.length_replicate, List.length_range', List.length_set, List.length_append, List.length_cons, List.length_nil, List.length_zip, List.length_take, List.length_drop, List.length_reverse]; omega)) only [DL.w_ret, DL.w_bnd, DL.w_ofO, DL.w_op1, DL.w_op2, DL.w_args0, DL.w_args, DL.w_tupM, DL.w_lstM, DL.w_appP, DL.w_appM, DL.w_ite, DL.w_if, DL.w_vB, DL.w_toB, DL.w_truM, DL.w_tNot, DL.w_tAnd, DL.w_tOr, DL.w_nlM, DL.w_lcM, DL.w_lcF, DL.w_whenM, DL.w_slM, DL.w_slL, DL.w_somI, DL.w_asI, DL.w_appL, DL.w_asL, DL.w_setL, DL.w_un2, DL.w_un3, DL.w_un4, DL.w_ctlN, DL.w_ctlR, DL.w_bndP, DL.w_ex, DL.w_draw, DL.chkL_m, DL.chk4_m, DL.dL, DL.dI, DL.dG, DL.e_ret, DL.e_bnd, DL.e_ofO, DL.e_op1, DL.e_op2, DL.e_op3, DL.e_args0, DL.e_args, DL.e_tupM, DL.e_lstM, DL.e_appM, DL.e_bind, DL.e_map, DL.e_un2, DL.e_un3, DL.e_un4, DL.e_un5, DL.e_ite, DL.e_andT, DL.e_andF, DL.e_and, DL.e_orT, DL.e_orF, DL.e_or, DL.e_not, DL.e_toB, DL.e_tru, DL.isT_bl, DL.isT_lst, DL.isT_tup, DL.e_vB, DL.e_when, DL.e_some, DL.e_intM, DL.e_sumQ, DL.e_allQ, DL.e_anyQ, DL.e_lcM, DL.e_lcF, DL.e_lc2M, DL.e_in4M, DL.e_in4F, DL.e_nlM, DL.e_nlI, DL.e_nlB, DL.e_nlS, DL.e_nlN, DL.e_nlL, DL.e_nlT, DL.e_nlLL, DL.e_nlTT, DL.e_nlR, DL.e_nlE, DL.e_app, DL.e_set, DL.e_ext, DL.e_pop, DL.e_popAt, DL.e_bndP, DL.e_slL, DL.e_slM, DL.e_somI, DL.e_ctlN, DL.e_ctlR, DL.e_withK, DL.e_isNN, DL.e_isNI, DL.e_isNT, DL.e_isNB, DL.aug_int, DL.add_int, DL.sub_int, DL.neg_int, DL.int_int, DL.int_bl, DL.lt_int, DL.le_int, DL.gt_int, DL.ge_int, DL.max_int, DL.min_int, DL.items_lst, DL.items_tup, DL.tuple_lst, DL.tuple_tup, DL.list_lst, DL.list_tup, DL.rev_lst, DL.mod_int, DL.mul_int', DL.div_pos, DL.bEq_int, DL.bNe_int, DL.bEq_dI, DL.bNe_dI, DL.ix_lst, DL.ix_tup, DL.len_lst, DL.len_tup, DL.setO_int, DL.rng1_ok, DL.rng2_ok, DL.lr1_eq, DL.tr1_eq, DL.enumL, DL.enumT, DL.zipTT, DL.zipLL, DL.cat_map, DL.addT_map, DL.addL_map, DL.appO_map, DL.rep_int, DL.sum_int, DL.sumT_int, DL.in_lst, DL.in_tup, DL.slT_to, DL.slT_from, DL.slL_to, DL.slL_from, DL.slLL_to, DL.slLL_from, Int.toNat_natCast, if_true, if_false, decide_true, decide_false, Bool.not_true, Bool.not_false, Bool.false_eq_true, reduceIte, Int.reduceToNat]
    obtain ⟨x, y, e1, e2, e3⟩ := ck_ok three_ok
    obtain rfl := Option.some.inj e2
    obtain ⟨bx, by_, b1, b2, b3⟩ := ck_ok last_ok
    simp (maxSteps := 3000000) (disch := first | omega | (simp only [List.length_range, List.length_map, List.length_replicate, List.length_range', List.length_set, List.length_append, List.length_cons, List.length_nil, List.length_zip, List.length_take, List.length_drop, List.length_reverse]; omega)) only [DL.w_ret, DL.w_bnd, DL.w_ofO, DL.w_op1, DL.w_op2, DL.w_args0, DL.w_args, DL.w_tupM, DL.w_lstM, DL.w_appP, DL.w_appM, DL.w_ite, DL.w_if, DL.w_vB, DL.w_toB, DL.w_truM, DL.w_tNot, DL.w_tAnd, DL.w_tOr, DL.w_nlM, DL.w_lcM, DL.w_lcF, DL.w_whenM, DL.w_slM, DL.w_slL, DL.w_somI, DL.w_asI, DL.w_appL, DL.w_asL, DL.w_setL, DL.w_un2, DL.w_un3, DL.w_un4, DL.w_ctlN, DL.w_ctlR, DL.w_bndP, DL.w_ex, DL.w_draw, DL.chkL_m, DL.chk4_m, DL.dL, DL.dI, DL.dG, DL.e_ret, DL.e_bnd, DL.e_ofO, DL.e_op1, DL.e_op2, DL.e_op3, DL.e_args0, DL.e_args, DL.e_tupM, DL.e_lstM, DL.e_appM, DL.e_bind, DL.e_map, DL.e_un2, DL.e_un3, DL.e_un4, DL.e_un5, DL.e_ite, DL.e_andT, DL.e_andF, DL.e_and, DL.e_orT, DL.e_orF, DL.e_or, DL.e_not, DL.e_toB, DL.e_tru, DL.isT_bl, DL.isT_lst, DL.isT_tup, DL.e_vB, DL.e_when, DL.e_some, DL.e_intM, DL.e_sumQ, DL.e_allQ, DL.e_anyQ, DL.e_lcM, DL.e_lcF, DL.e_lc2M, DL.e_in4M, DL.e_in4F, DL.e_nlM, DL.e_nlI, DL.e_nlB, DL.e_nlS, DL.e_nlN, DL.e_nlL, DL.e_nlT, DL.e_nlLL, DL.e_nlTT, DL.e_nlR, DL.e_nlE, DL.e_app, DL.e_set, DL.e_ext, DL.e_pop, DL.e_popAt, DL.e_bndP, DL.e_slL, DL.e_slM, DL.e_somI, DL.e_ctlN, DL.e_ctlR, DL.e_withK, DL.e_isNN, DL.e_isNI, DL.e_isNT, DL.e_isNB, DL.aug_int, DL.add_int, DL.sub_int, DL.neg_int, DL.int_int, DL.int_bl, DL.lt_int, DL.le_int, DL.gt_int, DL.ge_int, DL.max_int, DL.min_int, DL.items_lst, DL.items_tup, DL.tuple_lst, DL.tuple_tup, DL.list_lst, DL.list_tup, DL.rev_lst, DL.mod_int, DL.mul_int', DL.div_pos, DL.bEq_int, DL.bNe_int, DL.bEq_dI, DL.bNe_dI, DL.ix_lst, DL.ix_tup, DL.len_lst, DL.len_tup, DL.setO_int, DL.rng1_ok, DL.rng2_ok, DL.lr1_eq, DL.tr1_eq, DL.enumL, DL.enumT, DL.zipTT, DL.zipLL, DL.cat_map, DL.addT_map, DL.addL_map, DL.appO_map, DL.rep_int, DL.sum_int, DL.sumT_int, DL.in_lst, DL.in_tup, DL.slT_to, DL.slT_from, DL.slL_to, DL.slL_from, DL.slLL_to, DL.slLL_from, Int.toNat_natCast, if_true, if_false, decide_true, decide_false, Bool.not_true, Bool.not_false, Bool.false_eq_true, reduceIte, Int.reduceToNat, e1, e3, b1, b2, b3]
    exact ⟨true, rfl, ⟨true, rfl, rfl⟩⟩
end My

namespace My
open PySem PySem.Spec PyProof.Rows L2 DL
def Inv : List SC → Prop := fun c => ∃ (gs : List Int) (a b m : Int), c = [.il gs, .int a, .int b, .int m]
theorem pure_draw (c : List SC) (m : Int) (hI : Inv c) (h0 : 0 < m) (h1 : m.natAbs.log2 < 9000) : u_law_draw { nx := fun _ _ => False, rt := fun x c' => Inv c' ∧ ∃ k : Int, x = .int k ∧ 0 ≤ k ∧ k < m } ([some .self, some (.int m)] ++ List.replicate (N_law_draw.length - 2) none) c := by
  obtain ⟨gs, a, b, k, rfl⟩ := hI
  have w : ∀ z : Int, 0 ≤ z % m ∧ z % m < m := fun z => ⟨Int.emod_nonneg z (by omega), Int.emod_lt_of_pos z h0⟩
  have d64 : ∀ z, CDivW z 64 := fun z => ⟨by decide, by decide⟩
  have d2 : ∀ z, CDivW z 2 := fun z => ⟨by decide, by decide⟩
  have dm : ∀ z, CDivW z m := fun z => ⟨h0, h1⟩
  have cm : ∀ z, CMul z 48271 := fun z => cmul_r z _ (by decide) (by decide)
  have c1 : ∀ z, CMul z 69621 := fun z => cmul_r z _ (by decide) (by decide)
  have hInv : ∀ gs a b m, Inv [.il gs, .int a, .int b, .int m] := fun gs a b m => ⟨gs, a, b, m, rfl⟩
  cases gs with
  | nil => simp [u_law_draw, ixN, w, d64, d2, dm, cm, c1, hInv, h0]
  | cons g gs => simp [u_law_draw, ixN, w, d64, d2, dm, cm, c1, hInv, h0]
end My

namespace My
open PySem PySem.Spec PyProof.Rows L2 DL
-- LEVEL 7 CORE _law_draw,_law_sizes,_law_so,_law_ring,ring_table,_law_blocks,block_table,_law_pick,_law_words,all_words,full_look,umbrella,three_looks,law
theorem facts_core {P : Program} {w : World} {K : PySem.W.Frag} {mg : Str → Option Value} {base : Heap} {TT : Addr → Prop} (b : Bi mg)
    {f_law_draw f_law_sizes f_law_so f_law_ring f_ring_table f_law_blocks f_block_table f_law_pick f_law_words f_all_words f_full_look f_umbrella f_three_looks f_law : Addr} {fd_law_draw fd_law_sizes fd_law_so fd_law_ring fd_ring_table fd_law_blocks fd_block_table fd_law_pick fd_law_words fd_all_words fd_full_look fd_umbrella fd_three_looks fd_law : FuncData}
    (F_law_draw : FunD K "_law_draw" "_law_draw" (defArgs s_law_draw) (defBody s_law_draw) (defScope s_law_draw) [] [] f_law_draw fd_law_draw) (m_law_draw : mg "_law_draw" = some (.ref f_law_draw))
    (F_law_sizes : FunD K "_law_sizes" "_law_sizes" (defArgs s_law_sizes) (defBody s_law_sizes) (defScope s_law_sizes) [] [] f_law_sizes fd_law_sizes) (m_law_sizes : mg "_law_sizes" = some (.ref f_law_sizes))
    (F_law_so : FunD K "_law_so" "_law_so" (defArgs s_law_so) (defBody s_law_so) (defScope s_law_so) [] [] f_law_so fd_law_so) (m_law_so : mg "_law_so" = some (.ref f_law_so))
    (F_law_ring : FunD K "_law_ring" "_law_ring" (defArgs s_law_ring) (defBody s_law_ring) (defScope s_law_ring) [] [] f_law_ring fd_law_ring) (m_law_ring : mg "_law_ring" = some (.ref f_law_ring))
    (F_ring_table : FunD K "ring_table" "ring_table" (defArgs s_ring_table) (defBody s_ring_table) (defScope s_ring_table) [] [] f_ring_table fd_ring_table) (m_ring_table : mg "ring_table" = some (.ref f_ring_table))
    (F_law_blocks : FunD K "_law_blocks" "_law_blocks" (defArgs s_law_blocks) (defBody s_law_blocks) (defScope s_law_blocks) [] [] f_law_blocks fd_law_blocks) (m_law_blocks : mg "_law_blocks" = some (.ref f_law_blocks))
    (F_block_table : FunD K "block_table" "block_table" (defArgs s_block_table) (defBody s_block_table) (defScope s_block_table) [] [] f_block_table fd_block_table) (m_block_table : mg "block_table" = some (.ref f_block_table))
    (F_law_pick : FunD K "_law_pick" "_law_pick" (defArgs s_law_pick) (defBody s_law_pick) (defScope s_law_pick) [] [] f_law_pick fd_law_pick) (m_law_pick : mg "_law_pick" = some (.ref f_law_pick))
    (F_law_words : FunD K "_law_words" "_law_words" (defArgs s_law_words) (defBody s_law_words) (defScope s_law_words) [] [] f_law_words fd_law_words) (m_law_words : mg "_law_words" = some (.ref f_law_words))
    (F_all_words : FunD K "all_words" "all_words" (defArgs s_all_words) (defBody s_all_words) (defScope s_all_words) [] [] f_all_words fd_all_words) (m_all_words : mg "all_words" = some (.ref f_all_words))
    (F_full_look : FunD K "full_look" "full_look" (defArgs s_full_look) (defBody s_full_look) (defScope s_full_look) [] [] f_full_look fd_full_look) (m_full_look : mg "full_look" = some (.ref f_full_look))
    (F_umbrella : FunD K "umbrella" "umbrella" (defArgs s_umbrella) (defBody s_umbrella) (defScope s_umbrella) [] [] f_umbrella fd_umbrella) (m_umbrella : mg "umbrella" = some (.ref f_umbrella))
    (F_three_looks : FunD K "three_looks" "three_looks" (defArgs s_three_looks) (defBody s_three_looks) (defScope s_three_looks) [] [] f_three_looks fd_three_looks) (m_three_looks : mg "three_looks" = some (.ref f_three_looks))
    (F_law : FunD K "law" "law" (defArgs s_law) (defBody s_law) (defScope s_law) [] [] f_law fd_law)
    (t_full_look : ∃ c T, fd_full_look.code = .ref c ∧ GxR.TabB base mg c T ∧ TT T)
    : FnOk P w K mg base CX0 7 f_law fd_law ["script"] (LawSp 63 K TT) := by
  have c_law_draw : Cal P w K mg base (srcOf True Inv TT) s_law_draw "_law_draw" 1 P_law_draw Draw := draw_of F_law_draw m_law_draw sc_law_draw rfl (js_law_draw trivial b · · · · · · _ ·) pure_draw
  have c_hdraw : Cal P w K mg base (srcOf True Inv TT) s_law_draw "_law_draw" 1 P_law_draw (cH HDraw false) := c_law_draw.imp hdraw
  have c_law_sizes : Cal P w K mg base (srcOf True Inv TT) s_law_sizes "_law_sizes" 2 P_law_sizes (cH H_law_sizes false) := cal_of F_law_sizes m_law_sizes sc_law_sizes (js_law_sizes (k := 1) b (c_hdraw.mono (by decide)) · · · · · · _ ·) len_law_sizes imp_law_sizes
  have c_law_so_0 : Cal P w K mg base (srcOf True Inv TT) s_law_so "_law_so" 1 P_law_so (cF (A_law_so 0) false) := cal_false F_law_so m_law_so sc_law_so fun _ _ ⟨_, h, _⟩ => by cases h
  have c_law_so_1 : Cal P w K mg base (srcOf True Inv TT) s_law_so "_law_so" 2 P_law_so (cF (A_law_so 1) false) := cal_of F_law_so m_law_so sc_law_so (js_law_so (k := 1) b (c_law_so_0.mono (by decide)) · · · · · · _ ·) (len_law_so _) (imp_law_so _)
  have c_law_so_2 : Cal P w K mg base (srcOf True Inv TT) s_law_so "_law_so" 3 P_law_so (cF (A_law_so 2) false) := cal_of F_law_so m_law_so sc_law_so (js_law_so (k := 2) b (c_law_so_1.mono (by decide)) · · · · · · _ ·) (len_law_so _) (imp_law_so _)
  have c_law_so_3 : Cal P w K mg base (srcOf True Inv TT) s_law_so "_law_so" 4 P_law_so (cF (A_law_so 3) false) := cal_of F_law_so m_law_so sc_law_so (js_law_so (k := 3) b (c_law_so_2.mono (by decide)) · · · · · · _ ·) (len_law_so _) (imp_law_so _)
  have c_law_so_4 : Cal P w K mg base (srcOf True Inv TT) s_law_so "_law_so" 5 P_law_so (cF (A_law_so 4) false) := cal_of F_law_so m_law_so sc_law_so (js_law_so (k := 4) b (c_law_so_3.mono (by decide)) · · · · · · _ ·) (len_law_so _) (imp_law_so _)
  have c_law_so_5 : Cal P w K mg base (srcOf True Inv TT) s_law_so "_law_so" 6 P_law_so (cF (A_law_so 5) false) := cal_of F_law_so m_law_so sc_law_so (js_law_so (k := 5) b (c_law_so_4.mono (by decide)) · · · · · · _ ·) (len_law_so _) (imp_law_so _)
  have c_law_ring : Cal P w K mg base (srcOf True Inv TT) s_law_ring "_law_ring" 1 P_law_ring (cF A_law_ring false) := cal_of F_law_ring m_law_ring sc_law_ring (js_law_ring (k := 0) b  · · · · · · _ ·) len_law_ring imp_law_ring
  have c_ring_table : Cal P w K mg base (srcOf True Inv TT) s_ring_table "ring_table" 1 P_ring_table (cF A_ring_table false) := cal_of F_ring_table m_ring_table sc_ring_table (js_ring_table (k := 0) b  · · · · · · _ ·) len_ring_table imp_ring_table
  have c_law_blocks : Cal P w K mg base (srcOf True Inv TT) s_law_blocks "_law_blocks" 1 P_law_blocks (cF A_law_blocks false) := cal_of F_law_blocks m_law_blocks sc_law_blocks (js_law_blocks (k := 0) b  · · · · · · _ ·) len_law_blocks imp_law_blocks
  have c_block_table : Cal P w K mg base (srcOf True Inv TT) s_block_table "block_table" 1 P_block_table (cF A_block_table false) := cal_of F_block_table m_block_table sc_block_table (js_block_table (k := 0) b  · · · · · · _ ·) len_block_table imp_block_table
  have c_law_pick : Cal P w K mg base (srcOf True Inv TT) s_law_pick "_law_pick" 2 P_law_pick (cH H_law_pick false) := cal_of F_law_pick m_law_pick sc_law_pick (js_law_pick (k := 1) b (c_hdraw.mono (by decide)) · · · · · · _ ·) len_law_pick imp_law_pick
  have c_law_words : Cal P w K mg base (srcOf True Inv TT) s_law_words "_law_words" 1 P_law_words (cF A_law_words false) := cal_of F_law_words m_law_words sc_law_words (js_law_words (k := 0) b  · · · · · · _ ·) len_law_words imp_law_words
  have c_all_words : Cal P w K mg base (srcOf True Inv TT) s_all_words "all_words" 1 P_all_words (cF A_all_words false) := cal_of F_all_words m_all_words sc_all_words (js_all_words (k := 0) b  · · · · · · _ ·) len_all_words imp_all_words
  have c_full_look : Cal P w K mg base (srcOf True Inv TT) s_full_look "full_look" 5 P_full_look (cF A_full_look false) := cal_ofC F_full_look m_full_look sc_full_look t_full_look (js_full_look (k := 0) b  · · · · · · _ · ·) len_full_look imp_full_look
  have c_umbrella : Cal P w K mg base (srcOf True Inv TT) s_umbrella "umbrella" 6 P_umbrella (cF A_umbrella false) := cal_of F_umbrella m_umbrella sc_umbrella (js_umbrella (k := 5) b (c_full_look.mono (by decide)) · · · · · · _ ·) len_umbrella imp_umbrella
  have c_three_looks : Cal P w K mg base (srcOf True Inv TT) s_three_looks "three_looks" 1 P_three_looks (cF A_three_looks false) := cal_of F_three_looks m_three_looks sc_three_looks (js_three_looks (k := 0) b  · · · · · · _ ·) len_three_looks imp_three_looks
  refine law_ok (J := True) (Inv := Inv) (n := 63) F_law sc_law rfl hs_law (js_law (k := 6) b (c_hdraw.mono (by decide)) (c_law_sizes.mono (by decide)) (c_law_so_5.mono (by decide)) (c_law_ring.mono (by decide)) (c_ring_table.mono (by decide)) (c_law_blocks.mono (by decide)) (c_block_table.mono (by decide)) (c_law_pick.mono (by decide)) (c_law_words.mono (by decide)) (c_all_words.mono (by decide)) (c_umbrella.mono (by decide)) (c_three_looks.mono (by decide)) · · · · · · _ ·) (fun a ns hn => ?_) (by decide)
  simp -dsimp [ue_law]
  refine ⟨by decide, [.il ns, .int 0, .int 0, .int (1 + ns.length)], rfl, ⟨ns, 0, 0, _, rfl⟩, fun i j l h1 h2 => ?_, si_law (fun t d => t = false ∧ d = .bl true) (DL.P.mono _ (fun d h => ⟨rfl, h⟩) law_p)⟩
  have e : ∀ i l, ([.il ns, .int 0, .int 0, .int (1 + ns.length)] : List SC)[i]? = some (SC.il l) → i = 0 := fun i l h => by
    match i, h with
    | 0, _ => rfl
    | 1, h => cases h
    | 2, h => cases h
    | 3, h => cases h
    | i + 4, h => cases h
  rw [e i l h1, e j l h2]
end My

namespace My
open PySem PySem.Spec PyProof.Rows L2 DL
def d_full_look : He.DefD := ⟨("full_look", none), "full_look", "full_look", defArgs s_full_look, defBody s_full_look, defScope s_full_look, [], []⟩
def d_ring_table : He.DefD := ⟨("ring_table", none), "ring_table", "ring_table", defArgs s_ring_table, defBody s_ring_table, defScope s_ring_table, [], []⟩
def d_block_table : He.DefD := ⟨("block_table", none), "block_table", "block_table", defArgs s_block_table, defBody s_block_table, defScope s_block_table, [], []⟩
def d_all_words : He.DefD := ⟨("all_words", none), "all_words", "all_words", defArgs s_all_words, defBody s_all_words, defScope s_all_words, [], []⟩
def d_three_looks : He.DefD := ⟨("three_looks", none), "three_looks", "three_looks", defArgs s_three_looks, defBody s_three_looks, defScope s_three_looks, [], []⟩
def d_umbrella : He.DefD := ⟨("umbrella", none), "umbrella", "umbrella", defArgs s_umbrella, defBody s_umbrella, defScope s_umbrella, [], []⟩
def d_law_draw : He.DefD := ⟨("_law_draw", none), "_law_draw", "_law_draw", defArgs s_law_draw, defBody s_law_draw, defScope s_law_draw, [], []⟩
def d_law_pick : He.DefD := ⟨("_law_pick", none), "_law_pick", "_law_pick", defArgs s_law_pick, defBody s_law_pick, defScope s_law_pick, [], []⟩
def d_law_so : He.DefD := ⟨("_law_so", none), "_law_so", "_law_so", defArgs s_law_so, defBody s_law_so, defScope s_law_so, [], []⟩
def d_law_ring : He.DefD := ⟨("_law_ring", none), "_law_ring", "_law_ring", defArgs s_law_ring, defBody s_law_ring, defScope s_law_ring, [], []⟩
def d_law_blocks : He.DefD := ⟨("_law_blocks", none), "_law_blocks", "_law_blocks", defArgs s_law_blocks, defBody s_law_blocks, defScope s_law_blocks, [], []⟩
def d_law_words : He.DefD := ⟨("_law_words", none), "_law_words", "_law_words", defArgs s_law_words, defBody s_law_words, defScope s_law_words, [], []⟩
def d_law_sizes : He.DefD := ⟨("_law_sizes", none), "_law_sizes", "_law_sizes", defArgs s_law_sizes, defBody s_law_sizes, defScope s_law_sizes, [], []⟩
def d_law : He.DefD := ⟨("law", none), "law", "law", defArgs s_law, defBody s_law, defScope s_law, [], []⟩
def fn : List He.DefD := [d_full_look, d_ring_table, d_block_table, d_all_words, d_three_looks, d_umbrella, d_law_draw, d_law_pick, d_law_so, d_law_ring, d_law_blocks, d_law_words, d_law_sizes, d_law]
def fa : List He.Fa := [.glo "full_look", .glo "ring_table", .glo "block_table", .glo "all_words", .glo "three_looks", .glo "umbrella", .glo "_law_draw", .glo "_law_pick", .glo "_law_so", .glo "_law_ring", .glo "_law_blocks", .glo "_law_words", .glo "_law_sizes", .glo "law", .free "abs", .free "bool", .free "enumerate", .free "int", .free "isinstance", .free "len", .free "list", .free "range", .free "str", .free "sum", .free "tuple"]
def tf : List He.Defn := [("full_look", none)]
abbrev R0 : PySem.W.OpenRow := PySem.W.OpenLaw.row PySem.Challenge.rw_whoseitis_k74_made_tables_and_words
abbrev hk : PySem.W.Hook := He.hookX 4 fa fn [] tf (fun _ => true)
def ob (s : PySem.W.SharedT) : He.AlX := He.obsX 4 fa fn [] tf (fun _ => true) (HandSHeadRun.getT s)
theorem ob_eq (s : PySem.W.SharedT) : ob s = hk.obs s.abs := He.obsX_eq (HandSHeadRun.getT_eq s)
def TT (K : PySem.W.Frag) : Addr → Prop := fun T => ∃ p ∈ tf.map (He.cT K), p.2 = T
def loose : List Str := ["full_look", "ring_table", "block_table", "all_words", "three_looks", "umbrella", "_law_draw", "_law_pick", "_law_so", "_law_ring", "_law_blocks", "_law_words", "_law_sizes"]
theorem run (w : World) : HandSHeadRun.RunEq R0 (PySem.W.view R0.prog [16]) hk ob 2000 loose w := by
  intro os
  kernel_rfl
theorem facts {P : Program} {w : World} {K : PySem.W.Frag} {h : Heap} {mg : Str → Option Value} {f : Addr} (X : K.In h) (G : h.Ns mainGlobals mg) (hfa : mg ("law" : Str) = some (.ref f)) (c : He.SaysD fa fn K) :
    ∃ fd : FuncData, (∀ (s : Shared) (v : Value), BindsTo s fd ⟨[v], []⟩ [("script", v)]) ∧ ∀ base : Heap, K.In base → base.Ns mainGlobals mg → (∀ p ∈ tf.map (He.cT K), LamX.TabB base mg p.1 p.2) → FnOk P w K mg base CX0 7 f fd ["script"] (LawSp 63 K (TT K)) := by
  have b : Bi mg := ⟨He.free_ok X G (c.fact 14 (f := .free "abs") rfl), He.free_ok X G (c.fact 15 (f := .free "bool") rfl), He.free_ok X G (c.fact 16 (f := .free "enumerate") rfl), He.free_ok X G (c.fact 17 (f := .free "int") rfl), He.free_ok X G (c.fact 18 (f := .free "isinstance") rfl), He.free_ok X G (c.fact 19 (f := .free "len") rfl), He.free_ok X G (c.fact 20 (f := .free "list") rfl), He.free_ok X G (c.fact 21 (f := .free "range") rfl), He.free_ok X G (c.fact 22 (f := .free "str") rfl), He.free_ok X G (c.fact 23 (f := .free "sum") rfl), He.free_ok X G (c.fact 24 (f := .free "tuple") rfl)⟩
  obtain ⟨fd_law_draw, F_law_draw⟩ := c.def_ 6 (d := d_law_draw) rfl
  obtain ⟨fd_law_sizes, F_law_sizes⟩ := c.def_ 12 (d := d_law_sizes) rfl
  obtain ⟨fd_law_so, F_law_so⟩ := c.def_ 8 (d := d_law_so) rfl
  obtain ⟨fd_law_ring, F_law_ring⟩ := c.def_ 9 (d := d_law_ring) rfl
  obtain ⟨fd_ring_table, F_ring_table⟩ := c.def_ 1 (d := d_ring_table) rfl
  obtain ⟨fd_law_blocks, F_law_blocks⟩ := c.def_ 10 (d := d_law_blocks) rfl
  obtain ⟨fd_block_table, F_block_table⟩ := c.def_ 2 (d := d_block_table) rfl
  obtain ⟨fd_law_pick, F_law_pick⟩ := c.def_ 7 (d := d_law_pick) rfl
  obtain ⟨fd_law_words, F_law_words⟩ := c.def_ 11 (d := d_law_words) rfl
  obtain ⟨fd_all_words, F_all_words⟩ := c.def_ 3 (d := d_all_words) rfl
  obtain ⟨fd_full_look, F_full_look⟩ := c.def_ 0 (d := d_full_look) rfl
  obtain ⟨fd_umbrella, F_umbrella⟩ := c.def_ 5 (d := d_umbrella) rfl
  obtain ⟨fd_three_looks, F_three_looks⟩ := c.def_ 4 (d := d_three_looks) rfl
  obtain ⟨fd_law, F_law⟩ := c.def_ 13 (d := d_law) rfl
  have e := hfa.symm.trans (He.glo_ok X G (c.fact 13 (f := .glo "law") rfl))
  cases e
  have bb := FunD.bindsA (ps := ["script"]) F_law fun _ _ _ _ _ _ us hl => match us, hl with | [_], _ => rfl
  refine ⟨fd_law, fun s v => bb s [v] rfl, fun base _ _ hT => ?_⟩
  have mem_full_look : He.cT K ("full_look", none) ∈ tf.map (He.cT K) := List.mem_map.mpr ⟨("full_look", none), by decide +kernel, rfl⟩
  have t_full_look : ∃ c T, fd_full_look.code = .ref c ∧ GxR.TabB base mg c T ∧ TT K T := ⟨_, _, DL.code_of F_full_look, DL.tabB_to (hT _ mem_full_look), _, mem_full_look, rfl⟩
  exact facts_core b F_law_draw (He.glo_ok X G (c.fact 6 (f := .glo "_law_draw") rfl)) F_law_sizes (He.glo_ok X G (c.fact 12 (f := .glo "_law_sizes") rfl)) F_law_so (He.glo_ok X G (c.fact 8 (f := .glo "_law_so") rfl)) F_law_ring (He.glo_ok X G (c.fact 9 (f := .glo "_law_ring") rfl)) F_ring_table (He.glo_ok X G (c.fact 1 (f := .glo "ring_table") rfl)) F_law_blocks (He.glo_ok X G (c.fact 10 (f := .glo "_law_blocks") rfl)) F_block_table (He.glo_ok X G (c.fact 2 (f := .glo "block_table") rfl)) F_law_pick (He.glo_ok X G (c.fact 7 (f := .glo "_law_pick") rfl)) F_law_words (He.glo_ok X G (c.fact 11 (f := .glo "_law_words") rfl)) F_all_words (He.glo_ok X G (c.fact 3 (f := .glo "all_words") rfl)) F_full_look (He.glo_ok X G (c.fact 0 (f := .glo "full_look") rfl)) F_umbrella (He.glo_ok X G (c.fact 5 (f := .glo "umbrella") rfl)) F_three_looks (He.glo_ok X G (c.fact 4 (f := .glo "three_looks") rfl)) F_law t_full_look
end My
open PySem PySem.W PySem.Calls PyProof.Rows
theorem PySem.Challenge.cw_whoseitis_k74_made_tables_and_words_holds : PySem.Challenge.rw_whoseitis_k74_made_tables_and_words.Holds := by
  w_on; o_law
  refine HandSHeadRun.head_any (r := OpenLaw.row PySem.Challenge.rw_whoseitis_k74_made_tables_and_words) (q := view (OpenLaw.row PySem.Challenge.rw_whoseitis_k74_made_tables_and_words).prog [16]) (H := My.hk) (ob := My.ob) (M := 2000) (loose := My.loose) (d := HandSHeadRun.topDef (OpenLaw.row PySem.Challenge.rw_whoseitis_k74_made_tables_and_words).prog 16) (kwd := []) My.ob_eq
    (by kernel_rfl) (fun s => by kernel_rfl) My.run (by kernel_rfl) (by kernel_rfl) (by kernel_rfl) (by rfl) (by first | assumption | decide +kernel) (by decide +kernel) ⟨rfl, rfl, rfl, rfl, rfl, by decide +kernel⟩ ?hw ?hc
  case hw => w_witness2
  case hc =>
    refine LamX.walk_ofTsE (l := PySem.Challenge.rw_whoseitis_k74_made_tables_and_words) (n := 63) (k := 7) (x := "script") (CX := fun _ => L2.CX0) rfl (by decide) (by kernel_rfl) ⟨rfl, by decide, by decide⟩ ?F (fun _ _ _ _ _ z => z)
    intro w mg fa h Y G hmg0
    obtain ⟨K, KX, c⟩ := Y
    have hmg : mg ("law" : PySem.Str) = some (.ref fa) := by
      have e : (HandSHeadRun.topDef (OpenLaw.row PySem.Challenge.rw_whoseitis_k74_made_tables_and_words).prog 16).name = ("law" : PySem.Str) := by kernel_rfl
      rw [← e]
      exact hmg0
    obtain ⟨fd, hb, hF⟩ := My.facts (P := (PySem.Challenge.rw_whoseitis_k74_made_tables_and_words).prog) (w := w) KX G hmg c.t.d
    refine ⟨K, KX, fd, My.tf.map (He.cT K), DL.LawSp 63 K (My.TT K), fun p hp => ?_, fun p hp => ?_, fun p hp => ?_, hb, fun H a ns hl _ hT hS => ⟨a, ns, rfl, hl, hS, ?_, fun _ => rfl⟩, hF⟩
    · obtain ⟨q, hq, rfl⟩ := List.mem_map.mp hp
      exact c.empty q hq
    · obtain ⟨q, hq, rfl⟩ := List.mem_map.mp hp
      exact c.out q hq
    · obtain ⟨q, hq, rfl⟩ := List.mem_map.mp hp
      exact PySem.W.codeHd_of_K KX (c.hd q hq)
    · rintro T ⟨p, hp, rfl⟩
      exact DL.tab_empty (hT p hp)
