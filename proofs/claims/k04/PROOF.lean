import PyProof.Rows.All
import Wide.All
import OpenK.AllK
import Wide.FinOn
import HandS.ForMost
import HandS.Exc
import HandS.Wide
import HandS.Deep
import HandS.TupAny
import HandS.TupMul
import HandS.Lambda
import PyProof.EqLayable
import KE.DataEq
import HandS.Style
import HandS.IsInst
import HandS.ExcCtx
import HandS.CallLocal
import HandS.Flow
import HandS.Zip
import HandS.More
import HandS.Dict
import HandS.ExcOwn
import HandS.ExcInit
import HandS.Comp
import PyProof.SumAny
import PyProof.TupleOps
import PyProof.WalksMore
import HandS.Defaults
import HandS.Ends
import HandS.HeadEnd
import HandS.HeadHook1
import HandS.HeadHook2
import HandS.HeadHook3
import HandS.HeadHook4
import HandS.HotCalls
import HandS.Hot
import HandS.TryMany
import HandS.ExcField
import HandS.ExcIs
import HandS.Text
import HandS.HeadWalk
import KE.KStateDown
import Lean
import HandS.Head0
import HandS.Head1
import HandS.Head2
import HandS.EndTab
import PySem.Challenge.RW_anyrods_k04_moves_of_beads
set_option Elab.async false
set_option linter.all false
set_option maxRecDepth 100000
set_option maxHeartbeats 2000000
/-! Mi1: data by value, what represents them in the layer's heap, the relation between a small machine's state and the layer's. -/
namespace Mi
open PySem PySem.Spec PyProof.Rows L2

/-- data by value; ref: an object with a place of its own (in M) -/
inductive Dat where
  | non | bl (b : Bool) | int (i : Int) | str (s : Str)
  | tup (ds : List Dat) | lst (ds : List Dat)
  | fn (f : Str) | ref (a : Addr) | ty (n : String)
  /-- the script -/
  | scr (ns : List Int)

/-- an object with a place of its own -/
inductive MO where
  | lst (ds : List Dat)
  | ins (c : Str) (fs : List (Str × Dat))

abbrev MH := Addr → Option MO
def updM (M : MH) (a : Addr) (o : MO) : MH := fun b => if b = a then some o else M b
theorem updM_same {M : MH} {a : Addr} {o : MO} : updM M a o a = some o := by unfold updM; rw [if_pos rfl]
theorem updM_ne {M : MH} {a b : Addr} {o : MO} (h : b ≠ a) : updM M a o b = M b := by unfold updM; rw [if_neg h]
theorem updM_upd {M : MH} {a : Addr} {o u : MO} : updM (updM M a o) a u = updM M a u := by
  funext b; unfold updM; split <;> rfl

/-- what a name holds alone -/
inductive Own where
  | lst (ds : List Dat)

def Own.dat : Own → Dat
  | .lst ds => .lst ds

/-- a name's place -/
inductive Sl where
  | no | val (d : Dat) | own (o : Own)
abbrev Env := List Sl

/-- a result: data; what the name at a place holds alone; a new thing that nobody else holds -/
inductive Rv where
  | val (d : Dat) | bor (i : Nat) | own (o : Own)

/-- an error: its class's name, its attribute -/
structure Exc where
  cls : Str
  att : Option (Str × Dat) := none

/-! ### representation -/
section
variable (K : PySem.W.Frag) (mg : Str → Option Value) (F : Hp)
mutual
def Rep : Dat → V → Prop
  | .non, v => v = .non
  | .bl b, v => v = .bl b
  | .int i, v => v = .int i
  | .str s, v => v = .str s ∧ s.length ≤ sizeLine
  | .tup ds, v => ∃ a xs, v = .ref a ∧ SqT K F a xs ∧ Reps ds xs
  | .lst ds, v => ∃ a xs, v = .ref a ∧ F a = some (.lst xs) ∧ Reps ds xs
  | .scr ns, v => ∃ a, v = .ref a ∧ SqL K F a (ns.map V.int)
  | .fn f, v => ∃ a, mg f = some (.ref a) ∧ v = .ref a
  | .ref a, v => v = .ref a
  | .ty n, v => v = .ty n
def Reps : List Dat → List V → Prop
  | [], xs => xs = []
  | d :: ds, xs => ∃ x r, xs = x :: r ∧ Rep d x ∧ Reps ds r
end
end

theorem sqL_same {K : PySem.W.Frag} {H H' : Hp} {a : Addr} {xs : List V} (e : Same H H') (h : SqL K H a xs) : SqL K H' a xs := by
  rcases h with (h | ⟨o, h⟩) | h
  · exact .inl (.inl (e _ _ h))
  · exact .inl (.inr ⟨o, e _ _ h⟩)
  · exact .inr h
theorem sqT_same {K : PySem.W.Frag} {H H' : Hp} {a : Addr} {xs : List V} (e : Same H H') (h : SqT K H a xs) : SqT K H' a xs := by
  rcases h with (h | ⟨o, h⟩) | h
  · exact .inl (.inl (e _ _ h))
  · exact .inl (.inr ⟨o, e _ _ h⟩)
  · exact .inr h

section
variable {K : PySem.W.Frag} {mg : Str → Option Value} {F F' : Hp}
mutual
theorem Rep.mono (e : Same F F') : ∀ {d : Dat} {v : V}, Rep K mg F d v → Rep K mg F' d v
  | .non, _, h => by unfold Rep at h ⊢; exact h
  | .bl _, _, h => by unfold Rep at h ⊢; exact h
  | .int _, _, h => by unfold Rep at h ⊢; exact h
  | .str _, _, h => by unfold Rep at h ⊢; exact h
  | .tup ds, _, h => by
    unfold Rep at h ⊢
    obtain ⟨a, xs, e1, h1, h2⟩ := h
    exact ⟨a, xs, e1, sqT_same e h1, Reps.mono e h2⟩
  | .lst ds, _, h => by
    unfold Rep at h ⊢
    obtain ⟨a, xs, e1, h1, h2⟩ := h
    exact ⟨a, xs, e1, e _ _ h1, Reps.mono e h2⟩
  | .scr ns, _, h => by
    unfold Rep at h ⊢
    obtain ⟨a, e1, h1⟩ := h
    exact ⟨a, e1, sqL_same e h1⟩
  | .fn _, _, h => by unfold Rep at h ⊢; exact h
  | .ref _, _, h => by unfold Rep at h ⊢; exact h
  | .ty _, _, h => by unfold Rep at h ⊢; exact h
theorem Reps.mono (e : Same F F') : ∀ {ds : List Dat} {xs : List V}, Reps K mg F ds xs → Reps K mg F' ds xs
  | [], _, h => by unfold Reps at h ⊢; exact h
  | d :: ds, _, h => by
    unfold Reps at h ⊢
    obtain ⟨x, r, e1, h1, h2⟩ := h
    exact ⟨x, r, e1, Rep.mono e h1, Reps.mono e h2⟩
end
theorem Reps.nil : Reps K mg F [] [] := by unfold Reps; rfl
theorem Reps.cons {d : Dat} {x : V} {ds : List Dat} {xs : List V} (h : Rep K mg F d x) (t : Reps K mg F ds xs) : Reps K mg F (d :: ds) (x :: xs) := by
  unfold Reps; exact ⟨x, xs, rfl, h, t⟩
theorem Reps.length : ∀ {ds : List Dat} {xs : List V}, Reps K mg F ds xs → xs.length = ds.length
  | [], _, h => by unfold Reps at h; subst h; rfl
  | d :: ds, _, h => by
    unfold Reps at h
    obtain ⟨x, r, e1, _, h2⟩ := h
    subst e1
    simp [Reps.length h2]
theorem Reps.append : ∀ {ds : List Dat} {xs : List V} {es : List Dat} {ys : List V}, Reps K mg F ds xs → Reps K mg F es ys → Reps K mg F (ds ++ es) (xs ++ ys)
  | [], _, _, _, h, g => by unfold Reps at h; subst h; exact g
  | d :: ds, _, _, _, h, g => by
    unfold Reps at h
    obtain ⟨x, r, e1, h1, h2⟩ := h
    subst e1
    exact Reps.cons h1 (Reps.append h2 g)
theorem Reps.get : ∀ {ds : List Dat} {xs : List V} {i : Nat} {d : Dat}, Reps K mg F ds xs → ds[i]? = some d → ∃ x, xs[i]? = some x ∧ Rep K mg F d x
  | [], _, _, _, _, e => by simp at e
  | d :: ds, _, 0, _, h, e => by
    unfold Reps at h
    obtain ⟨x, r, e1, h1, h2⟩ := h
    subst e1
    simp at e; subst e
    exact ⟨x, rfl, h1⟩
  | d :: ds, _, i + 1, _, h, e => by
    unfold Reps at h
    obtain ⟨x, r, e1, h1, h2⟩ := h
    subst e1
    obtain ⟨y, a, b⟩ := Reps.get (i := i) h2 (by simpa using e)
    exact ⟨y, by simpa using a, b⟩
theorem Reps.get' : ∀ {ds : List Dat} {xs : List V} {i : Nat} {x : V}, Reps K mg F ds xs → xs[i]? = some x → ∃ d, ds[i]? = some d ∧ Rep K mg F d x := fun {ds xs i x} h e => by
  have hl := h.length
  have hi : i < ds.length := by
    have := (List.getElem?_eq_some_iff.mp e).1
    omega
  obtain ⟨y, a, b⟩ := h.get (i := i) (d := ds[i]) (List.getElem?_eq_getElem hi)
  rw [e] at a; cases a
  exact ⟨_, List.getElem?_eq_getElem hi, b⟩
theorem Reps.set : ∀ {ds : List Dat} {xs : List V} {d : Dat} {x : V} (i : Nat), Reps K mg F ds xs → Rep K mg F d x → Reps K mg F (ds.set i d) (xs.set i x)
  | [], _, _, _, _, h, _ => by unfold Reps at h; subst h; exact Reps.nil
  | d :: ds, _, _, _, 0, h, g => by
    unfold Reps at h
    obtain ⟨y, r, e1, h1, h2⟩ := h
    subst e1
    exact Reps.cons g h2
  | d :: ds, _, _, _, i + 1, h, g => by
    unfold Reps at h
    obtain ⟨y, r, e1, h1, h2⟩ := h
    subst e1
    exact Reps.cons h1 (Reps.set i h2 g)
theorem Reps.take : ∀ {ds : List Dat} {xs : List V} (n : Nat), Reps K mg F ds xs → Reps K mg F (ds.take n) (xs.take n)
  | _, _, 0, _ => by simp; exact Reps.nil
  | [], _, n + 1, h => by unfold Reps at h; subst h; simp; exact Reps.nil
  | d :: ds, _, n + 1, h => by
    unfold Reps at h
    obtain ⟨x, r, e1, h1, h2⟩ := h
    subst e1
    exact Reps.cons h1 (Reps.take n h2)
theorem Reps.drop : ∀ {ds : List Dat} {xs : List V} (n : Nat), Reps K mg F ds xs → Reps K mg F (ds.drop n) (xs.drop n)
  | _, _, 0, h => by simpa using h
  | [], _, n + 1, h => by unfold Reps at h; subst h; simp; exact Reps.nil
  | d :: ds, _, n + 1, h => by
    unfold Reps at h
    obtain ⟨x, r, e1, h1, h2⟩ := h
    subst e1
    exact Reps.drop n h2
theorem Reps.flatRep {ds : List Dat} {xs : List V} (h : Reps K mg F ds xs) : ∀ k : Nat, Reps K mg F (List.replicate k ds).flatten (List.replicate k xs).flatten
  | 0 => Reps.nil
  | k + 1 => by
    rw [List.replicate_succ, List.replicate_succ, List.flatten_cons, List.flatten_cons]
    exact h.append (Reps.flatRep h k)
theorem Reps.reverse : ∀ {ds : List Dat} {xs : List V}, Reps K mg F ds xs → Reps K mg F ds.reverse xs.reverse
  | [], _, h => by unfold Reps at h; subst h; exact Reps.nil
  | d :: ds, _, h => by
    unfold Reps at h
    obtain ⟨x, r, e1, h1, h2⟩ := h
    subst e1
    rw [List.reverse_cons, List.reverse_cons]
    exact (Reps.reverse h2).append (Reps.cons h1 Reps.nil)
theorem Reps.one {d : Dat} {xs : List V} (h : Reps K mg F [d] xs) : ∃ x, xs = [x] ∧ Rep K mg F d x := by
  unfold Reps at h
  obtain ⟨x, r, e1, h1, h2⟩ := h
  unfold Reps at h2
  subst e1 h2
  exact ⟨x, rfl, h1⟩
theorem Reps.two {d e : Dat} {xs : List V} (h : Reps K mg F [d, e] xs) : ∃ x y, xs = [x, y] ∧ Rep K mg F d x ∧ Rep K mg F e y := by
  unfold Reps at h
  obtain ⟨x, r, e1, h1, h2⟩ := h
  obtain ⟨y, e2, h3⟩ := Reps.one h2
  subst e1 e2
  exact ⟨x, y, rfl, h1, h3⟩
end

theorem rep_non {K mg F v} : Rep K mg F .non v ↔ v = .non := by unfold Rep; rfl
theorem rep_bl {K mg F v b} : Rep K mg F (.bl b) v ↔ v = .bl b := by unfold Rep; rfl
theorem rep_int {K mg F v i} : Rep K mg F (.int i) v ↔ v = .int i := by unfold Rep; rfl
theorem rep_str {K mg F v s} : Rep K mg F (.str s) v ↔ (v = .str s ∧ s.length ≤ sizeLine) := by unfold Rep; rfl
theorem rep_tup {K mg F v ds} : Rep K mg F (.tup ds) v ↔ ∃ a xs, v = .ref a ∧ SqT K F a xs ∧ Reps K mg F ds xs := by rw [Rep]
theorem rep_lst {K mg F v ds} : Rep K mg F (.lst ds) v ↔ ∃ a xs, v = .ref a ∧ F a = some (.lst xs) ∧ Reps K mg F ds xs := by rw [Rep]
theorem rep_scr {K mg F v ns} : Rep K mg F (.scr ns) v ↔ ∃ a, v = .ref a ∧ SqL K F a (ns.map V.int) := by rw [Rep]
theorem rep_fn {K mg F v f} : Rep K mg F (.fn f) v ↔ ∃ a, mg f = some (.ref a) ∧ v = .ref a := by rw [Rep]
theorem rep_ref {K mg F v a} : Rep K mg F (.ref a) v ↔ v = .ref a := by unfold Rep; rfl
theorem rep_ty {K mg F v a} : Rep K mg F (.ty a) v ↔ v = .ty a := by unfold Rep; rfl

/-! ### the relation -/
/-- what a def's run is measured by: the written part, the module's names; what stood at its entry -/
structure Gh where
  K : PySem.W.Frag
  mg : Str → Option Value
  /-- the tables of code objects of the defs that make lambdas -/
  T : List (Addr × Str)
  H0 : Hp
  F0 : Hp
  M0 : MH

abbrev Gh.rep (C : Gh) (F : Hp) : Dat → V → Prop := Rep C.K C.mg F
abbrev Gh.reps (C : Gh) (F : Hp) : List Dat → List V → Prop := Reps C.K C.mg F

def OwnR (K : PySem.W.Frag) (mg : Str → Option Value) (F H : Hp) (o : Own) (a : Addr) : Prop := match o with
  | .lst ds => ∃ xs, H a = some (.lst xs) ∧ Reps K mg F ds xs
/-- the attributes of an instance -/
def FldR (K : PySem.W.Frag) (mg : Str → Option Value) (F : Hp) (fs : List (Str × Dat)) (gs : List (Str × V)) : Prop := Paired (fun (p : Str × Dat) (q : Str × V) => p.1 = q.1 ∧ Rep K mg F p.2 q.2) fs gs
def MOR (K : PySem.W.Frag) (mg : Str → Option Value) (F H : Hp) (a : Addr) : MO → Prop
  | .lst ds => ∃ xs, H a = some (.lst xs) ∧ Reps K mg F ds xs
  | .ins c fs => ∃ C dx gs, mg c = some (.ref C) ∧ H a = some (.ins C dx gs) ∧ FldR K mg F fs gs ∧ H dx = some (.own a)

/-- what every object is by itself -/
structure MR (K : PySem.W.Frag) (mg : Str → Option Value) (T : List (Addr × Str)) (F : Hp) (M : MH) (H : Hp) : Prop where
  sub : Same F H
  mh : ∀ a o, M a = some o → MOR K mg F H a o
  fm : ∀ a, M a ≠ none → F a = none
  /-- the tables of code objects -/
  tb : LamX.Tabs T H
  ft : ∀ p ∈ T, F p.1 = none

theorem OwnR.mono {K mg F F' H o a} (h : OwnR K mg F H o a) (e : Same F F') : OwnR K mg F' H o a := by
  cases o with
  | lst ds => obtain ⟨xs, h1, h2⟩ := h; exact ⟨xs, h1, h2.mono e⟩
theorem OwnR.move {K mg F H H' o a} (h : OwnR K mg F H o a) (e : H' a = H a) : OwnR K mg F H' o a := by
  cases o with
  | lst ds => obtain ⟨xs, h1, h2⟩ := h; exact ⟨xs, e.trans h1, h2⟩
theorem OwnR.ex {K mg F H o a} (h : OwnR K mg F H o a) : H a ≠ none := by
  cases o with
  | lst ds => obtain ⟨xs, h1, h2⟩ := h; rw [h1]; exact fun z => nomatch z
theorem FldR.mono {K mg F F' fs gs} (h : FldR K mg F fs gs) (e : Same F F') : FldR K mg F' fs gs := Paired.mapP h fun _ _ z => ⟨z.1, z.2.mono e⟩
theorem MOR.ex {K mg F H a o} (h : MOR K mg F H a o) : H a ≠ none := by
  cases o with
  | lst ds => obtain ⟨xs, h1, h2⟩ := h; rw [h1]; exact fun z => nomatch z
  | ins c fs => obtain ⟨C, dx, gs, _, h1, _⟩ := h; rw [h1]; exact fun z => nomatch z
theorem MOR.mono {K mg F F' H H' a o} (h : MOR K mg F H a o) (e : Same F F') (k : ∀ b u, H b = some u → (b = a ∨ u = HO.own a) → H' b = some u) : MOR K mg F' H' a o := by
  cases o with
  | lst ds => obtain ⟨xs, h1, h2⟩ := h; exact ⟨xs, k _ _ h1 (.inl rfl), h2.mono e⟩
  | ins c fs =>
    obtain ⟨C, dx, gs, h0, h1, h2, h4⟩ := h
    exact ⟨C, dx, gs, h0, k _ _ h1 (.inl rfl), h2.mono e, k _ _ h4 (.inr rfl)⟩

theorem tabs_wr {T : List (Addr × Str)} {H : Hp} {a : Addr} {xs ys : List V} (t : LamX.Tabs T H) (g : H a = some (.lst xs)) : LamX.Tabs T (upd H a (.lst ys)) := fun p hp => by
  obtain ⟨ps, h1, h2, h3⟩ := t p hp
  refine ⟨ps, by rw [upd_ne (fun z => by rw [z, g] at h1; cases h1)]; exact h1, h2, fun pos cv hc => ?_⟩
  obtain ⟨c, e1, e2⟩ := h3 pos cv hc
  exact ⟨c, e1, by rw [upd_ne (fun z => by rw [z, g] at e2; unfold LamX.CodeO at e2; cases e2)]; exact e2⟩
theorem tabs_at {T : List (Addr × Str)} {H : Hp} (t : LamX.Tabs T H) {p : Addr × Str} (hp : p ∈ T) : ∃ ps, H p.1 = some (.tbl ps) := by
  obtain ⟨ps, h1, _⟩ := t p hp
  exact ⟨ps, h1⟩

def SlR (C : Gh) (F : Hp) (M : MH) (H : Hp) (s : Sl) (x : Option (Option V)) : Prop := match s with
  | .no => True
  | .val d => ∃ v, x = some (some v) ∧ C.rep F d v
  | .own o => ∃ a, x = some (some (.ref a)) ∧ OwnR C.K C.mg F H o a ∧ F a = none ∧ C.H0 a = none ∧ M a = none

structure R (C : Gh) (F : Hp) (ρ : Env) (M : MH) (σ : L2.St) (H : Hp) : Prop where
  mr : MR C.K C.mg C.T F M H
  len : ρ.length = σ.length
  sl : ∀ (i : Nat) (s : Sl), ρ[i]? = some s → SlR C F M H s σ[i]?
  dist : ∀ (i j : Nat) (o p : Own) (a : Addr), ρ[i]? = some (.own o) → ρ[j]? = some (.own p) → σ[i]? = some (some (.ref a)) → σ[j]? = some (some (.ref a)) → i = j
  f0 : Same C.F0 F
  new : ∀ a, C.H0 a ≠ none → C.F0 a = none → F a = none
  old : ∀ a o, C.H0 a = some o → C.M0 a = none → (∀ ps, o ≠ .tbl ps) → H a = some o
  there : ∀ a, C.H0 a ≠ none → H a ≠ none
  md : ∀ a, C.M0 a ≠ none → M a ≠ none
  mn : ∀ a, M a ≠ none → C.M0 a = none → C.H0 a = none

end Mi

set_option maxHeartbeats 2000000
/-! Mi2: steps of the relation. -/
namespace Mi
open PySem PySem.Spec PyProof.Rows L2
abbrev St := L2.St

theorem same_upd {H : Hp} {p : Addr} {u : HO} (hp : H p = none) : Same H (upd H p u) := fun b o e => by
  rw [upd_ne (ne_of_none e hp)]; exact e
theorem same_upd2 {F H : Hp} {p : Addr} {u : HO} (e : Same F H) (hp : F p = none) : Same F (upd H p u) := fun b o h => by
  rw [upd_ne (ne_of_none h hp)]; exact e _ _ h
theorem same_both {F H : Hp} {p : Addr} {u : HO} (e : Same F H) : Same (upd F p u) (upd H p u) := fun b o h => by
  by_cases hb : b = p
  · subst hb; rw [upd_same] at h ⊢; exact h
  · rw [upd_ne hb] at h ⊢; exact e _ _ h

section
variable {C : Gh} {F F' : Hp} {ρ : Env} {M : MH} {σ : St} {H H' : Hp} {p a : Addr} {u : HO} {i : Nat} {o : Own} {s : Sl} {x : Option V}


theorem R.slv (h : R C F ρ M σ H) {d : Dat} (e : ρ[i]? = some (.val d)) : ∃ v, σ[i]? = some (some v) ∧ C.rep F d v := h.sl i _ e
theorem R.slo (h : R C F ρ M σ H) (e : ρ[i]? = some (.own o)) : ∃ a, σ[i]? = some (some (.ref a)) ∧ OwnR C.K C.mg F H o a ∧ F a = none ∧ C.H0 a = none ∧ M a = none := h.sl i _ e

/-- all that was held is held -/
theorem R.ext (h : R C F ρ M σ H) (e : Same H H') : R C F ρ M σ H' where
  mr := ⟨Same.trans h.mr.sub e, fun b o q => (h.mr.mh b o q).mono (Same.refl _) fun c u z _ => e c u z, h.mr.fm, h.mr.tb.ext fun b o q => e b o q, h.mr.ft⟩
  len := h.len
  sl := fun j s q => by
    have z := h.sl j s q
    cases s with
    | no => trivial
    | val d => exact z
    | own o =>
      obtain ⟨b, e1, e2, e3, e4, e5⟩ := z
      refine ⟨b, e1, ?_, e3, e4, e5⟩
      cases o with
      | lst ds => obtain ⟨xs, g1, g2⟩ := e2; exact ⟨xs, e _ _ g1, g2⟩
  dist := h.dist
  f0 := h.f0
  new := h.new
  old := fun b o q n m => e _ _ (h.old b o q n m)
  there := fun b q => by
    have z := h.there b q
    cases w : H b with
    | none => exact absurd w z
    | some o => rw [e _ _ w]; exact fun z => nomatch z
  md := h.md
  mn := h.mn

/-- a new object, known from now on -/
theorem R.froz (h : R C F ρ M σ H) (hp : H p = none) : R C (upd F p u) ρ M σ (upd H p u) := by
  have g := h.ext (same_upd (u := u) hp)
  have fp : F p = none := by
    cases w : F p with
    | none => rfl
    | some o => have := h.mr.sub _ _ w; rw [hp] at this; cases this
  have ef : Same F (upd F p u) := same_upd fp
  have hH0 : C.H0 p = none := by
    cases w : C.H0 p with
    | none => rfl
    | some o => exact absurd hp (h.there p (by rw [w]; exact fun z => nomatch z))
  exact {
    mr := ⟨same_both h.mr.sub, fun b o q => (g.mr.mh b o q).mono ef fun c u z _ => z, fun b q => by
      have hb : b ≠ p := fun z => by
        cases w : M b with
        | none => exact q w
        | some o => exact (h.mr.mh b o w).ex (by rw [z]; exact hp)
      rw [upd_ne hb]; exact h.mr.fm b q, g.mr.tb, fun q hq => by
      obtain ⟨ps, e⟩ := tabs_at h.mr.tb hq
      rw [upd_ne (fun z => by rw [z, hp] at e; cases e)]; exact h.mr.ft q hq⟩
    len := h.len
    sl := fun j s q => by
      have z := g.sl j s q
      cases s with
      | no => trivial
      | val d => obtain ⟨v, e1, e2⟩ := z; exact ⟨v, e1, e2.mono ef⟩
      | own o =>
        obtain ⟨b, e1, e2, e3, e4, e5⟩ := z
        obtain ⟨b', e1', e2', _⟩ := h.slo q
        have : b' = b := by rw [e1] at e1'; simpa using e1'.symm
        subst this
        have hb : b' ≠ p := fun z => e2'.ex (by rw [z]; exact hp)
        exact ⟨b', e1, e2.mono ef, by rw [upd_ne hb]; exact e3, e4, e5⟩
    dist := h.dist
    f0 := Same.trans h.f0 ef
    new := fun b q n => by
      have hb : b ≠ p := fun z => q (by rw [z]; exact hH0)
      rw [upd_ne hb]; exact h.new b q n
    old := g.old
    there := g.there
    md := h.md
    mn := h.mn }

theorem R.fresh0 (h : R C F ρ M σ H) (hp : H p = none) : F p = none ∧ C.H0 p = none ∧ M p = none := by
  refine ⟨?_, ?_, ?_⟩
  · cases w : F p with
    | none => rfl
    | some o => have := h.mr.sub _ _ w; rw [hp] at this; cases this
  · cases w : C.H0 p with
    | none => rfl
    | some o => exact absurd hp (h.there p (by rw [w]; exact fun z => nomatch z))
  · cases w : M p with
    | none => rfl
    | some o => exact absurd hp (h.mr.mh p o w).ex

theorem get_snoc {α : Type} {l : List α} {x : α} {j : Nat} {s : α} (e : (l ++ [x])[j]? = some s) : (j < l.length ∧ l[j]? = some s) ∨ (j = l.length ∧ s = x) := by
  by_cases hj : j < l.length
  · rw [List.getElem?_append_left hj] at e; exact .inl ⟨hj, e⟩
  · rw [List.getElem?_append_right (by omega)] at e
    have : j - l.length = 0 := by
      have := (List.getElem?_eq_some_iff.mp e).1
      simp at this; omega
    rw [this] at e
    simp at e
    exact .inr ⟨by omega, e.symm⟩

/-- a new thing, held alone, beside the places -/
theorem R.push (h : R C F ρ M σ H) (hp : H p = none) {ds : List Dat} {xs : List V} (r : C.reps F ds xs) : R C F (ρ ++ [.own (.lst ds)]) M (σ ++ [some (.ref p)]) (upd H p (.lst xs)) := by
  have g := h.ext (same_upd (u := .lst xs) hp)
  obtain ⟨f1, f2, f3⟩ := h.fresh0 hp
  exact {
    mr := g.mr
    len := by simp [h.len]
    sl := fun j s q => by
      rcases get_snoc q with ⟨hj, q⟩ | ⟨hj, q⟩
      · rw [List.getElem?_append_left (by rw [← h.len]; exact hj)]; exact g.sl j s q
      · subst q
        rw [hj, h.len, List.getElem?_append_right (Nat.le_refl _)]
        exact ⟨p, by simp, ⟨xs, upd_same, r⟩, f1, f2, f3⟩
    dist := fun j k o q b e1 e2 e3 e4 => by
      rcases get_snoc e1 with ⟨hj, e1⟩ | ⟨hj, e1⟩ <;> rcases get_snoc e2 with ⟨hk, e2⟩ | ⟨hk, e2⟩
      · rw [List.getElem?_append_left (by rw [← h.len]; exact hj)] at e3
        rw [List.getElem?_append_left (by rw [← h.len]; exact hk)] at e4
        exact h.dist j k o q b e1 e2 e3 e4
      · rw [List.getElem?_append_left (by rw [← h.len]; exact hj)] at e3
        rw [hk, h.len, List.getElem?_append_right (Nat.le_refl _)] at e4
        simp at e4; subst e4
        obtain ⟨a', z1, z2, _⟩ := h.slo e1
        rw [e3] at z1; simp at z1; subst z1
        exact absurd hp z2.ex
      · rw [List.getElem?_append_left (by rw [← h.len]; exact hk)] at e4
        rw [hj, h.len, List.getElem?_append_right (Nat.le_refl _)] at e3
        simp at e3; subst e3
        obtain ⟨a', z1, z2, _⟩ := h.slo e2
        rw [e4] at z1; simp at z1; subst z1
        exact absurd hp z2.ex
      · omega
    f0 := h.f0
    new := h.new
    old := g.old
    there := g.there
    md := h.md
    mn := h.mn }

theorem R.pushV (h : R C F ρ M σ H) {d : Dat} {v : V} (r : C.rep F d v) : R C F (ρ ++ [.val d]) M (σ ++ [some v]) H where
  mr := h.mr
  len := by simp [h.len]
  sl := fun j s q => by
    rcases get_snoc q with ⟨hj, q⟩ | ⟨hj, q⟩
    · rw [List.getElem?_append_left (by rw [← h.len]; exact hj)]; exact h.sl j s q
    · subst q
      rw [hj, h.len, List.getElem?_append_right (Nat.le_refl _)]
      exact ⟨v, by simp, r⟩
  dist := fun j k o q b e1 e2 e3 e4 => by
    rcases get_snoc e1 with ⟨hj, e1⟩ | ⟨hj, e1⟩ <;> rcases get_snoc e2 with ⟨hk, e2⟩ | ⟨hk, e2⟩
    · rw [List.getElem?_append_left (by rw [← h.len]; exact hj)] at e3
      rw [List.getElem?_append_left (by rw [← h.len]; exact hk)] at e4
      exact h.dist j k o q b e1 e2 e3 e4
    · cases e2
    · cases e1
    · cases e1
  f0 := h.f0
  new := h.new
  old := h.old
  there := h.there
  md := h.md
  mn := h.mn

/-- forgotten places at the end -/
theorem R.prefix_ {ρ2 : Env} {σ2 : St} (h : R C F (ρ ++ ρ2) M (σ ++ σ2) H) (hl : ρ.length = σ.length) : R C F ρ M σ H where
  mr := h.mr
  len := hl
  sl := fun j s q => by
    have hj := (List.getElem?_eq_some_iff.mp q).1
    have z := h.sl j s (by rw [List.getElem?_append_left hj]; exact q)
    rw [List.getElem?_append_left (by rw [← hl]; exact hj)] at z
    exact z
  dist := fun j k o q b e1 e2 e3 e4 => by
    have hj := (List.getElem?_eq_some_iff.mp e1).1
    have hk := (List.getElem?_eq_some_iff.mp e2).1
    exact h.dist j k o q b (by rw [List.getElem?_append_left hj]; exact e1) (by rw [List.getElem?_append_left hk]; exact e2) (by rw [List.getElem?_append_left (by rw [← hl]; exact hj)]; exact e3) (by rw [List.getElem?_append_left (by rw [← hl]; exact hk)]; exact e4)
  f0 := h.f0
  new := h.new
  old := h.old
  there := h.there
  md := h.md
  mn := h.mn
theorem R.pop_ {y : Option V} (h : R C F (ρ ++ [s]) M (σ ++ [y]) H) : R C F ρ M σ H := h.prefix_ (by have := h.len; simpa using this)

/-- a place's new content; what it had is forgotten -/
theorem R.put (h : R C F ρ M σ H) {y : Option V} (hs : SlR C F M H s (some y)) (hd : ∀ o b j p, s = .own o → y = some (.ref b) → j ≠ i → ρ[j]? = some (.own p) → σ[j]? ≠ some (some (.ref b))) : R C F (ρ.set i s) M (σ.set i y) H where
  mr := h.mr
  len := by simp [h.len]
  sl := fun j t q => by
    by_cases hj : i = j
    · subst hj
      have hl : i < ρ.length := by
        have := (List.getElem?_eq_some_iff.mp q).1
        simpa using this
      rw [List.getElem?_set_self hl] at q
      cases q
      rw [List.getElem?_set_self (by rw [← h.len]; exact hl)]
      exact hs
    · rw [List.getElem?_set_ne hj] at q ⊢
      exact h.sl j t q
  dist := fun j k o q b e1 e2 e3 e4 => by
    have at_ : ∀ {j : Nat} {o : Own}, (ρ.set i s)[j]? = some (.own o) → (σ.set i y)[j]? = some (some (.ref b)) → (j = i ∧ s = .own o ∧ y = some (.ref b)) ∨ (j ≠ i ∧ ρ[j]? = some (.own o) ∧ σ[j]? = some (some (.ref b))) := fun {j o} e1 e2 => by
      by_cases hj : i = j
      · subst hj
        have hl : i < ρ.length := by
          have := (List.getElem?_eq_some_iff.mp e1).1
          simpa using this
        rw [List.getElem?_set_self hl] at e1
        rw [List.getElem?_set_self (by rw [← h.len]; exact hl)] at e2
        exact .inl ⟨rfl, Option.some.inj e1, Option.some.inj e2⟩
      · rw [List.getElem?_set_ne hj] at e1 e2
        exact .inr ⟨fun z => hj z.symm, e1, e2⟩
    rcases at_ e1 e3 with ⟨a1, a2, a3⟩ | ⟨a1, a2, a3⟩ <;> rcases at_ e2 e4 with ⟨b1, b2, b3⟩ | ⟨b1, b2, b3⟩
    · omega
    · exact absurd b3 (hd o b k q a2 a3 b1 b2)
    · exact absurd a3 (hd q b j o b2 b3 a1 a2)
    · exact h.dist j k o q b a2 b2 a3 b3
  f0 := h.f0
  new := h.new
  old := h.old
  there := h.there
  md := h.md
  mn := h.mn
theorem R.putV (h : R C F ρ M σ H) {d : Dat} {v : V} (r : C.rep F d v) : R C F (ρ.set i (.val d)) M (σ.set i (some v)) H :=
  h.put ⟨v, rfl, r⟩ fun _ _ _ _ z => nomatch z
theorem R.putN (h : R C F ρ M σ H) (y : Option V) : R C F (ρ.set i .no) M (σ.set i y) H :=
  h.put trivial fun _ _ _ _ z => nomatch z
/-- the last one goes to a place -/
theorem R.move {y : Option V} (h : R C F (ρ ++ [s]) M (σ ++ [y]) H) : R C F (ρ.set i s) M (σ.set i y) H := by
  have hl : ρ.length = σ.length := by have := h.len; simpa using this
  have hs := h.sl ρ.length s (by simp)
  rw [hl, List.getElem?_append_right (Nat.le_refl _)] at hs
  simp at hs
  refine h.pop_.put hs fun o b j p e1 e2 hj e3 e4 => ?_
  have hjl := (List.getElem?_eq_some_iff.mp e3).1
  have := h.dist j ρ.length p o b (by rw [List.getElem?_append_left hjl]; exact e3) (by simp [e1]) (by rw [List.getElem?_append_left (by rw [← hl]; exact hjl)]; exact e4) (by rw [hl, List.getElem?_append_right (Nat.le_refl _)]; simp [e2])
  omega

/-- what a place holds alone is held by all from now on -/
theorem R.frz (h : R C F ρ M σ H) (e : ρ[i]? = some (.own o)) : ∃ F' v, Same F F' ∧ σ[i]? = some (some v) ∧ C.rep F' o.dat v ∧ R C F' (ρ.set i (.val o.dat)) M σ H := by
  obtain ⟨b, e1, e2, e3, e4, e5⟩ := h.slo e
  cases o with
  | lst ds =>
    obtain ⟨xs, g1, g2⟩ := e2
    have ef : Same F (upd F b (.lst xs)) := same_upd e3
    have rp : C.rep (upd F b (.lst xs)) (.lst ds) (.ref b) := rep_lst.mpr ⟨b, xs, rfl, upd_same, g2.mono ef⟩
    have hi : i < ρ.length := (List.getElem?_eq_some_iff.mp e).1
    refine ⟨upd F b (.lst xs), .ref b, ef, e1, rp, ?_⟩
    exact {
      mr := ⟨fun c u q => by
          by_cases hc : c = b
          · subst hc; rw [upd_same] at q; cases q; exact g1
          · rw [upd_ne hc] at q; exact h.mr.sub _ _ q,
        fun c u q => (h.mr.mh c u q).mono ef fun _ _ z _ => z,
        fun c q => by rw [upd_ne (fun z => q (by rw [z]; exact e5))]; exact h.mr.fm c q, h.mr.tb, fun q hq => by
          obtain ⟨ps, e⟩ := tabs_at h.mr.tb hq
          rw [upd_ne (fun z => by rw [z, g1] at e; cases e)]; exact h.mr.ft q hq⟩
      len := by simp [h.len]
      sl := fun j s q => by
        by_cases hj : i = j
        · subst hj
          rw [List.getElem?_set_self hi] at q
          cases q
          exact ⟨_, e1, rp⟩
        · rw [List.getElem?_set_ne hj] at q
          have z := h.sl j s q
          cases s with
          | no => trivial
          | val d => obtain ⟨v, z1, z2⟩ := z; exact ⟨v, z1, z2.mono ef⟩
          | own o =>
            obtain ⟨c, z1, z2, z3, z4, z5⟩ := z
            refine ⟨c, z1, z2.mono ef, ?_, z4, z5⟩
            rw [upd_ne (fun w => hj (h.dist i j _ _ b e q e1 (by rw [z1, w])))]
            exact z3
      dist := fun j k o q c w1 w2 w3 w4 => by
        have at_ : ∀ {j : Nat} {o : Own}, (ρ.set i (.val (Own.lst ds).dat))[j]? = some (.own o) → ρ[j]? = some (.own o) := fun {j o} w => by
          by_cases hj : i = j
          · subst hj; rw [List.getElem?_set_self hi] at w; cases w
          · rw [List.getElem?_set_ne hj] at w; exact w
        exact h.dist j k o q c (at_ w1) (at_ w2) w3 w4
      f0 := Same.trans h.f0 ef
      new := fun c q n => by
        rw [upd_ne (fun z => q (by rw [z]; exact e4))]; exact h.new c q n
      old := h.old
      there := h.there
      md := h.md
      mn := h.mn }

/-- the last one, held alone, is held by all from now on -/
theorem R.frzLast {y : Option V} (h : R C F (ρ ++ [.own o]) M (σ ++ [y]) H) : ∃ F' v, Same F F' ∧ y = some v ∧ C.rep F' o.dat v ∧ R C F' ρ M σ H := by
  have hl : ρ.length = σ.length := by have := h.len; simpa using this
  obtain ⟨F', v, e1, e2, e3, e4⟩ := h.frz (i := ρ.length) (o := o) (by simp)
  rw [hl, List.getElem?_append_right (Nat.le_refl _)] at e2
  simp at e2
  refine ⟨F', v, e1, e2, e3, ?_⟩
  have : (ρ ++ [Sl.own o]).set ρ.length (.val o.dat) = ρ ++ [.val o.dat] := by
    rw [List.set_append_right _ _ (Nat.le_refl _)]; simp
  rw [this] at e4
  exact e4.pop_

/-- what a place holds alone is changed -/
theorem R.wr (h : R C F ρ M σ H) {ds ds' : List Dat} {xs' : List V} (e : ρ[i]? = some (.own (.lst ds))) (e1 : σ[i]? = some (some (.ref a))) (r : C.reps F ds' xs') : R C F (ρ.set i (.own (.lst ds'))) M σ (upd H a (.lst xs')) := by
  obtain ⟨b, z1, e2, e3, e4, e5⟩ := h.slo e
  rw [e1] at z1; simp at z1; subst z1
  have hi : i < ρ.length := (List.getElem?_eq_some_iff.mp e).1
  obtain ⟨xs, g1, g2⟩ := e2
  have keep : ∀ c u, c ≠ a → H c = some u → upd H a (.lst xs') c = some u := fun c u hc q => by rw [upd_ne hc]; exact q
  exact {
    mr := ⟨same_upd2 h.mr.sub e3, fun c u q => (h.mr.mh c u q).mono (Same.refl _) fun d w z hd => keep d w (by
        rintro rfl
        rcases hd with hd | hd
        · subst hd; rw [e5] at q; cases q
        · subst hd; rw [g1] at z; cases z) z, h.mr.fm, tabs_wr h.mr.tb g1, h.mr.ft⟩
    len := by simp [h.len]
    sl := fun j s q => by
      by_cases hj : i = j
      · subst hj
        rw [List.getElem?_set_self hi] at q
        cases q
        exact ⟨a, e1, ⟨xs', upd_same, r⟩, e3, e4, e5⟩
      · rw [List.getElem?_set_ne hj] at q
        have z := h.sl j s q
        cases s with
        | no => trivial
        | val d => exact z
        | own o =>
          obtain ⟨c, z1, z2, z3, z4, z5⟩ := z
          refine ⟨c, z1, z2.move ?_, z3, z4, z5⟩
          exact upd_ne (fun w => hj (h.dist i j _ _ a e q e1 (by rw [z1, w])))
    dist := fun j k o q c w1 w2 w3 w4 => by
      have at_ : ∀ {j : Nat} {o : Own}, (ρ.set i (.own (.lst ds')))[j]? = some (.own o) → ∃ o', ρ[j]? = some (.own o') := fun {j o} w => by
        by_cases hj : i = j
        · subst hj; exact ⟨_, e⟩
        · rw [List.getElem?_set_ne hj] at w; exact ⟨_, w⟩
      obtain ⟨_, w1⟩ := at_ w1
      obtain ⟨_, w2⟩ := at_ w2
      exact h.dist j k _ _ c w1 w2 w3 w4
    f0 := h.f0
    new := h.new
    old := fun c u q n m => keep c u (fun z => by rw [z, e4] at q; cases q) (h.old c u q n m)
    there := fun c q => by
      by_cases hc : c = a
      · subst hc; rw [upd_same]; exact fun z => nomatch z
      · rw [upd_ne hc]; exact h.there c q
    md := h.md
    mn := h.mn }

/-- an object with a place of its own is changed -/
theorem R.wm (h : R C F ρ M σ H) {ds ds' : List Dat} {xs' : List V} (e : M a = some (.lst ds)) (r : C.reps F ds' xs') : R C F ρ (updM M a (.lst ds')) σ (upd H a (.lst xs')) := by
  obtain ⟨xs, g1, g2⟩ := (show MOR C.K C.mg F H a (.lst ds) from h.mr.mh a _ e)
  have ma : M a ≠ none := by rw [e]; exact fun z => nomatch z
  have fa : F a = none := h.mr.fm a ma
  have keep : ∀ c u, c ≠ a → H c = some u → upd H a (.lst xs') c = some u := fun c u hc q => by rw [upd_ne hc]; exact q
  have mk : ∀ c, updM M a (.lst ds') c ≠ none → M c ≠ none := fun c q => by
    by_cases hc : c = a
    · subst hc; exact ma
    · rw [updM_ne hc] at q; exact q
  have km : ∀ c, M c ≠ none → updM M a (.lst ds') c ≠ none := fun c q => by
    by_cases hc : c = a
    · subst hc; rw [updM_same]; exact fun z => nomatch z
    · rw [updM_ne hc]; exact q
  exact {
    mr := ⟨same_upd2 h.mr.sub fa, fun c u q => by
        by_cases hc : c = a
        · subst hc; rw [updM_same] at q; cases q; exact ⟨xs', upd_same, r⟩
        · rw [updM_ne hc] at q
          exact (h.mr.mh c u q).mono (Same.refl _) fun d w z hd => keep d w (by
            rintro rfl
            rcases hd with hd | hd
            · exact hc hd.symm
            · subst hd; rw [g1] at z; cases z) z, fun c q => h.mr.fm c (mk c q), tabs_wr h.mr.tb g1, h.mr.ft⟩
    len := h.len
    sl := fun j s q => by
      have z := h.sl j s q
      cases s with
      | no => trivial
      | val d => exact z
      | own o =>
        obtain ⟨c, z1, z2, z3, z4, z5⟩ := z
        have hc : c ≠ a := fun w => ma (by rw [← w]; exact z5)
        exact ⟨c, z1, z2.move (upd_ne hc), z3, z4, by rw [updM_ne hc]; exact z5⟩
    dist := h.dist
    f0 := h.f0
    new := h.new
    old := fun c u q n m => keep c u (fun z => by
      rw [z] at q n
      have := h.mn a ma n
      rw [this] at q; cases q) (h.old c u q n m)
    there := fun c q => by
      by_cases hc : c = a
      · subst hc; rw [upd_same]; exact fun z => nomatch z
      · rw [upd_ne hc]; exact h.there c q
    md := fun c q => km c (h.md c q)
    mn := fun c q n => h.mn c (mk c q) n }

/-- a new object with a place of its own: a list -/
theorem R.newM (h : R C F ρ M σ H) (hp : H p = none) {ds : List Dat} {xs : List V} (r : C.reps F ds xs) : R C F ρ (updM M p (.lst ds)) σ (upd H p (.lst xs)) := by
  have g := h.ext (same_upd (u := .lst xs) hp)
  obtain ⟨f1, f2, f3⟩ := h.fresh0 hp
  exact {
    mr := ⟨g.mr.sub, fun c u q => by
        by_cases hc : c = p
        · subst hc; rw [updM_same] at q; cases q; exact ⟨xs, upd_same, r⟩
        · rw [updM_ne hc] at q; exact g.mr.mh c u q, fun c q => by
        by_cases hc : c = p
        · subst hc; exact f1
        · rw [updM_ne hc] at q; exact h.mr.fm c q, g.mr.tb, h.mr.ft⟩
    len := h.len
    sl := fun j s q => by
      have z := g.sl j s q
      cases s with
      | no => trivial
      | val d => exact z
      | own o =>
        obtain ⟨c, z1, z2, z3, z4, z5⟩ := z
        obtain ⟨c', z1', z2', _⟩ := h.slo q
        have : c' = c := by rw [z1] at z1'; simpa using z1'.symm
        subst this
        have hc : c' ≠ p := fun w => z2'.ex (by rw [w]; exact hp)
        exact ⟨c', z1, z2, z3, z4, by rw [updM_ne hc]; exact z5⟩
    dist := h.dist
    f0 := h.f0
    new := h.new
    old := g.old
    there := g.there
    md := fun c q => by
      by_cases hc : c = p
      · subst hc; rw [updM_same]; exact fun z => nomatch z
      · rw [updM_ne hc]; exact h.md c q
    mn := fun c q n => by
      by_cases hc : c = p
      · subst hc; exact f2
      · rw [updM_ne hc] at q; exact h.mn c q n }
end
end Mi

set_option maxHeartbeats 2000000
/-! Mi3: the small machine: its text, what a text asks for (wp). -/
namespace Mi
open PySem PySem.Spec PyProof.Rows L2

/-! ### data -/
mutual
def Dat.py : Dat → PyData
  | .non => .none
  | .bl b => .bool b
  | .int i => .int i
  | .str s => .str s
  | .tup ds => .tuple (pyAll ds)
  | .lst ds => .list (pyAll ds)
  | _ => .none
def pyAll : List Dat → List PyData
  | [] => []
  | d :: ds => d.py :: pyAll ds
end
mutual
def Dat.plain : Dat → Bool
  | .non => true
  | .bl _ => true
  | .int _ => true
  | .str _ => true
  | .tup ds => plainAll ds
  | .lst ds => plainAll ds
  | _ => false
def plainAll : List Dat → Bool
  | [] => true
  | d :: ds => d.plain && plainAll ds
end
mutual
def Dat.dep : Dat → Nat
  | .tup ds => 1 + depAll ds
  | .lst ds => 1 + depAll ds
  | _ => 0
def depAll : List Dat → Nat
  | [] => 0
  | d :: ds => max d.dep (depAll ds)
end
mutual
/-- == -/
def eqv : Dat → Dat → Bool
  | .non, .non => true
  | .bl a, .bl b => a == b
  | .bl a, .int j => (if a then 1 else 0) == j
  | .int i, .bl b => i == (if b then 1 else 0)
  | .int i, .int j => i == j
  | .str x, .str y => x == y
  | .lst xs, .lst ys => eqvAll xs ys
  | .tup xs, .tup ys => eqvAll xs ys
  | _, _ => false
def eqvAll : List Dat → List Dat → Bool
  | [], [] => true
  | x :: xs, y :: ys => eqv x y && eqvAll xs ys
  | _, _ => false
end

def Dat.flat : Dat → Bool
  | .non => true
  | .bl _ => true
  | .int _ => true
  | .str _ => true
  | _ => false

def eqD (a b : Dat) : Option Bool := if a.plain && b.plain && decide (min a.dep b.dep ≤ 60) then some (eqv a b) else none

def mulOk (i j : Int) : Bool := decide ((-(2 ^ 64) < i ∧ i < 2 ^ 64) ∨ (-(2 ^ 64) < j ∧ j < 2 ^ 64) ∨ i.natAbs.log2 + j.natAbs.log2 < 1000000)

def addD : Dat → Dat → Option Rv
  | .int i, .int j => some (.val (.int (i + j)))
  | .str s, .str t => if s.length + t.length ≤ sizeLine then some (.val (.str (s ++ t))) else none
  | .tup s, .tup t => if s.length + t.length ≤ sizeLine then some (.val (.tup (s ++ t))) else none
  | .lst s, .lst t => if s.length + t.length ≤ sizeLine then some (.own (.lst (s ++ t))) else none
  | _, _ => none
def subD : Dat → Dat → Option Rv
  | .int i, .int j => some (.val (.int (i - j)))
  | _, _ => none
def mulD : Dat → Dat → Option Rv
  | .int i, .int j => if mulOk i j then some (.val (.int (i * j))) else none
  | .tup s, .int k => if k ≤ 1000 ∧ -1000 ≤ k ∧ s.length ≤ 1000 then some (.val (.tup (List.replicate k.toNat s).flatten)) else none
  | .lst s, .int k => if k ≤ 1000 ∧ -1000 ≤ k ∧ s.length ≤ 1000 then some (.own (.lst (List.replicate k.toNat s).flatten)) else none
  | _, _ => none
def fdivD : Dat → Dat → Option Rv
  | .int i, .int j => if 0 < j ∧ j.natAbs.log2 < 9000 then some (.val (.int (i / j))) else none
  | _, _ => none
def modD : Dat → Dat → Option Rv
  | .int i, .int j => if 0 < j then some (.val (.int (i % j))) else none
  | _, _ => none
def powD : Dat → Dat → Option Rv
  | .int i, .int j => if 0 ≤ j ∧ j ≤ 1000000 ∧ i.natAbs < 2 ^ 64 then some (.val (.int (i ^ j.toNat))) else none
  | _, _ => none
def binD (op : Operator) (a b : Dat) : Option Rv := match op with
  | .Add => addD a b
  | .Sub => subD a b
  | .Mult => mulD a b
  | .FloorDiv => fdivD a b
  | .Mod => modD a b
  | .Pow => powD a b
  | _ => none

/-- a text of one sign in a text; an item in a list or a tuple -/
def inD : Dat → Dat → Option Bool
  | .str c, .str s => if c.length = 1 ∧ s.length ≤ sizeLine then some (decide (c.cps.getD 0 0 ∈ s.cps.toList)) else none
  | d, .tup ds => if d.plain && plainAll ds && decide (d.dep ≤ 60) then some (ds.any fun y => eqv y d) else none
  | d, .lst ds => if d.plain && plainAll ds && decide (d.dep ≤ 60) then some (ds.any fun y => eqv y d) else none
  | _, _ => none
def ordD (op : CmpOp) : Dat → Dat → Option Bool
  | .int i, .int j => match op with
    | .Lt => some (decide (i < j))
    | .LtE => some (decide (i ≤ j))
    | .Gt => some (decide (j < i))
    | .GtE => some (decide (j ≤ i))
    | _ => none
  | _, _ => none
def cmpD (op : CmpOp) (a b : Dat) : Option Bool := match op with
  | .Eq => eqD a b
  | .NotEq => (eqD a b).map not
  | .In => inD a b
  | .NotIn => (inD a b).map not
  | .Is => none
  | .IsNot => none
  | op => ordD op a b

/-- an item -/
def idxD (M : MH) : Dat → Dat → Option Dat
  | .tup ds, .int i => atI ds i
  | .lst ds, .int i => atI ds i
  | .str z, .int i => (atI z.cps.toList i).map fun c => .str ⟨#[c]⟩
  | .scr ns, .int i => (atI ns i).map fun n => .int n
  | .ref a, .int i => match M a with
    | some (.lst ds) => atI ds i
    | _ => none
  | _, _ => none
def cutD {α : Type} (xs : List α) (lo hi : Option Int) : List α := (xs.drop (HT.sIx xs.length 0 lo)).take (HT.sIx xs.length xs.length hi - HT.sIx xs.length 0 lo)
def slcD (lo hi : Option Int) : Dat → Option Rv
  | .tup ds => some (.val (.tup (cutD ds lo hi)))
  | .lst ds => some (.own (.lst (cutD ds lo hi)))
  | _ => none
def revD : Dat → Option Rv
  | .tup ds => some (.val (.tup ds.reverse))
  | .lst ds => some (.own (.lst ds.reverse))
  | _ => none
def intD : Dat → Option Int
  | .int i => some i
  | _ => none
def isNonD : Dat → Bool
  | .non => true
  | _ => false
def strD : Dat → Option Str
  | .str s => some s
  | _ => none
/-- a part of a slice -/
def partD : List Dat → Option (Option Int)
  | [] => some none
  | [.int i] => some (some i)
  | _ => none
def truD : Dat → Option Bool
  | .non => some false
  | .bl b => some b
  | .int i => some (i != 0)
  | .str s => some ((s.length : Int) != 0)
  | .tup ds => some (!ds.isEmpty)
  | .lst ds => some (!ds.isEmpty)
  | _ => none

/-- the types that isinstance asks for -/
inductive Ty where
  | int | bool | str | tuple | list
  deriving DecidableEq
def Ty.name : Ty → Str
  | .int => "int"
  | .bool => "bool"
  | .str => "str"
  | .tuple => "tuple"
  | .list => "list"
def isD (t : Ty) : Dat → Option Bool
  | .non => some false
  | .bl _ => some (decide (t = .int) || decide (t = .bool))
  | .int _ => some (decide (t = .int))
  | .str _ => some (decide (t = .str))
  | .tup _ => some (decide (t = .tuple))
  | .lst _ => some (decide (t = .list))
  | _ => none

/-- built-in functions -/
inductive Bf where
  | len | abs | int | bool | str | tuple | list | all | any | sum | max1
  deriving DecidableEq
def Bf.name : Bf → Str
  | .len => "len"
  | .abs => "abs"
  | .int => "int"
  | .bool => "bool"
  | .str => "str"
  | .tuple => "tuple"
  | .list => "list"
  | .all => "all"
  | .any => "any"
  | .sum => "sum"
  | .max1 => "max"
inductive Bf2 where
  | max | min
  deriving DecidableEq
def Bf2.name : Bf2 → Str
  | .max => "max"
  | .min => "min"
/-- sum(x, t) of tuples; sep.join(x); s.split(sep); l.index(v) -/
inductive Op2 where
  | sumT | join | split | index
  deriving DecidableEq
def tupsD : List Dat → Option (List (List Dat))
  | [] => some []
  | .tup l :: ds => (tupsD ds).map (l :: ·)
  | _ => none
def strsD : List Dat → Option (List Str)
  | [] => some []
  | .str l :: ds => (strsD ds).map (l :: ·)
  | _ => none
/-- the receiver's type -/
def recB : Op2 → Dat → Bool
  | .sumT, _ => true
  | .join, .str _ => true
  | .split, .str _ => true
  | .index, .lst _ => true
  | _, _ => false
def itemsD : Dat → Option (List Dat)
  | .tup ds => some ds
  | .lst ds => some ds
  | _ => none
def tupD : Dat → Option (List Dat)
  | .tup ds => some ds
  | _ => none
def sumTD (d e : Dat) : Option Rv := match itemsD d, tupD e with
  | some ds, some zs => (tupsD ds).bind fun yss => if zs.length + yss.flatten.length ≤ sizeLine then some (.val (.tup (zs ++ yss.flatten))) else none
  | _, _ => none
def joinD (d e : Dat) : Option Rv := match d, itemsD e with
  | .str a, some ds => (strsD ds).bind fun ys => if (ys.map (·.length)).sum + ys.length * a.length ≤ sizeLine then some (.val (.str (Txt.join a ys))) else none
  | _, _ => none
def splitD : Dat → Dat → Option Rv
  | .str a, .str b => if 0 < b.length ∧ a.length + 2 ≤ sizeLine ∧ ∀ s ∈ Txt.split a b, s.length ≤ sizeLine then some (.own (.lst ((Txt.split a b).map Dat.str))) else none
  | _, _ => none
/-- data that is laid anywhere -/
def okIx (d : Dat) : Bool := d.plain && SeqAt.shaped d.py
def indexD : Dat → Dat → Option Rv
  | .lst ds, d => if okIx (.lst ds) && okIx d then (ds.findIdx? fun y => eqv y d).map fun j => .val (.int (j : Nat)) else none
  | _, _ => none
def op2D : Op2 → Dat → Dat → Option Rv
  | .sumT => sumTD
  | .join => joinD
  | .split => splitD
  | .index => indexD
def blsD : List Dat → Option (List Bool)
  | [] => some []
  | .bl b :: ds => (blsD ds).map (b :: ·)
  | _ => none
def intsD : List Dat → Option (List Int)
  | [] => some []
  | .int b :: ds => (intsD ds).map (b :: ·)
  | _ => none
def callD (M : MH) (f : Bf) (d : Dat) : Option Rv := match f with
  | .len => match d with
    | .str s => some (.val (.int s.length))
    | .tup ds => some (.val (.int ds.length))
    | .lst ds => some (.val (.int ds.length))
    | .scr ns => some (.val (.int ns.length))
    | _ => none
  | .abs => match d with
    | .int i => some (.val (.int (if i < 0 then -i else i)))
    | _ => none
  | .int => match d with
    | .int i => some (.val (.int i))
    | .bl b => some (.val (.int (if b then 1 else 0)))
    | _ => none
  | .bool => match d with
    | .int i => some (.val (.bl (i != 0)))
    | .bl b => some (.val (.bl b))
    | _ => none
  | .str => match d with
    | .int i => if i.natAbs.log2 < 1920 then some (.val (.str (toString i))) else none
    | _ => none
  | .tuple => match d with
    | .tup ds => some (.val (.tup ds))
    | .lst ds => some (.val (.tup ds))
    | _ => none
  | .list => match d with
    | .tup ds => some (.own (.lst ds))
    | .lst ds => some (.own (.lst ds))
    | _ => none
  | .all => match d with
    | .lst ds => (blsD ds).map fun bs => .val (.bl (bs.all id))
    | _ => none
  | .any => match d with
    | .lst ds => (blsD ds).map fun bs => .val (.bl (bs.any id))
    | _ => none
  | .sum => match d with
    | .lst ds => (intsD ds).map fun ns => .val (.int ns.sum)
    | _ => none
  | .max1 => none
def call2D (f : Bf2) (a b : Dat) : Option Rv := match f, a, b with
  | .max, .int i, .int j => some (.val (.int (if j > i then j else i)))
  | .min, .int i, .int j => some (.val (.int (if j < i then j else i)))
  | _, _, _ => none

/-! ### the text -/
/-- a target: a name's place; a tuple of them -/
inductive Tg where
  | var (i : Nat) | tup (is : List Nat)
mutual
inductive E where
  | var (i : Nat)
  | cst (d : Dat)
  | glb (x : Str)
  | gfn (f : Str)
  | tup (es : Es) | lst (es : Es)
  /-- a list that gets a place of its own -/
  | bag (es : Es)
  | bin (op : Operator) (a b : E) | neg (a : E)
  | cmp (op : CmpOp) (a b : E) | isn (a : E) | isnn (a : E)
  | chn (op1 op2 : CmpOp) (a b c : E)
  | bop (op : PySem.BoolOp) (es : Es) | not (a : E)
  | ite (c a b : E)
  | idx (a b : E) | slc (a : E) (lo hi : Es) | rev (a : E)
  | call (f : Str) (es : Es)
  | callv (i : Nat) (es : Es)
  | bf (f : Bf) (a : E) | bf2 (f : Bf2) (a b : E)
  | op2 (o : Op2) (a b : E)
  | isi (a : E) (t : Ty)
  /-- {k: v, ..}.get(key, x), the keys texts, the values constants -/
  | dget (ks : List Str) (vs : List Dat) (key x : E)
  /-- the same, the values expressions -/
  | dgetE (ks : List Str) (vs : Es) (key x : E)
  /-- TABLE.get(key, x) -/
  | gget (t : Str) (key x : E)
  | lc (elt : E) (gs : Gs) (own : List Nat)
  /-- _law_call(lambda: e); fz: places whose lists are kept from now on -/
  | lcall (fz : List Nat) (e : E)
inductive Es where
  | nil | cons (e : E) (es : Es)
/-- what is walked -/
inductive It where
  | seq (e : E) | rng (es : Es) | zip (es : Es)
inductive Gs where
  | nil | cons (t : Tg) (it : It) (ifs : Es) (gs : Gs)
end
mutual
inductive S where
  | asg (i : Nat) (e : E)
  /-- x, y = e, f -/
  | asgL (is : List Nat) (es : Es)
  /-- x, y = e -/
  | asgU (is : List Nat) (e : E)
  /-- x[k] = e -/
  | asgIx (i : Nat) (k e : E)
  /-- x[k], x[l] = e -/
  | asgI2 (i : Nat) (k l e : E)
  | app (i : Nat) (e : E)
  /-- x.extend(e) -/
  | ext (i : Nat) (e : E)
  | exp (e : E)
  | ife (c : E) (a b : Ss)
  | for_ (t : Tg) (it : It) (b : Ss)
  | whl (c : E) (b : Ss)
  | ret (e : E) | retN
  | rai (c : Str) (es : Es)
  | pas
  /-- a statement that is never come to -/
  | nev
inductive Ss where
  | nil | cons (s : S) (ss : Ss)
end

/-- one written text -/
def Es.isTx : Es → Bool
  | .cons (.cst (.str _)) .nil => true
  | _ => false

/-! ### wp -/
/-- of something that is there -/
def oP {α : Type} (o : Option α) (k : α → Prop) : Prop := match o with
  | some a => k a
  | none => False
theorem oP_some {α : Type} {a : α} {k : α → Prop} : oP (some a) k = k a := rfl
theorem oP_none {α : Type} {k : α → Prop} : oP none k = False := rfl
theorem oP_of {α : Type} {o : Option α} {k : α → Prop} (h : oP o k) : ∃ a, o = some a ∧ k a := by
  cases o with
  | none => exact h.elim
  | some a => exact ⟨a, rfl, h⟩
theorem oP_in {α : Type} {o : Option α} {k : α → Prop} {a : α} (h : o = some a) (h2 : k a) : oP o k := by rw [h]; exact h2

def slD : Sl → Option Dat
  | .no => none
  | .val d => some d
  | .own o => some o.dat
def peek (r : Rv) (ρ : Env) : Option Dat := match r with
  | .val d => some d
  | .own o => some o.dat
  | .bor i => match ρ[i]? with
    | some s => slD s
    | none => none
/-- what a result is to those that keep it: the place that holds it alone does so no longer -/
def escD (r : Rv) (ρ : Env) : Option (Dat × Env) := match r with
  | .val d => some (d, ρ)
  | .own o => some (o.dat, ρ)
  | .bor i => match ρ[i]? with
    | some (.val d) => some (d, ρ)
    | some (.own o) => some (o.dat, ρ.set i (.val o.dat))
    | _ => none
/-- what a place gets of a result -/
def takeD (r : Rv) (ρ : Env) : Option (Sl × Env) := match r with
  | .own o => some (.own o, ρ)
  | r => match escD r ρ with
    | some (d, ρ') => some (.val d, ρ')
    | none => none

/-- a place that has something -/
def hasB (ρ : Env) (i : Nat) : Bool := match ρ[i]? with
  | some (.val _) => true
  | some (.own _) => true
  | _ => false
/-- a place that has a list that may be written -/
def hasL (ρ : Env) (M : MH) (i : Nat) : Bool := match ρ[i]? with
  | some (.own (.lst _)) => true
  | some (.val (.ref a)) => match M a with
    | some (.lst _) => true
    | _ => false
  | _ => false
/-- x[n] = v -/
def setAt (ρ : Env) (M : MH) (i : Nat) (n : Int) (v : Dat) : Option (Env × MH) := match ρ[i]? with
  | some (.own (.lst ds)) => (ixN ds.length n).map fun j => (ρ.set i (.own (.lst (ds.set j v))), M)
  | some (.val (.ref a)) => match M a with
    | some (.lst ds) => (ixN ds.length n).map fun j => (ρ, updM M a (.lst (ds.set j v)))
    | _ => none
  | _ => none
/-- x.append(v) -/
def appAt (ρ : Env) (M : MH) (i : Nat) (v : Dat) : Option (Env × MH) := match ρ[i]? with
  | some (.own (.lst ds)) => if ds.length < sizeLine then some (ρ.set i (.own (.lst (ds ++ [v]))), M) else none
  | some (.val (.ref a)) => match M a with
    | some (.lst ds) => if ds.length < sizeLine then some (ρ, updM M a (.lst (ds ++ [v]))) else none
    | _ => none
  | _ => none
/-- x.extend(v) -/
def extAt (ρ : Env) (M : MH) (i : Nat) (v : Dat) : Option (Env × MH) := match v, ρ[i]? with
  | .lst zs, some (.own (.lst ds)) => if ds.length + zs.length ≤ sizeLine then some (ρ.set i (.own (.lst (ds ++ zs))), M) else none
  | _, _ => none
/-- a call's promise: what it takes that a wish comes true -/
abbrev Spec := List Dat → MH → (Rv → MH → Prop) → (Exc → MH → Prop) → Prop
/-- what a text knows of others: the defs that it calls; the error classes that it raises, with the name of their attribute -/
structure Kn where
  fn : Str → Option Spec
  exc : Str → Option (Option Str)
  /-- the module's constants; its tables with text keys -/
  gl : Str → Option Dat := fun _ => none
  tab : Str → Option (List (Str × Dat)) := fun _ => none
  /-- how an error class is told, with its attribute -/
  kd : Str → Option (Str × Option Str) := fun _ => none
abbrev PE_ := Rv → Env → MH → Prop
abbrev PX := Exc → MH → Prop
abbrev PA_ := List Dat → Env → MH → Prop

def wipeE (ρ : Env) : List Nat → Env
  | [] => ρ
  | v :: vs => (wipeE ρ vs).set v .no

def setAll (ρ : Env) : List (Nat × Sl) → Env
  | [] => ρ
  | p :: ps => setAll (ρ.set p.1 p.2) ps
def tgtF (t : Tg) (d : Dat) (ρ : Env) : Option Env := match t with
  | .var i => some (ρ.set i (.val d))
  | .tup is => match d with
    | .tup ds => if is.length = ds.length then some (setAll ρ (is.zip (ds.map Sl.val))) else none
    | _ => none
def Tg.ix : Tg → List Nat
  | .var i => [i]
  | .tup is => is
def Gs.ix : Gs → List Nat
  | .nil => []
  | .cons t _ _ _ => t.ix
def noOwn (ρ : Env) (own : List Nat) : Bool := own.all fun i => match ρ[i]? with
  | some .no => true
  | some (.val _) => true
  | _ => false

def rngD : List Dat → Option (Int × Nat)
  | [.int j] => if -(2 ^ 62) ≤ j ∧ j < 2 ^ 62 then some (0, j.toNat) else none
  | [.int i, .int j] => if -(2 ^ 62) ≤ i ∧ i < 2 ^ 62 ∧ -(2 ^ 62) ≤ j ∧ j < 2 ^ 62 then some (i, (j - i).toNat) else none
  | _ => none
def rngL (lo : Int) (n : Nat) : List Dat := (List.range n).map fun (i : Nat) => .int (lo + (i : Int))
def seqD : Dat → Option (List Dat)
  | .tup ds => some ds
  | .lst ds => some ds
  | _ => none
def zipL : List Dat → List Dat → List Dat
  | a :: as, b :: bs => .tup [a, b] :: zipL as bs
  | _, _ => []

/-- what zip walks: two tuples, two lists -/
def zipD : List Dat → Option (List Dat)
  | [.tup as, .tup bs] => some (zipL as bs)
  | [.lst as, .lst bs] => some (zipL as bs)
  | _ => none

/-- a clause's walk: its body goes on with the list so far -/
def lcOut (body : Dat → List Dat → MH → (List Dat → MH → Prop) → Prop) : List Dat → List Dat → MH → (List Dat → MH → Prop) → Prop
  | [], acc, M, P => P acc M
  | d :: ds, acc, M, P => body d acc M fun acc1 M1 => lcOut body ds acc1 M1 P

/-- what is walked of a result; fz: the place that holds it alone does so no longer -/
def itD (fz : Bool) (r : Rv) (ρ : Env) : Option (List Dat × Env) := match fz with
  | true => match escD r ρ with
    | some (d, ρ') => (seqD d).map fun ds => (ds, ρ')
    | none => none
  | false => match peek r ρ with
    | some d => (seqD d).map fun ds => (ds, ρ)
    | none => none

/-- a place's list is kept from now on -/
def frzE (ρ : Env) : List Nat → Env
  | [] => ρ
  | i :: is => frzE (match ρ[i]? with | some (.own o) => ρ.set i (.val o.dat) | _ => ρ) is
/-- what a lambda sees -/
def lamE (ρ : Env) : Env := ρ.map fun s => match s with | .own _ => .no | s => s
/-- an error, told -/
def toldX (kd : Str → Option (Str × Option Str)) (x : Exc) : Option Dat := match kd x.cls, x.att with
  | some (t, none), none => some (.tup [.str t])
  | some (t, some n), some (m, d) => if n = m then some (.tup [.str t, d]) else none
  | _, _ => none
def getS (f : Str) (l : List (Str × Dat)) : Option Dat := match l with
  | [] => none
  | (k, d) :: r => if f = k then some d else getS f r

section
variable (Γ : Kn)
mutual
def wpE (X : PX) : E → Env → MH → PE_ → Prop
  | .var i, ρ, M, P => match ρ[i]? with
    | some (.val d) => P (.val d) ρ M
    | some (.own _) => P (.bor i) ρ M
    | _ => False
  | .cst d, ρ, M, P => P (.val d) ρ M
  | .glb x, ρ, M, P => oP (Γ.gl x) fun d => P (.val d) ρ M
  | .gfn f, ρ, M, P => oP (Γ.fn f) fun _ => P (.val (.fn f)) ρ M
  | .tup es, ρ, M, P => wpEs X es ρ M fun ds ρ M => P (.val (.tup ds)) ρ M
  | .lst es, ρ, M, P => wpEs X es ρ M fun ds ρ M => P (.own (.lst ds)) ρ M
  | .bag es, ρ, M, P => wpEs X es ρ M fun ds ρ M => ∀ a, M a = none → P (.val (.ref a)) ρ (updM M a (.lst ds))
  | .bin op a b, ρ, M, P => wpE X a ρ M fun r ρ M => wpE X b ρ M fun q ρ M => oP (peek r ρ) fun d => oP (peek q ρ) fun e => oP (binD op d e) fun z => P z ρ M
  | .neg a, ρ, M, P => wpE X a ρ M fun r ρ M => oP (peek r ρ) fun d => oP (intD d) fun i => P (.val (.int (-i))) ρ M
  | .cmp op a b, ρ, M, P => wpE X a ρ M fun r ρ M => wpE X b ρ M fun q ρ M => oP (peek r ρ) fun d => oP (peek q ρ) fun e => oP (cmpD op d e) fun z => P (.val (.bl z)) ρ M
  | .isn a, ρ, M, P => wpE X a ρ M fun r ρ M => oP (peek r ρ) fun d => P (.val (.bl (isNonD d))) ρ M
  | .isnn a, ρ, M, P => wpE X a ρ M fun r ρ M => oP (peek r ρ) fun d => P (.val (.bl (!isNonD d))) ρ M
  | .chn op1 op2 a b c, ρ, M, P => wpE X a ρ M fun r ρ M => wpE X b ρ M fun q ρ M => oP (peek r ρ) fun d => oP (peek q ρ) fun e => oP (cmpD op1 d e) fun z => match z with
    | false => P (.val (.bl false)) ρ M
    | true => wpE X c ρ M fun t ρ M => oP (peek q ρ) fun e => oP (peek t ρ) fun g => oP (cmpD op2 e g) fun z => P (.val (.bl z)) ρ M
  | .bop op es, ρ, M, P => wpB X op es ρ M P
  | .not a, ρ, M, P => wpE X a ρ M fun r ρ M => oP (peek r ρ) fun d => oP (truD d) fun z => P (.val (.bl (!z))) ρ M
  | .ite c a b, ρ, M, P => wpE X c ρ M fun r ρ M => oP (peek r ρ) fun d => oP (truD d) fun z => match z with
    | true => wpE X a ρ M P
    | false => wpE X b ρ M P
  | .idx a b, ρ, M, P => wpE X a ρ M fun r ρ M => wpE X b ρ M fun q ρ M => oP (peek r ρ) fun d => oP (peek q ρ) fun e => oP (idxD M d e) fun z => P (.val z) ρ M
  | .slc a lo hi, ρ, M, P => wpE X a ρ M fun r ρ M => wpEs X lo ρ M fun ls ρ M => oP (partD ls) fun lo => wpEs X hi ρ M fun hs ρ M => oP (partD hs) fun hi => oP (peek r ρ) fun d => oP (slcD lo hi d) fun z => P z ρ M
  | .rev a, ρ, M, P => wpE X a ρ M fun r ρ M => oP (peek r ρ) fun d => oP (revD d) fun z => P z ρ M
  | .call f es, ρ, M, P => oP (Γ.fn f) fun S => wpEs X es ρ M fun ds ρ M => ∃ Q0, S ds M Q0 X ∧ ∀ r M', Q0 r M' → P r ρ M'
  | .callv i es, ρ, M, P => match ρ[i]? with
    | some (.val (.fn f)) => oP (Γ.fn f) fun S => wpEs X es ρ M fun ds ρ M => ∃ Q0, S ds M Q0 X ∧ ∀ r M', Q0 r M' → P r ρ M'
    | _ => False
  | .bf f a, ρ, M, P => wpE X a ρ M fun r ρ M => oP (peek r ρ) fun d => oP (callD M f d) fun z => P z ρ M
  | .bf2 f a b, ρ, M, P => wpE X a ρ M fun r ρ M => wpE X b ρ M fun q ρ M => oP (peek r ρ) fun d => oP (peek q ρ) fun e => oP (call2D f d e) fun z => P z ρ M
  | .op2 o a b, ρ, M, P => wpE X a ρ M fun r ρ M => oP (peek r ρ) fun d0 => recB o d0 = true ∧ wpE X b ρ M fun q ρ M => oP (peek r ρ) fun d => oP (peek q ρ) fun e => oP (op2D o d e) fun z => P z ρ M
  | .isi a t, ρ, M, P => wpE X a ρ M fun r ρ M => oP (peek r ρ) fun d => oP (isD t d) fun z => P (.val (.bl z)) ρ M
  | .dget ks ds key x, ρ, M, P => wpE X key ρ M fun r ρ M => wpE X x ρ M fun q ρ M => oP (escD q ρ) fun p => oP (peek r p.2) fun d => oP (strD d) fun s => P (.val ((getS s (ks.zip ds)).getD p.1)) p.2 M
  | .dgetE ks vs key x, ρ, M, P => wpEs X vs ρ M fun ds ρ M => wpE X key ρ M fun r ρ M => wpE X x ρ M fun q ρ M => oP (escD q ρ) fun p => oP (peek r p.2) fun d => oP (strD d) fun s => P (.val ((getS s (ks.zip ds)).getD p.1)) p.2 M
  | .gget t key x, ρ, M, P => oP (Γ.tab t) fun tab => wpE X key ρ M fun r ρ M => wpE X x ρ M fun q ρ M => oP (escD q ρ) fun p => oP (peek r p.2) fun d => oP (strD d) fun s => P (.val ((getS s tab).getD p.1)) p.2 M
  | .lc elt gs own, ρ, M, P => wpG (fun _ _ => False) (fun ρ M k => wpE (fun _ _ => False) elt ρ M fun r ρ4 M => oP (escD r ρ4) fun p => p.2 = ρ ∧ k p.1 M) gs own ρ [] M fun acc M => P (.own (.lst acc)) ρ M
  | .lcall fz e, ρ, M, P => ∃ P0 : Dat → MH → Prop, wpE (fun x M => oP (toldX Γ.kd x) fun d => P0 d M) e (lamE (frzE ρ fz)) M (fun r ρ' M => oP (escD r ρ') fun p => P0 (.tup [.str "told", p.1]) M) ∧ ∀ d M, P0 d M → P (.val d) (frzE ρ fz) M
def wpEs (X : PX) : Es → Env → MH → PA_ → Prop
  | .nil, ρ, M, P => P [] ρ M
  | .cons e es, ρ, M, P => wpE X e ρ M fun r ρ M => oP (escD r ρ) fun p => wpEs X es p.2 M fun ds ρ M => P (p.1 :: ds) ρ M
/-- and, or: the value of the last that is looked at -/
def wpB (X : PX) (op : PySem.BoolOp) : Es → Env → MH → PE_ → Prop
  | .nil, _, _, _ => False
  | .cons e .nil, ρ, M, P => wpE X e ρ M P
  | .cons e (.cons e2 es), ρ, M, P => wpE X e ρ M fun r ρ M => oP (peek r ρ) fun d => oP (truD d) fun z => match op, z with
    | .And, true => wpB X op (.cons e2 es) ρ M P
    | .Or, false => wpB X op (.cons e2 es) ρ M P
    | _, _ => P r ρ M
def wpIt (X : PX) (fz : Bool) : It → Env → MH → PA_ → Prop
  | .seq e, ρ, M, P => wpE X e ρ M fun r ρ M => oP (itD fz r ρ) fun p => P p.1 p.2 M
  | .rng es, ρ, M, P => wpEs X es ρ M fun ds ρ M => oP (rngD ds) fun p => P (rngL p.1 p.2) ρ M
  | .zip es, ρ, M, P => wpEs X es ρ M fun ds ρ M => oP (zipD ds) fun l => P l ρ M
/-- all tests hold -/
def wpIf (X : PX) : Es → Env → MH → (Bool → Env → MH → Prop) → Prop
  | .nil, ρ, M, P => P true ρ M
  | .cons e es, ρ, M, P => wpE X e ρ M fun r ρ M => oP (peek r ρ) fun d => oP (truD d) fun z => match z with
    | true => wpIf X es ρ M P
    | false => P false ρ M
/-- the clauses from one on: acc the list so far; own: the places of the block's names; the places outside stay -/
def wpG (X : PX) (bd : Env → MH → (Dat → MH → Prop) → Prop) : Gs → List Nat → Env → List Dat → MH → (List Dat → MH → Prop) → Prop
  | .nil, _, ρ, acc, M, P => bd ρ M fun v M => acc.length < sizeLine ∧ P (acc ++ [v]) M
  | .cons t it ifs gs, own, ρ, acc, M, P => noOwn ρ own = true ∧ wpIt X false it ρ M fun ds ρ1 M => ρ1 = ρ ∧ lcOut (fun d acc M k => oP (tgtF t d (wipeE ρ own)) fun ρ2 => wpIf X ifs ρ2 M fun b ρ3 M => ρ3 = ρ2 ∧ match b with
      | true => wpG X bd gs gs.ix ρ2 acc M k
      | false => k acc M) ds acc M P
end
/-- what a place each gets of results, from the left -/
def wpEr (X : PX) : Es → Env → MH → (List Sl → Env → MH → Prop) → Prop
  | .nil, ρ, M, P => P [] ρ M
  | .cons e es, ρ, M, P => wpE Γ X e ρ M fun r ρ M => oP (takeD r ρ) fun p => wpEr X es p.2 M fun ss ρ M => P (p.1 :: ss) ρ M
end
/-- what is wanted behind a statement -/
structure Dm where
  nx : Env → MH → Prop
  rt : Rv → MH → Prop
  bk : Env → MH → Prop := fun _ _ => False
  ct : Env → MH → Prop := fun _ _ => False
/-- what leaves a def -/
def takeR (r : Rv) (ρ : Env) : Option Rv := match r with
  | .bor i => match ρ[i]? with
    | some (.own o) => some (.own o)
    | some (.val d) => some (.val d)
    | _ => none
  | r => some r
def forLoop (body : Dat → Env → MH → Dm → Prop) : List Dat → Env → MH → Dm → Prop
  | [], ρ, M, D => D.nx ρ M
  | d :: ds, ρ, M, D => body d ρ M { D with nx := fun ρ M => forLoop body ds ρ M D, ct := fun ρ M => forLoop body ds ρ M D, bk := D.nx }
section
variable (Γ : Kn) (X : PX)
mutual
def wpS : S → Env → MH → Dm → Prop
  | .asg i e, ρ, M, D => wpE Γ X e ρ M fun r ρ M => oP (takeD r ρ) fun p => D.nx (p.2.set i p.1) M
  | .asgL is es, ρ, M, D => wpEr Γ X es ρ M fun ss ρ M => is.length = ss.length ∧ D.nx (setAll ρ (is.zip ss)) M
  | .asgU is e, ρ, M, D => wpE Γ X e ρ M fun r ρ M => oP (peek r ρ) fun d => oP (tgtF (.tup is) d ρ) fun ρ => D.nx ρ M
  | .asgIx i k e, ρ, M, D => wpE Γ X e ρ M fun r ρ M => oP (escD r ρ) fun p => hasB p.2 i = true ∧ wpE Γ X k p.2 M fun q ρ M => oP (peek q ρ) fun kd => oP (intD kd) fun n => oP (setAt ρ M i n p.1) fun z => D.nx z.1 z.2
  | .asgI2 i k l e, ρ, M, D => wpE Γ X e ρ M fun r ρ M => oP (peek r ρ) fun d => match d with
    | .tup [d1, d2] => hasB ρ i = true ∧ wpE Γ X k ρ M fun q ρ M => oP (peek q ρ) fun kd => oP (intD kd) fun n => oP (setAt ρ M i n d1) fun z => hasB z.1 i = true ∧ wpE Γ X l z.1 z.2 fun q ρ M => oP (peek q ρ) fun kd => oP (intD kd) fun n => oP (setAt ρ M i n d2) fun z => D.nx z.1 z.2
    | _ => False
  | .app i e, ρ, M, D => hasL ρ M i = true ∧ wpE Γ X e ρ M fun r ρ M => oP (escD r ρ) fun p => oP (appAt p.2 M i p.1) fun z => D.nx z.1 z.2
  | .ext i e, ρ, M, D => hasL ρ M i = true ∧ wpE Γ X e ρ M fun r ρ M => oP (escD r ρ) fun p => oP (extAt p.2 M i p.1) fun z => D.nx z.1 z.2
  | .exp e, ρ, M, D => wpE Γ X e ρ M fun _ ρ M => D.nx ρ M
  | .ife c a b, ρ, M, D => wpE Γ X c ρ M fun r ρ M => oP (peek r ρ) fun d => oP (truD d) fun z => match z with
    | true => wpSs a ρ M D
    | false => wpSs b ρ M D
  | .for_ t it b, ρ, M, D => wpIt Γ X true it ρ M fun ds ρ M => forLoop (fun d ρ M D => oP (tgtF t d ρ) fun ρ => wpSs b ρ M D) ds ρ M D
  | .whl c b, ρ, M, D => ∃ I : Nat → Env → MH → Prop, (∃ n, I n ρ M) ∧ ∀ n ρ M, I n ρ M → wpE Γ X c ρ M fun r ρ M => oP (peek r ρ) fun d => oP (truD d) fun z => match z with
    | true => wpSs b ρ M { D with nx := fun ρ M => ∃ m, m < n ∧ I m ρ M, ct := fun ρ M => ∃ m, m < n ∧ I m ρ M, bk := D.nx }
    | false => D.nx ρ M
  | .ret e, ρ, M, D => wpE Γ X e ρ M fun r ρ M => oP (takeR r ρ) fun q => D.rt q M
  | .retN, _, M, D => D.rt (.val .non) M
  | .rai c es, ρ, M, _ => oP (Γ.exc c) fun at_ => match at_ with
    | none => es.isTx = true ∧ X ⟨c, none⟩ M
    | some a => wpEs Γ X es ρ M fun ds _ M => match ds with
      | [d] => X ⟨c, some (a, d)⟩ M
      | _ => False
  | .pas, ρ, M, D => D.nx ρ M
  | .nev, _, _, _ => False
def wpSs : Ss → Env → MH → Dm → Prop
  | .nil, ρ, M, D => D.nx ρ M
  | .cons s ss, ρ, M, D => wpS s ρ M { D with nx := fun ρ M => wpSs ss ρ M D }
end
end
/-- a def's places at its entry: n names, the parameters first -/
def startE (n : Nat) (ds : List Dat) : Env := ds.map Sl.val ++ List.replicate (n - ds.length) Sl.no
/-- a def's body keeps its promise -/
def Keeps (Γ : Kn) (n np : Nat) (body : Ss) (Sx : Spec) : Prop := ∀ ds M Q X, Sx ds M Q X → ds.length = np ∧
  wpSs Γ X body (startE n ds) M { nx := fun _ M' => Q (.val .non) M', rt := Q }
end Mi

set_option maxHeartbeats 4000000
/-! Mi4: operations on values. -/
namespace Mi
open PySem PySem.Spec PyProof.Rows L2

/-- data that is read: also what a place holds alone -/
def RepB (K : PySem.W.Frag) (mg : Str → Option Value) (F H : Hp) : Dat → V → Prop
  | .lst ds, v => ∃ a xs, v = .ref a ∧ H a = some (.lst xs) ∧ Reps K mg F ds xs
  | d, v => Rep K mg F d v
section
variable {K : PySem.W.Frag} {mg : Str → Option Value} {F F' H H' : Hp}
theorem RepB.of {d : Dat} {v : V} (h : Rep K mg F d v) (e : Same F H) : RepB K mg F H d v := by
  cases d with
  | lst ds => obtain ⟨a, xs, e1, h1, h2⟩ := rep_lst.mp h; exact ⟨a, xs, e1, e _ _ h1, h2⟩
  | _ => exact h
theorem RepB.ofOwn {o : Own} {a : Addr} (h : OwnR K mg F H o a) : RepB K mg F H o.dat (.ref a) := by
  cases o with
  | lst ds => obtain ⟨xs, h1, h2⟩ := h; exact ⟨a, xs, rfl, h1, h2⟩
theorem RepB.mono {d : Dat} {v : V} (h : RepB K mg F H d v) (e : Same F F') (e2 : Same H H') : RepB K mg F' H' d v := by
  cases d with
  | lst ds => obtain ⟨a, xs, e1, h1, h2⟩ := h; exact ⟨a, xs, e1, e2 _ _ h1, h2.mono e⟩
  | _ => exact Rep.mono e h
theorem RepB.rep {d : Dat} {v : V} (h : RepB K mg F H d v) (n : ∀ ds, d ≠ .lst ds) : Rep K mg F d v := by
  cases d with
  | lst ds => exact absurd rfl (n ds)
  | _ => exact h
theorem repB_int {K mg} {F H : Hp} {i : Int} {v : V} : RepB K mg F H (.int i) v ↔ v = .int i := by show Rep _ _ _ _ _ ↔ _; exact rep_int
theorem repB_bl {K mg} {F H : Hp} {i : Bool} {v : V} : RepB K mg F H (.bl i) v ↔ v = .bl i := by show Rep _ _ _ _ _ ↔ _; exact rep_bl
theorem repB_non {K mg} {F H : Hp} {v : V} : RepB K mg F H .non v ↔ v = .non := by show Rep _ _ _ _ _ ↔ _; exact rep_non
theorem repB_str {K mg} {F H : Hp} {s : Str} {v : V} : RepB K mg F H (.str s) v ↔ (v = .str s ∧ s.length ≤ sizeLine) := by show Rep _ _ _ _ _ ↔ _; exact rep_str
theorem repB_tup {K mg} {F H : Hp} {ds : List Dat} {v : V} : RepB K mg F H (.tup ds) v ↔ ∃ a xs, v = .ref a ∧ SqT K F a xs ∧ Reps K mg F ds xs := by show Rep _ _ _ _ _ ↔ _; exact rep_tup
theorem repB_ref {K mg} {F H : Hp} {a : Addr} {v : V} : RepB K mg F H (.ref a) v ↔ v = .ref a := by show Rep _ _ _ _ _ ↔ _; exact rep_ref
end

/-- nothing changed, or a new known object -/
def Fz (F H F' H' : Hp) : Prop := (F' = F ∧ H' = H) ∨ ∃ p u, H p = none ∧ F' = upd F p u ∧ H' = upd H p u
theorem Fz.refl (F H : Hp) : Fz F H F H := .inl ⟨rfl, rfl⟩
theorem Fz.new {F H : Hp} {p : Addr} {u : HO} (h : H p = none) : Fz F H (upd F p u) (upd H p u) := .inr ⟨p, u, h, rfl, rfl⟩
theorem Fz.R {C : Gh} {F F' : Hp} {ρ : Env} {M : MH} {σ : St} {H H' : Hp} (z : Fz F H F' H') (h : R C F ρ M σ H) : Same F F' ∧ R C F' ρ M σ H' := by
  rcases z with ⟨rfl, rfl⟩ | ⟨p, u, hp, rfl, rfl⟩
  · exact ⟨Same.refl _, h⟩
  · exact ⟨same_upd (h.fresh0 hp).1, h.froz hp⟩
/-- what is wanted of a result, by values -/
def ResQ (K : PySem.W.Frag) (mg : Str → Option Value) (F H : Hp) (z : Rv) (Q : VK) : Prop := match z with
  | .val d => ∀ F' x H', Fz F H F' H' → Rep K mg F' d x → Q x H'
  | .own (.lst ds) => ∀ p xs, H p = none → Reps K mg F ds xs → Q (.ref p) (upd H p (.lst xs))
  | .bor _ => False
section
variable {K : PySem.W.Frag} {mg : Str → Option Value} {F H : Hp} {Q : VK}
theorem ResQ.val {d : Dat} {x : V} (h : ResQ K mg F H (.val d) Q) (r : Rep K mg F d x) : Q x H := h F x H (Fz.refl _ _) r
theorem ResQ.int {i : Int} (h : ResQ K mg F H (.val (.int i)) Q) : Q (.int i) H := h.val (rep_int.mpr rfl)
theorem ResQ.bl {i : Bool} (h : ResQ K mg F H (.val (.bl i)) Q) : Q (.bl i) H := h.val (rep_bl.mpr rfl)
theorem ResQ.tup {ds : List Dat} {xs : List V} {p : Addr} (h : ResQ K mg F H (.val (.tup ds)) Q) (sub : Same F H) (hp : H p = none) (r : Reps K mg F ds xs) : Q (.ref p) (upd H p (.tup xs)) := by
  have fp : F p = none := by
    cases w : F p with
    | none => rfl
    | some o => have := sub _ _ w; rw [hp] at this; cases this
  exact h _ _ _ (Fz.new hp) (rep_tup.mpr ⟨p, xs, rfl, .inl (.inl upd_same), r.mono (same_upd fp)⟩)
theorem ResQ.own {ds : List Dat} {xs : List V} {p : Addr} (h : ResQ K mg F H (.own (.lst ds)) Q) (hp : H p = none) (r : Reps K mg F ds xs) : Q (.ref p) (upd H p (.lst xs)) := h p xs hp r
end

abbrev RB (X : Cx) := RepB X.K X.mg
abbrev RQ (X : Cx) := ResQ X.K X.mg
/-- a two-place operation by values -/
def rOp (X : Cx) (f : Dat → Dat → Option Rv) : R2 := fun x y H Q => ∃ F d e z, Same F H ∧ RB X F H d x ∧ RB X F H e y ∧ f d e = some z ∧ RQ X F H z Q

section
variable {X : Cx}

theorem str_len_append {s t : Str} : (s ++ t).length = s.length + t.length := by
  have e : (s ++ t).cps = s.cps ++ t.cps := rfl
  show (s ++ t).cps.size = _
  rw [e, Array.size_append]; rfl

theorem seqT_len {K : PySem.W.Frag} {mg : Str → Option Value} {F : Hp} {ds : List Dat} {xs : List V} (h : Reps K mg F ds xs) : xs = [] ↔ ds = [] := by
  have := h.length
  constructor
  · rintro rfl; exact List.eq_nil_of_length_eq_zero (by simpa using this.symm)
  · rintro rfl; exact List.eq_nil_of_length_eq_zero (by simpa using this)

theorem vop_add : OpR X (binaryOp .Add) (rOp X addD) := by
  intro pins s σ H x y v u Q I rx ry ⟨F, d, e, z, sub, hd, he, hz, hq⟩
  cases d with
  | int i => cases e with
    | int j =>
      cases hz
      obtain rfl := repB_int.mp hd; obtain rfl := repB_int.mp he
      exact op_add pins s σ H _ _ v u Q I rx ry ⟨i, j, rfl, rfl, hq.int⟩
    | _ => cases hz
  | str a => cases e with
    | str b =>
      obtain ⟨rfl, l1⟩ := repB_str.mp hd; obtain ⟨rfl, l2⟩ := repB_str.mp he
      simp only [addD] at hz
      split at hz
      · rename_i hl
        cases hz
        exact op_add_str pins s σ H _ _ v u Q I rx ry ⟨a, b, rfl, rfl, hl, hq.val (rep_str.mpr ⟨rfl, by rw [str_len_append]; exact hl⟩)⟩
      · cases hz
    | _ => cases hz
  | tup a => cases e with
    | tup b =>
      obtain ⟨p, xs, rfl, h1, h2⟩ := repB_tup.mp hd; obtain ⟨q, ys, rfl, g1, g2⟩ := repB_tup.mp he
      simp only [addD] at hz
      split at hz
      · rename_i hl
        cases hz
        refine op_catA pins s σ H _ _ v u Q I rx ry ⟨p, q, xs, ys, rfl, rfl, sqT_same sub h1, sqT_same sub g1, by rw [h2.length, g2.length]; exact hl, fun e => ?_, fun _ e => ?_, fun _ _ t ht => hq.tup sub ht (h2.append g2)⟩
        · have e' := (seqT_len h2).mp e; subst e'
          exact hq.val (rep_tup.mpr ⟨q, ys, rfl, g1, g2⟩)
        · have e' := (seqT_len g2).mp e; subst e'
          exact hq.val (rep_tup.mpr ⟨p, xs, rfl, h1, by simpa using h2⟩)
      · cases hz
    | _ => cases hz
  | lst a => cases e with
    | lst b =>
      obtain ⟨p, xs, rfl, h1, h2⟩ := hd; obtain ⟨q, ys, rfl, g1, g2⟩ := he
      simp only [addD] at hz
      split at hz
      · rename_i hl
        cases hz
        exact op_cat pins s σ H _ _ v u Q I rx ry ⟨p, q, xs, ys, rfl, rfl, h1, g1, by rw [h2.length, g2.length]; exact hl, fun t ht => hq.own ht (h2.append g2)⟩
      · cases hz
    | _ => cases hz
  | _ => cases e <;> cases hz

theorem vop_sub : OpR X (binaryOp .Sub) (rOp X subD) := by
  intro pins s σ H x y v u Q I rx ry ⟨F, d, e, z, sub, hd, he, hz, hq⟩
  cases d with
  | int i => cases e with
    | int j =>
      cases hz
      obtain rfl := repB_int.mp hd; obtain rfl := repB_int.mp he
      exact op_sub pins s σ H _ _ v u Q I rx ry ⟨i, j, rfl, rfl, hq.int⟩
    | _ => cases hz
  | _ => cases e <;> cases hz
theorem vop_fdiv : OpR X (binaryOp .FloorDiv) (rOp X fdivD) := by
  intro pins s σ H x y v u Q I rx ry ⟨F, d, e, z, sub, hd, he, hz, hq⟩
  cases d with
  | int i => cases e with
    | int j =>
      simp only [fdivD] at hz
      split at hz
      · rename_i hl
        cases hz
        obtain rfl := repB_int.mp hd; obtain rfl := repB_int.mp he
        exact op_fdivW pins s σ H _ _ v u Q I rx ry ⟨i, j, rfl, rfl, hl, hq.int⟩
      · cases hz
    | _ => cases hz
  | _ => cases e <;> cases hz
theorem vop_mod : OpR X (binaryOp .Mod) (rOp X modD) := by
  intro pins s σ H x y v u Q I rx ry ⟨F, d, e, z, sub, hd, he, hz, hq⟩
  cases d with
  | int i => cases e with
    | int j =>
      simp only [modD] at hz
      split at hz
      · rename_i hl
        cases hz
        obtain rfl := repB_int.mp hd; obtain rfl := repB_int.mp he
        exact op_mod pins s σ H _ _ v u Q I rx ry ⟨i, j, rfl, rfl, hl, hq.int⟩
      · cases hz
    | _ => cases hz
  | _ => cases e <;> cases hz
theorem vop_pow : OpR X (binaryOp .Pow) (rOp X powD) := by
  intro pins s σ H x y v u Q I rx ry ⟨F, d, e, z, sub, hd, he, hz, hq⟩
  cases d with
  | int i => cases e with
    | int j =>
      simp only [powD] at hz
      split at hz
      · rename_i hl
        cases hz
        obtain rfl := repB_int.mp hd; obtain rfl := repB_int.mp he
        exact op_pow pins s σ H _ _ v u Q I rx ry ⟨i, j, rfl, rfl, hl, hq.int⟩
      · cases hz
    | _ => cases hz
  | _ => cases e <;> cases hz

/-! ### tuple * int -/
theorem tuple_mul_same (l : Addr) (items : Array Value) (n : Nat) (dd : Option Addr) (sl : Array (Option Value)) (x : Int) (u : Tok) (c0 : (decide (x < -(2 ^ 63)) || decide (x ≥ 2 ^ 63)) = false) (c1 : (items.isEmpty || x == 1) = true) :
    Meets (Builtin.«tuple.__mul__» ⟨[.ref l, .int x u], []⟩) (fun _ R s => s.heap.get? l = some { cls := .type "tuple", dict := dd, data := .seq items n, slots := sl } ∧ R (.ok (.ret (Value.ref l))) s) :=
  .of_wp fun prog w A R s h => by
    obtain ⟨hp, g, d, tk, os⟩ := s
    obtain ⟨hl, h⟩ := h
    have f1 := AutoSeq1.idx_int
    wp_walk using wpAny_loadPart' hl
    repeat (first
      | (refine wpAny_ite_false (decide_eq_false (by rw [c0]; exact Bool.false_ne_true)) ?_; wp_walk using wpAny_loadPart' hl)
      | (refine wpAny_ite_true (decide_eq_true c1) ?_; wp_walk using wpAny_loadPart' hl))
    exact ⟨_, rfl, h⟩
theorem tuple_mul_none (l : Addr) (items : Array Value) (n : Nat) (dd : Option Addr) (sl : Array (Option Value)) (x : Int) (u : Tok) (c0 : (decide (x < -(2 ^ 63)) || decide (x ≥ 2 ^ 63)) = false) (c1 : (items.isEmpty || x == 1) = false) (c2 : (decide (x ≤ 0) || items.isEmpty) = true) :
    Meets (Builtin.«tuple.__mul__» ⟨[.ref l, .int x u], []⟩) (fun _ R s => s.heap.get? l = some { cls := .type "tuple", dict := dd, data := .seq items n, slots := sl } ∧
      R (.ok (.ret (Value.ref s.heap.objs.size))) { s with heap := s.heap.push { cls := Value.type "tuple", data := Data.seq #[] }, toks := s.toks }) :=
  .of_wp fun prog w A R s h => by
    obtain ⟨hp, g, d, tk, os⟩ := s
    obtain ⟨hl, h⟩ := h
    have f1 := AutoSeq1.idx_int
    wp_walk using wpAny_loadPart' hl
    repeat (first
      | (refine wpAny_ite_false (decide_eq_false (by rw [c0]; exact Bool.false_ne_true)) ?_; wp_walk using wpAny_loadPart' hl)
      | (refine wpAny_ite_false (decide_eq_false (by rw [c1]; exact Bool.false_ne_true)) ?_; wp_walk using wpAny_loadPart' hl)
      | (refine wpAny_ite_true (decide_eq_true c2) ?_; wp_walk using wpAny_loadPart' hl))
    exact ⟨_, rfl, h⟩
theorem op_repT0 : OpR X (binaryOp .Mult) (fun x y H Q => ∃ l k xs, x = .ref l ∧ y = .int k ∧ SqT X.K H l xs ∧ -1000 ≤ k ∧ k ≤ 1000 ∧ xs.length ≤ 1000 ∧
    ((xs = [] ∨ k = 1) → Q (.ref l) H) ∧ (xs ≠ [] → k ≤ 0 → ∀ p, H p = none → Q (.ref p) (upd H p (.tup []))) ∧ (xs ≠ [] → 2 ≤ k → ∀ p, H p = none → Q (.ref p) (upd H p (.tup (List.replicate k.toNat xs).flatten)))) := by
  intro pins s σ H x y v u Q I rx ry h
  obtain ⟨l, k, xs, rfl, rfl, hT, h0, h1, hz, q1, q2, q3⟩ := h
  by_cases hk : xs = [] ∨ k = 1
  · cases rx
    obtain ⟨t, rfl⟩ := ry
    obtain ⟨its, r, ⟨⟨cls, dd, data, sl⟩, ho, hc, n, hd⟩, hs⟩ := I.tuple hT
    simp only at hc hd
    subst hc hd
    have hle : its.length = xs.length := r.length.symm
    have c0 : (decide (k < -(2 ^ 63)) || decide (k ≥ 2 ^ 63)) = false := by
      rw [decide_eq_false (by omega), decide_eq_false (by omega)] <;> rfl
    have c1 : (its.toArray.isEmpty || k == 1) = true := by
      rcases hk with hk | hk
      · subst hk; have : its = [] := List.eq_nil_of_length_eq_zero (by simpa using hle)
        subst this; rfl
      · subst hk; simp
    exact wpAny_binaryOp_repeat_ref (T := "tuple") (U := "int") (by decide) ⟨_, ho, rfl⟩ (fun s' => typeIs_int s' k t) noFill_tuple_mul F.fills_int_mul F.slot_int_rmul repeat_tuple F.slot_int_index.lookup
      (call_meets F.slot_int_rmul (typeIs_int s k t) F.entry_int_rmul (F.args_int_rmul_2 _ _) (int_rmul_tuple k t l its.toArray n dd sl)
        ⟨ho, rfl, ⟨_, ho, rfl⟩, call_meets F.slot_tuple_mul ⟨_, ho, rfl⟩ F.entry_tuple_mul (F.args_tuple_mul_2 _ _) (tuple_mul_same l its.toArray n dd sl k t c0 c1) ⟨ho, ⟨.ref l, H, I, rfl, q1 hk⟩⟩⟩)
  · have hne : xs ≠ [] := fun e => hk (.inl e)
    have hk1 : k ≠ 1 := fun e => hk (.inr e)
    by_cases h2 : 2 ≤ k
    · exact op_repT pins s σ H _ _ v u Q I rx ry ⟨l, k, xs, rfl, rfl, hT, hne, h2, h1, hz, q3 hne h2⟩
    · have hk0 : k ≤ 0 := by omega
      cases rx
      obtain ⟨t, rfl⟩ := ry
      obtain ⟨its, r, ⟨⟨cls, dd, data, sl⟩, ho, hc, n, hd⟩, hs⟩ := I.tuple hT
      simp only at hc hd
      subst hc hd
      have hle : its.length = xs.length := r.length.symm
      have hi : its.toArray.isEmpty = false := by
        cases its with
        | nil => exact absurd (List.eq_nil_of_length_eq_zero hle.symm) hne
        | cons a b => rfl
      have c0 : (decide (k < -(2 ^ 63)) || decide (k ≥ 2 ^ 63)) = false := by
        rw [decide_eq_false (by omega), decide_eq_false (by omega)] <;> rfl
      have c1 : (its.toArray.isEmpty || k == 1) = false := by
        rw [hi, Bool.false_or]
        exact beq_eq_false_iff_ne.mpr hk1
      have c2 : (decide (k ≤ 0) || its.toArray.isEmpty) = true := by rw [decide_eq_true hk0] <;> rfl
      refine wpAny_binaryOp_repeat_ref (T := "tuple") (U := "int") (by decide) ⟨_, ho, rfl⟩ (fun s' => typeIs_int s' k t) noFill_tuple_mul F.fills_int_mul F.slot_int_rmul repeat_tuple F.slot_int_index.lookup
        (call_meets F.slot_int_rmul (typeIs_int s k t) F.entry_int_rmul (F.args_int_rmul_2 _ _) (int_rmul_tuple k t l its.toArray n dd sl)
          ⟨ho, rfl, ⟨_, ho, rfl⟩, call_meets F.slot_tuple_mul ⟨_, ho, rfl⟩ F.entry_tuple_mul (F.args_tuple_mul_2 _ _) (tuple_mul_none l its.toArray n dd sl k t c0 c1 c2) ⟨ho, ?_⟩⟩)
      refine ⟨.ref s.heap.objs.size, _, I.laid (t' := s.toks) (o := .tup []) (fun b ob q => Heap.get?_push_of_some _ q) (Nat.le_refl _) ?_, rfl, q2 hne hk0 _ (I.hok.fresh (Nat.le_refl _))⟩
      exact ⟨Nat.zero_le _, [], .nil, IsTup.new _ _⟩

theorem vop_mul : OpR X (binaryOp .Mult) (rOp X mulD) := by
  intro pins s σ H x y v u Q I rx ry ⟨F, d, e, z, sub, hd, he, hz, hq⟩
  cases d with
  | int i => cases e with
    | int j =>
      obtain rfl := repB_int.mp hd; obtain rfl := repB_int.mp he
      simp only [mulD] at hz
      split at hz
      · rename_i hl
        cases hz
        have hl : (-(2 ^ 64) < i ∧ i < 2 ^ 64) ∨ (-(2 ^ 64) < j ∧ j < 2 ^ 64) ∨ i.natAbs.log2 + j.natAbs.log2 < 1000000 := by simpa [mulOk] using hl
        rcases hl with h | h | h
        · exact op_mul pins s σ H _ _ v u Q I rx ry ⟨i, j, rfl, rfl, .inl h, hq.int⟩
        · exact op_mul pins s σ H _ _ v u Q I rx ry ⟨i, j, rfl, rfl, .inr h, hq.int⟩
        · exact op_mulW pins s σ H _ _ v u Q I rx ry ⟨i, j, rfl, rfl, h, hq.int⟩
      · cases hz
    | _ => cases hz
  | tup a => cases e with
    | int k =>
      obtain ⟨p, xs, rfl, h1, h2⟩ := repB_tup.mp hd; obtain rfl := repB_int.mp he
      simp only [mulD] at hz
      split at hz
      · rename_i hl
        cases hz
        have hxl := h2.length
        refine op_repT0 pins s σ H _ _ v u Q I rx ry ⟨p, k, xs, rfl, rfl, sqT_same sub h1, hl.2.1, hl.1, by omega, fun w => ?_, fun _ w t ht => ?_, fun _ w t ht => hq.tup sub ht (h2.flatRep _)⟩
        · refine hq.val (rep_tup.mpr ⟨p, xs, rfl, h1, ?_⟩)
          rcases w with w | w
          · have := (seqT_len h2).mp w; subst this w; simp; exact Reps.nil
          · subst w; simpa using h2
        · have := hq.tup sub ht (xs := []) (by
            have e0 : k.toNat = 0 := by omega
            rw [e0]; exact Reps.nil)
          exact this
      · cases hz
    | _ => cases hz
  | lst a => cases e with
    | int k =>
      obtain ⟨p, xs, rfl, h1, h2⟩ := hd; obtain rfl := repB_int.mp he
      simp only [mulD] at hz
      split at hz
      · rename_i hl
        cases hz
        have hxl := h2.length
        refine op_rep pins s σ H _ _ v u Q I rx ry ⟨p, k, xs, rfl, rfl, h1, by omega, by omega, ?_, fun t ht => hq.own ht (h2.flatRep _)⟩
        have : xs.length * k.toNat ≤ 1000 * 1000 := Nat.mul_le_mul (by omega) (by omega)
        rw [sizeLine_eq]; omega
      · cases hz
    | _ => cases hz
  | _ => cases e <;> cases hz

theorem vop_bin {op : Operator} : OpR X (binaryOp op) (rOp X (binD op)) := by
  cases op with
  | Add => exact vop_add
  | Sub => exact vop_sub
  | Mult => exact vop_mul
  | FloorDiv => exact vop_fdiv
  | Mod => exact vop_mod
  | Pow => exact vop_pow
  | _ => intro pins s σ H x y v u Q I rx ry ⟨F, d, e, z, sub, hd, he, hz, hq⟩; cases hz
end
end Mi

set_option maxHeartbeats 4000000
/-! Mi5: comparisons, items, slices, built-in functions by values. -/
namespace Mi
open PySem PySem.Spec PyProof.Rows L2

/-! ### data as the library has it -/
mutual
theorem py_depth : ∀ d : Dat, d.plain = true → d.py.depth = d.dep
  | .non, _ => by simp [Dat.py, Dat.dep, PyData.depth]
  | .bl _, _ => by simp [Dat.py, Dat.dep, PyData.depth]
  | .int _, _ => by simp [Dat.py, Dat.dep, PyData.depth]
  | .str _, _ => by simp [Dat.py, Dat.dep, PyData.depth]
  | .tup ds, h => by simp [Dat.py, Dat.dep, PyData.depth, py_depthAll ds (by simpa [Dat.plain] using h)]; omega
  | .lst ds, h => by simp [Dat.py, Dat.dep, PyData.depth, py_depthAll ds (by simpa [Dat.plain] using h)]; omega
  | .fn _, h => by simp [Dat.plain] at h
  | .ref _, h => by simp [Dat.plain] at h
  | .ty _, h => by simp [Dat.plain] at h
  | .scr _, h => by simp [Dat.plain] at h
theorem py_depthAll : ∀ ds : List Dat, plainAll ds = true → PyData.depthAll (pyAll ds) = depAll ds
  | [], _ => by simp [pyAll, depAll, PyData.depthAll]
  | d :: ds, h => by
    simp only [plainAll, Bool.and_eq_true] at h
    simp [pyAll, depAll, PyData.depthAll, py_depth d h.1, py_depthAll ds h.2]
end
mutual
theorem py_plain : ∀ d : Dat, d.plain = true → d.py.plain = true
  | .non, _ => rfl
  | .bl _, _ => rfl
  | .int _, _ => rfl
  | .str _, _ => rfl
  | .tup ds, h => by simp only [Dat.py, PyData.plain]; exact py_plainAll ds (by simpa [Dat.plain] using h)
  | .lst ds, h => by simp only [Dat.py, PyData.plain]; exact py_plainAll ds (by simpa [Dat.plain] using h)
  | .fn _, h => by simp [Dat.plain] at h
  | .ref _, h => by simp [Dat.plain] at h
  | .ty _, h => by simp [Dat.plain] at h
  | .scr _, h => by simp [Dat.plain] at h
theorem py_plainAll : ∀ ds : List Dat, plainAll ds = true → PyData.plainAll (pyAll ds) = true
  | [], _ => rfl
  | d :: ds, h => by
    simp only [plainAll, Bool.and_eq_true] at h
    simp only [pyAll, PyData.plainAll, py_plain d h.1, py_plainAll ds h.2, Bool.and_self]
end
mutual
theorem py_eqv : ∀ d e : Dat, d.plain = true → e.plain = true → PyData.eqv d.py e.py = eqv d e
  | .non, e, _, h => by cases e <;> first | rfl | (simp [Dat.plain] at h; done) | simp [Dat.py, PyData.eqv, eqv]
  | .bl _, e, _, h => by cases e <;> first | rfl | (simp [Dat.plain] at h; done) | simp [Dat.py, PyData.eqv, eqv]
  | .int _, e, _, h => by cases e <;> first | rfl | (simp [Dat.plain] at h; done) | simp [Dat.py, PyData.eqv, eqv]
  | .str _, e, _, h => by cases e <;> first | rfl | (simp [Dat.plain] at h; done) | simp [Dat.py, PyData.eqv, eqv]
  | .tup ds, e, g, h => by
    cases e with
    | tup es => simp only [Dat.py, PyData.eqv, eqv]; exact py_eqvAll ds es (by simpa [Dat.plain] using g) (by simpa [Dat.plain] using h)
    | _ => first | rfl | (simp [Dat.plain] at h; done) | simp [Dat.py, PyData.eqv, eqv]
  | .lst ds, e, g, h => by
    cases e with
    | lst es => simp only [Dat.py, PyData.eqv, eqv]; exact py_eqvAll ds es (by simpa [Dat.plain] using g) (by simpa [Dat.plain] using h)
    | _ => first | rfl | (simp [Dat.plain] at h; done) | simp [Dat.py, PyData.eqv, eqv]
  | .fn _, _, h, _ => by simp [Dat.plain] at h
  | .ref _, _, h, _ => by simp [Dat.plain] at h
  | .ty _, _, h, _ => by simp [Dat.plain] at h
  | .scr _, _, h, _ => by simp [Dat.plain] at h
theorem py_eqvAll : ∀ ds es : List Dat, plainAll ds = true → plainAll es = true → PyData.eqvAll (pyAll ds) (pyAll es) = eqvAll ds es
  | [], [], _, _ => rfl
  | [], _ :: _, _, _ => by simp [pyAll, PyData.eqvAll, eqvAll]
  | _ :: _, [], _, _ => by simp [pyAll, PyData.eqvAll, eqvAll]
  | d :: ds, e :: es, g, h => by
    simp only [plainAll, Bool.and_eq_true] at g h
    simp only [pyAll, PyData.eqvAll, eqvAll, py_eqv d e g.1 h.1, py_eqvAll ds es g.2 h.2]
end
theorem py_any (ds : List Dat) (d : Dat) (h : plainAll ds = true) (g : d.plain = true) : (pyAll ds).any (fun y => PyData.eqv y d.py) = ds.any fun y => eqv y d := by
  induction ds with
  | nil => rfl
  | cons e es ih =>
    simp only [plainAll, Bool.and_eq_true] at h
    simp only [pyAll, List.any_cons, ih h.2, py_eqv e d h.1 g]

section
variable {K : PySem.W.Frag} {mg : Str → Option Value} {F H : Hp}
mutual
theorem rep_dp (sub : Same F H) : ∀ (d : Dat) (v : V), Rep K mg F d v → d.plain = true → Dp K H v d.py
  | .non, _, h, _ => by rw [rep_non.mp h]; exact .non
  | .bl b, _, h, _ => by rw [rep_bl.mp h]; exact .bl b
  | .int i, _, h, _ => by rw [rep_int.mp h]; exact .int i
  | .str s, _, h, _ => by rw [(rep_str.mp h).1]; exact .str s
  | .tup ds, _, h, p => by
    obtain ⟨a, xs, rfl, h1, h2⟩ := rep_tup.mp h
    simp only [Dat.py]
    exact .tup (sqT_same sub h1) (reps_dp sub ds xs h2 (by simpa [Dat.plain] using p))
  | .lst ds, _, h, p => by
    obtain ⟨a, xs, rfl, h1, h2⟩ := rep_lst.mp h
    simp only [Dat.py]
    exact .lst (.inl (.inl (sub _ _ h1))) (reps_dp sub ds xs h2 (by simpa [Dat.plain] using p))
  | .fn _, _, _, h => by simp [Dat.plain] at h
  | .ref _, _, _, h => by simp [Dat.plain] at h
  | .ty _, _, _, h => by simp [Dat.plain] at h
  | .scr _, _, _, h => by simp [Dat.plain] at h
theorem reps_dp (sub : Same F H) : ∀ (ds : List Dat) (xs : List V), Reps K mg F ds xs → plainAll ds = true → DpAll K H xs (pyAll ds)
  | [], xs, h, _ => by unfold Reps at h; subst h; exact .nil
  | d :: ds, xs, h, p => by
    unfold Reps at h
    obtain ⟨x, r, rfl, h1, h2⟩ := h
    simp only [plainAll, Bool.and_eq_true] at p
    exact .cons (rep_dp sub d x h1 p.1) (reps_dp sub ds r h2 p.2)
end
theorem repB_dp (sub : Same F H) {d : Dat} {v : V} (h : RepB K mg F H d v) (p : d.plain = true) : Dp K H v d.py := by
  cases d with
  | lst ds =>
    obtain ⟨a, xs, rfl, h1, h2⟩ := h
    simp only [Dat.py]
    exact .lst (.inl (.inl h1)) (reps_dp sub ds xs h2 (by simpa [Dat.plain] using p))
  | _ => exact rep_dp (mg := mg) sub _ v h p
theorem Reps.atI {ds : List Dat} {xs : List V} {i : Int} {d : Dat} (h : Reps K mg F ds xs) (e : L2.atI ds i = some d) : ∃ x, L2.atI xs i = some x ∧ Rep K mg F d x := by
  unfold L2.atI at e ⊢
  rw [h.length]
  cases q : ixN ds.length i with
  | none => rw [q] at e; cases e
  | some j =>
    rw [q] at e
    exact h.get (show ds[j]? = some d from e)
end

/-- a comparison by values -/
def rCm (X : Cx) (op : CmpOp) : R2 := fun x y H Q => ∃ F d e z, Same F H ∧ RB X F H d x ∧ RB X F H e y ∧ cmpD op d e = some z ∧ Q (.bl z) H
section
variable {X : Cx}
theorem vop_eq (hu : X.A.units + 64 < cLine) : OpR X (compareOp .Eq) (rCm X .Eq) := by
  intro pins s σ H x y v u Q I rx ry ⟨F, d, e, z, sub, hd, he, hz, hq⟩
  have hz : eqD d e = some z := hz
  unfold eqD at hz
  split at hz
  · rename_i hc
    cases hz
    simp only [Bool.and_eq_true, decide_eq_true_eq] at hc
    obtain ⟨⟨c1, c2⟩, c3⟩ := hc
    obtain ⟨as, r1⟩ := Dp.reads I _ x v (repB_dp sub hd c1) rx
    obtain ⟨bs, r2⟩ := Dp.reads I _ y u (repB_dp sub he c2) ry
    refine SeqAt.eq_plain r1 r2 (py_plain d c1) (py_plain e c2) (by rw [py_depth d c1, py_depth e c2]; omega) ⟨.bl _, H, I, rfl, ?_⟩
    rw [py_eqv d e c1 c2]; exact hq
  · cases hz
theorem vop_ne (hu : X.A.units + 64 < cLine) : OpR X (compareOp .NotEq) (rCm X .NotEq) := by
  intro pins s σ H x y v u Q I rx ry ⟨F, d, e, z, sub, hd, he, hz, hq⟩
  have hz : (eqD d e).map not = some z := hz
  unfold eqD at hz
  split at hz
  · rename_i hc
    cases hz
    simp only [Bool.and_eq_true, decide_eq_true_eq] at hc
    obtain ⟨⟨c1, c2⟩, c3⟩ := hc
    obtain ⟨as, r1⟩ := Dp.reads I _ x v (repB_dp sub hd c1) rx
    obtain ⟨bs, r2⟩ := Dp.reads I _ y u (repB_dp sub he c2) ry
    refine SeqAt.ne_plain r1 r2 (py_plain d c1) (py_plain e c2) (by rw [py_depth d c1, py_depth e c2]; omega) ⟨.bl _, H, I, rfl, ?_⟩
    rw [py_eqv d e c1 c2]; exact hq
  · cases hz
theorem str_one {c : Str} (h : c.length = 1) : c = ⟨#[c.cps.getD 0 0]⟩ := by
  obtain ⟨⟨l⟩⟩ := c
  have h : l.length = 1 := h
  match l, h with
  | [a], _ => rfl
theorem vop_in (hu : X.A.units + 64 < cLine) : OpR X (compareOp .In) (rCm X .In) := by
  intro pins s σ H x y v u Q I rx ry ⟨F, d, e, z, sub, hd, he, hz, hq⟩
  have hz : inD d e = some z := hz
  cases e with
  | str t =>
    cases d with
    | str c =>
      simp only [inD] at hz
      split at hz
      · rename_i hc
        cases hz
        obtain ⟨rfl, l1⟩ := repB_str.mp hd; obtain ⟨rfl, l2⟩ := repB_str.mp he
        exact op_in_sign pins s σ H _ _ v u Q I rx ry ⟨c.cps.getD 0 0, t, by rw [← str_one hc.1], rfl, hq⟩
      · cases hz
    | _ => cases hz
  | tup ds =>
    have hz : (if d.plain && plainAll ds && decide (d.dep ≤ 60) then some (ds.any fun y => eqv y d) else none) = some z := by
      cases d <;> exact hz
    split at hz
    · rename_i hc
      cases hz
      simp only [Bool.and_eq_true, decide_eq_true_eq] at hc
      obtain ⟨⟨c1, c2⟩, c3⟩ := hc
      obtain ⟨as, r1⟩ := Dp.reads I _ x v (repB_dp sub hd c1) rx
      obtain ⟨bs, r2⟩ := Dp.reads I _ y u (repB_dp sub he (show (Dat.tup ds).plain = true by simpa [Dat.plain] using c2)) ry
      simp only [Dat.py] at r2
      refine SeqAt.in_tuple_data r2 r1 (py_plainAll ds c2) (py_plain d c1) (by rw [py_depth d c1]; omega) ⟨.bl _, H, I, rfl, ?_⟩
      rw [py_any ds d c2 c1]; exact hq
    · cases hz
  | lst ds =>
    have hz : (if d.plain && plainAll ds && decide (d.dep ≤ 60) then some (ds.any fun y => eqv y d) else none) = some z := by
      cases d <;> exact hz
    split at hz
    · rename_i hc
      cases hz
      simp only [Bool.and_eq_true, decide_eq_true_eq] at hc
      obtain ⟨⟨c1, c2⟩, c3⟩ := hc
      obtain ⟨as, r1⟩ := Dp.reads I _ x v (repB_dp sub hd c1) rx
      obtain ⟨bs, r2⟩ := Dp.reads I _ y u (repB_dp sub he (show (Dat.lst ds).plain = true by simpa [Dat.plain] using c2)) ry
      simp only [Dat.py] at r2
      refine SeqAt.in_list_data r2 r1 (py_plainAll ds c2) (py_plain d c1) (by rw [py_depth d c1]; omega) ⟨.bl _, H, I, rfl, ?_⟩
      rw [py_any ds d c2 c1]; exact hq
    · cases hz
  | _ => cases d <;> cases hz
theorem vop_nin (hu : X.A.units + 64 < cLine) : OpR X (compareOp .NotIn) (rCm X .NotIn) := by
  intro pins s σ H x y v u Q I rx ry ⟨F, d, e, z, sub, hd, he, hz, hq⟩
  have hz : (inD d e).map not = some z := hz
  cases e with
  | str t =>
    cases d with
    | str c =>
      simp only [inD] at hz
      split at hz
      · rename_i hc
        cases hz
        obtain ⟨rfl, l1⟩ := repB_str.mp hd; obtain ⟨rfl, l2⟩ := repB_str.mp he
        exact op_notIn_sign pins s σ H _ _ v u Q I rx ry ⟨c.cps.getD 0 0, t, by rw [← str_one hc.1], rfl, hq⟩
      · cases hz
    | _ => cases hz
  | tup ds =>
    have hz : (if d.plain && plainAll ds && decide (d.dep ≤ 60) then some (ds.any fun y => eqv y d) else none).map not = some z := by
      cases d <;> exact hz
    split at hz
    · rename_i hc
      cases hz
      simp only [Bool.and_eq_true, decide_eq_true_eq] at hc
      obtain ⟨⟨c1, c2⟩, c3⟩ := hc
      obtain ⟨as, r1⟩ := Dp.reads I _ x v (repB_dp sub hd c1) rx
      obtain ⟨bs, r2⟩ := Dp.reads I _ y u (repB_dp sub he (show (Dat.tup ds).plain = true by simpa [Dat.plain] using c2)) ry
      simp only [Dat.py] at r2
      refine SeqAt.notIn_tuple_data r2 r1 (py_plainAll ds c2) (py_plain d c1) (by rw [py_depth d c1]; omega) ⟨.bl _, H, I, rfl, ?_⟩
      rw [py_any ds d c2 c1]; exact hq
    · cases hz
  | lst ds =>
    have hz : (if d.plain && plainAll ds && decide (d.dep ≤ 60) then some (ds.any fun y => eqv y d) else none).map not = some z := by
      cases d <;> exact hz
    split at hz
    · rename_i hc
      cases hz
      simp only [Bool.and_eq_true, decide_eq_true_eq] at hc
      obtain ⟨⟨c1, c2⟩, c3⟩ := hc
      obtain ⟨as, r1⟩ := Dp.reads I _ x v (repB_dp sub hd c1) rx
      obtain ⟨bs, r2⟩ := Dp.reads I _ y u (repB_dp sub he (show (Dat.lst ds).plain = true by simpa [Dat.plain] using c2)) ry
      simp only [Dat.py] at r2
      refine SeqAt.notIn_list_data r2 r1 (py_plainAll ds c2) (py_plain d c1) (by rw [py_depth d c1]; omega) ⟨.bl _, H, I, rfl, ?_⟩
      rw [py_any ds d c2 c1]; exact hq
    · cases hz
  | _ => cases d <;> cases hz
theorem ord_int {op : CmpOp} {d e : Dat} {z : Bool} (h : ordD op d e = some z) : ∃ i j, d = .int i ∧ e = .int j := by
  cases d with
  | int i => cases e with
    | int j => exact ⟨i, j, rfl, rfl⟩
    | _ => cases h
  | _ => cases h
theorem vop_cmp (hu : X.A.units + 64 < cLine) {op : CmpOp} : OpR X (compareOp op) (rCm X op) := by
  cases op with
  | Eq => exact vop_eq hu
  | NotEq => exact vop_ne hu
  | In => exact vop_in hu
  | NotIn => exact vop_nin hu
  | Is => intro pins s σ H x y v u Q I rx ry ⟨F, d, e, z, sub, hd, he, hz, hq⟩; cases hz
  | IsNot => intro pins s σ H x y v u Q I rx ry ⟨F, d, e, z, sub, hd, he, hz, hq⟩; cases hz
  | Lt =>
    intro pins s σ H x y v u Q I rx ry ⟨F, d, e, z, sub, hd, he, hz, hq⟩
    obtain ⟨i, j, rfl, rfl⟩ := ord_int (op := .Lt) hz
    cases hz
    obtain rfl := repB_int.mp hd; obtain rfl := repB_int.mp he
    exact op_lt pins s σ H _ _ v u Q I rx ry ⟨i, j, rfl, rfl, hq⟩
  | LtE =>
    intro pins s σ H x y v u Q I rx ry ⟨F, d, e, z, sub, hd, he, hz, hq⟩
    obtain ⟨i, j, rfl, rfl⟩ := ord_int (op := .LtE) hz
    cases hz
    obtain rfl := repB_int.mp hd; obtain rfl := repB_int.mp he
    exact op_le pins s σ H _ _ v u Q I rx ry ⟨i, j, rfl, rfl, hq⟩
  | Gt =>
    intro pins s σ H x y v u Q I rx ry ⟨F, d, e, z, sub, hd, he, hz, hq⟩
    obtain ⟨i, j, rfl, rfl⟩ := ord_int (op := .Gt) hz
    cases hz
    obtain rfl := repB_int.mp hd; obtain rfl := repB_int.mp he
    exact op_gt pins s σ H _ _ v u Q I rx ry ⟨i, j, rfl, rfl, hq⟩
  | GtE =>
    intro pins s σ H x y v u Q I rx ry ⟨F, d, e, z, sub, hd, he, hz, hq⟩
    obtain ⟨i, j, rfl, rfl⟩ := ord_int (op := .GtE) hz
    cases hz
    obtain rfl := repB_int.mp hd; obtain rfl := repB_int.mp he
    exact op_ge pins s σ H _ _ v u Q I rx ry ⟨i, j, rfl, rfl, hq⟩

/-! ### items -/
def MHR (X : Cx) (F : Hp) (M : MH) (H : Hp) : Prop := ∀ a o, M a = some o → MOR X.K X.mg F H a o
def rIdx (X : Cx) : R2 := fun x y H Q => ∃ F M d e z, Same F H ∧ MHR X F M H ∧ RB X F H d x ∧ RB X F H e y ∧ idxD M d e = some z ∧ ∀ w, Rep X.K X.mg F z w → Q w H
theorem atI_map {α β : Type} (f : α → β) (xs : List α) (i : Int) : L2.atI (xs.map f) i = (L2.atI xs i).map f := by
  unfold L2.atI
  rw [List.length_map]
  cases ixN xs.length i with
  | none => rfl
  | some j => simp
theorem idx_int {M : MH} {d e z : Dat} (h : idxD M d e = some z) : ∃ i, e = .int i := by
  cases e with
  | int i => exact ⟨i, rfl⟩
  | _ => cases d <;> cases h
theorem vop_idx : IxR X (rIdx X) := by
  intro value slice pins s σ H o i ov iv Q I ro ri ⟨F, M, d, e, z, sub, hM, hd, he, hz, hq⟩ hs
  obtain ⟨k, rfl⟩ := idx_int hz
  obtain rfl := repB_int.mp he
  cases d with
  | tup ds =>
    obtain ⟨a, xs, rfl, h1, h2⟩ := repB_tup.mp hd
    obtain ⟨w, e1, e2⟩ := h2.atI (show L2.atI ds k = some z from hz)
    exact ix_tup value slice pins s σ H _ _ ov iv Q I ro ri ⟨a, xs, k, w, rfl, rfl, sqT_same sub h1, e1, hq w e2⟩ hs
  | lst ds =>
    obtain ⟨a, xs, rfl, h1, h2⟩ := hd
    obtain ⟨w, e1, e2⟩ := h2.atI (show L2.atI ds k = some z from hz)
    exact ix_list value slice pins s σ H _ _ ov iv Q I ro ri ⟨a, xs, k, w, rfl, rfl, .inl (.inl h1), e1, hq w e2⟩ hs
  | str t =>
    obtain ⟨rfl, l1⟩ := repB_str.mp hd
    have hz : (L2.atI t.cps.toList k).map (fun c => Dat.str ⟨#[c]⟩) = some z := hz
    cases q : L2.atI t.cps.toList k with
    | none => rw [q] at hz; cases hz
    | some c =>
      rw [q] at hz; cases hz
      exact ix_str value slice pins s σ H _ _ ov iv Q I ro ri ⟨t, k, c, rfl, rfl, l1, q, hq _ (rep_str.mpr ⟨rfl, by show 1 ≤ sizeLine; decide⟩)⟩ hs
  | scr ns =>
    obtain ⟨a, rfl, h1⟩ := (show ∃ a, o = .ref a ∧ SqL X.K F a (ns.map V.int) from (rep_scr (mg := X.mg)).mp hd)
    have hz : (L2.atI ns k).map (fun n => Dat.int n) = some z := hz
    cases q : L2.atI ns k with
    | none => rw [q] at hz; cases hz
    | some n =>
      rw [q] at hz; cases hz
      exact ix_list value slice pins s σ H _ _ ov iv Q I ro ri ⟨a, ns.map V.int, k, .int n, rfl, rfl, sqL_same sub h1, by rw [atI_map, q]; rfl, hq _ (rep_int.mpr rfl)⟩ hs
  | ref a =>
    obtain rfl := repB_ref.mp hd
    have hz : (match M a with | some (.lst ds) => L2.atI ds k | _ => none) = some z := hz
    cases q : M a with
    | none => rw [q] at hz; cases hz
    | some mo =>
      rw [q] at hz
      cases mo with
      | lst ds =>
        obtain ⟨xs, h1, h2⟩ := (show ∃ xs, H a = some (.lst xs) ∧ Reps X.K X.mg F ds xs from hM a _ q)
        obtain ⟨w, e1, e2⟩ := h2.atI (show L2.atI ds k = some z from hz)
        exact ix_list value slice pins s σ H _ _ ov iv Q I ro ri ⟨a, xs, k, w, rfl, rfl, .inl (.inl h1), e1, hq w e2⟩ hs
      | ins _ _ => cases hz
  | _ => cases hz

/-! ### slices -/
def rSlc (X : Cx) : V → Option Int → Option Int → Hp → VK → Prop := fun x lo hi H Q => ∃ F d z, Same F H ∧ RB X F H d x ∧ slcD lo hi d = some z ∧ RQ X F H z Q
theorem Reps.cut {K mg} {F : Hp} {ds : List Dat} {xs : List V} (h : Reps K mg F ds xs) (lo hi : Option Int) : Reps K mg F (cutD ds lo hi) (cutV xs lo hi) := by
  unfold cutD cutV
  rw [h.length]
  exact (h.drop _).take _
theorem vop_slc : L2.SlR X (rSlc X) := by
  intro pins s σ H x v vl vu lo hi sl Q I rx hs pl pu ⟨F, d, z, sub, hd, hz, hq⟩
  cases d with
  | tup ds =>
    cases hz
    obtain ⟨a, xs, rfl, h1, h2⟩ := repB_tup.mp hd
    refine sl_tupA pins s σ H _ v vl vu lo hi sl Q I rx hs pl pu ⟨a, xs, rfl, sqT_same sub h1, fun w => ?_, fun _ p hp => hq.tup sub hp (h2.cut lo hi)⟩
    refine hq.val (rep_tup.mpr ⟨a, xs, rfl, h1, ?_⟩)
    have : cutD ds lo hi = ds := by
      unfold cutD
      rw [h2.length] at w
      rw [w.1, w.2]; simp
    rw [this]; exact h2
  | lst ds =>
    cases hz
    obtain ⟨a, xs, rfl, h1, h2⟩ := hd
    exact sl_list pins s σ H _ v vl vu lo hi sl Q I rx hs pl pu ⟨a, xs, rfl, .inl (.inl h1), fun p hp => hq.own hp (h2.cut lo hi)⟩
  | _ => cases hz
end
end Mi

set_option maxHeartbeats 4000000
/-! Mi6: built-in functions, isinstance, truth, [::-1]. -/
namespace Mi
open PySem PySem.Spec PyProof.Rows L2

section
variable {X : Cx}
/-- a call of one argument by values -/
def rC1 (X : Cx) (f : Bf) : List V → Hp → VK → Prop := fun xs H Q => ∃ F M d z x, xs = [x] ∧ Same F H ∧ RB X F H d x ∧ callD M f d = some z ∧ RQ X F H z Q
theorem bls_map {K mg} {F : Hp} : ∀ {ds : List Dat} {bs : List Bool} {xs : List V}, blsD ds = some bs → Reps K mg F ds xs → xs = bs.map V.bl
  | [], bs, xs, e, h => by cases e; unfold Reps at h; exact h
  | d :: ds, bs, xs, e, h => by
    cases d with
    | bl b =>
      have e : (blsD ds).map (b :: ·) = some bs := e
      cases q : blsD ds with
      | none => rw [q] at e; cases e
      | some cs =>
        rw [q] at e; cases e
        unfold Reps at h
        obtain ⟨x, r, rfl, h1, h2⟩ := h
        rw [rep_bl.mp h1, bls_map q h2]; rfl
    | _ => cases e
theorem ints_map {K mg} {F : Hp} : ∀ {ds : List Dat} {bs : List Int} {xs : List V}, intsD ds = some bs → Reps K mg F ds xs → xs = bs.map V.int
  | [], bs, xs, e, h => by cases e; unfold Reps at h; exact h
  | d :: ds, bs, xs, e, h => by
    cases d with
    | int b =>
      have e : (intsD ds).map (b :: ·) = some bs := e
      cases q : intsD ds with
      | none => rw [q] at e; cases e
      | some cs =>
        rw [q] at e; cases e
        unfold Reps at h
        obtain ⟨x, r, rfl, h1, h2⟩ := h
        rw [rep_int.mp h1, ints_map q h2]; rfl
    | _ => cases e
theorem toString_len (i : Int) (h : i.natAbs.log2 < 1920) : (toString i : Str).length ≤ sizeLine := int_text_fits h
theorem vcall_len : CallR X (.builtin "len") (rC1 X .len) := by
  rintro pins s σ H xs us Q I r ⟨F, M, d, z, x, rfl, sub, hd, hz, hq⟩
  cases d with
  | str t =>
    cases hz
    obtain ⟨rfl, l1⟩ := repB_str.mp hd
    exact call_len pins s σ H _ us Q I r ⟨_, _, rfl, ⟨l1, rfl⟩, hq.int⟩
  | tup ds =>
    cases hz
    obtain ⟨a, xs, rfl, h1, h2⟩ := repB_tup.mp hd
    exact call_len pins s σ H _ us Q I r ⟨_, xs.length, rfl, .inr ⟨xs, sqT_same sub h1, rfl⟩, by rw [h2.length]; exact hq.int⟩
  | lst ds =>
    cases hz
    obtain ⟨a, xs, rfl, h1, h2⟩ := hd
    exact call_len pins s σ H _ us Q I r ⟨_, xs.length, rfl, .inl ⟨xs, .inl (.inl h1), rfl⟩, by rw [h2.length]; exact hq.int⟩
  | scr ns =>
    cases hz
    obtain ⟨a, rfl, h1⟩ := (show ∃ a, x = .ref a ∧ SqL X.K F a (ns.map V.int) from (rep_scr (mg := X.mg)).mp hd)
    exact call_len pins s σ H _ us Q I r ⟨_, (ns.map V.int).length, rfl, .inl ⟨_, sqL_same sub h1, rfl⟩, by rw [List.length_map]; exact hq.int⟩
  | _ => cases hz
theorem vcall_abs : CallR X (.builtin "abs") (rC1 X .abs) := by
  rintro pins s σ H xs us Q I r ⟨F, M, d, z, x, rfl, sub, hd, hz, hq⟩
  cases d with
  | int i =>
    cases hz
    obtain rfl := repB_int.mp hd
    exact call_abs pins s σ H _ us Q I r ⟨i, rfl, hq.int⟩
  | _ => cases hz
theorem vcall_int : CallR X (.type "int") (rC1 X .int) := by
  rintro pins s σ H xs us Q I r ⟨F, M, d, z, x, rfl, sub, hd, hz, hq⟩
  cases d with
  | int i =>
    cases hz
    obtain rfl := repB_int.mp hd
    exact call_int1 pins s σ H _ us Q I r (.inl ⟨i, rfl, hq.int⟩)
  | bl i =>
    cases hz
    obtain rfl := repB_bl.mp hd
    exact call_int1 pins s σ H _ us Q I r (.inr ⟨i, rfl, hq.int⟩)
  | _ => cases hz
theorem vcall_bool : CallR X (.type "bool") (rC1 X .bool) := by
  rintro pins s σ H xs us Q I r ⟨F, M, d, z, x, rfl, sub, hd, hz, hq⟩
  cases d with
  | int i =>
    cases hz
    obtain rfl := repB_int.mp hd
    exact call_bool1 pins s σ H _ us Q I r (.inl ⟨i, rfl, hq.bl⟩)
  | bl i =>
    cases hz
    obtain rfl := repB_bl.mp hd
    exact call_bool1 pins s σ H _ us Q I r (.inr ⟨i, rfl, hq.bl⟩)
  | _ => cases hz
theorem vcall_str : CallR X (.type "str") (rC1 X .str) := by
  rintro pins s σ H xs us Q I r ⟨F, M, d, z, x, rfl, sub, hd, hz, hq⟩
  cases d with
  | int i =>
    simp only [callD] at hz
    split at hz
    · rename_i hl
      cases hz
      obtain rfl := repB_int.mp hd
      exact call_str_int pins s σ H _ us Q I r ⟨i, rfl, hl, hq.val (rep_str.mpr ⟨rfl, toString_len i hl⟩)⟩
    · cases hz
  | _ => cases hz
theorem vcall_tuple : CallR X (.type "tuple") (rC1 X .tuple) := by
  rintro pins s σ H xs us Q I r ⟨F, M, d, z, x, rfl, sub, hd, hz, hq⟩
  cases d with
  | tup ds =>
    cases hz
    obtain ⟨a, xs, rfl, h1, h2⟩ := repB_tup.mp hd
    exact call_tuple_of pins s σ H _ us Q I r ⟨a, xs, rfl, .inr ⟨sqT_same sub h1, hq.val (rep_tup.mpr ⟨a, xs, rfl, h1, h2⟩)⟩⟩
  | lst ds =>
    cases hz
    obtain ⟨a, xs, rfl, h1, h2⟩ := hd
    exact call_tuple_of pins s σ H _ us Q I r ⟨a, xs, rfl, .inl ⟨.inl (.inl h1), fun l hl => hq.tup sub hl h2⟩⟩
  | _ => cases hz
theorem vcall_list : CallR X (.type "list") (rC1 X .list) := by
  rintro pins s σ H xs us Q I r ⟨F, M, d, z, x, rfl, sub, hd, hz, hq⟩
  cases d with
  | tup ds =>
    cases hz
    obtain ⟨a, xs, rfl, h1, h2⟩ := repB_tup.mp hd
    exact call_list_of pins s σ H _ us Q I r ⟨a, xs, rfl, .inr (sqT_same sub h1), fun l hl => hq.own hl h2⟩
  | lst ds =>
    cases hz
    obtain ⟨a, xs, rfl, h1, h2⟩ := hd
    exact call_list_of pins s σ H _ us Q I r ⟨a, xs, rfl, .inl (.inl (.inl h1)), fun l hl => hq.own hl h2⟩
  | _ => cases hz
theorem vcall_all (hc : X.calm = true) : CallR X (.builtin "all") (rC1 X .all) := by
  rintro pins s σ H xs us Q I r ⟨F, M, d, z, x, rfl, sub, hd, hz, hq⟩
  cases d with
  | lst ds =>
    obtain ⟨a, xs, rfl, h1, h2⟩ := hd
    have hz : (blsD ds).map (fun bs => Rv.val (.bl (bs.all id))) = some z := hz
    cases q : blsD ds with
    | none => rw [q] at hz; cases hz
    | some bs =>
      rw [q] at hz; cases hz
      have e := bls_map q h2
      subst e
      exact cr_all hc pins s σ H _ us Q I r ⟨a, bs, rfl, .inl (.inl h1), hq.bl⟩
  | _ => cases hz
theorem vcall_any (hc : X.calm = true) : CallR X (.builtin "any") (rC1 X .any) := by
  rintro pins s σ H xs us Q I r ⟨F, M, d, z, x, rfl, sub, hd, hz, hq⟩
  cases d with
  | lst ds =>
    obtain ⟨a, xs, rfl, h1, h2⟩ := hd
    have hz : (blsD ds).map (fun bs => Rv.val (.bl (bs.any id))) = some z := hz
    cases q : blsD ds with
    | none => rw [q] at hz; cases hz
    | some bs =>
      rw [q] at hz; cases hz
      have e := bls_map q h2
      subst e
      exact cr_any hc pins s σ H _ us Q I r ⟨a, bs, rfl, .inl (.inl h1), hq.bl⟩
  | _ => cases hz
theorem vcall_sum (hc : X.calm = true) : CallR X (.builtin "sum") (rC1 X .sum) := by
  rintro pins s σ H xs us Q I r ⟨F, M, d, z, x, rfl, sub, hd, hz, hq⟩
  cases d with
  | lst ds =>
    obtain ⟨a, xs, rfl, h1, h2⟩ := hd
    have hz : (intsD ds).map (fun ns => Rv.val (.int ns.sum)) = some z := hz
    cases q : intsD ds with
    | none => rw [q] at hz; cases hz
    | some bs =>
      rw [q] at hz; cases hz
      have e := ints_map q h2
      subst e
      exact cr_sum hc pins s σ H _ us Q I r ⟨a, bs, rfl, .inl (.inl h1), hq.int⟩
  | _ => cases hz
/-- which value a built-in function's name holds -/
def Bf.val : Bf → Value
  | .len => .builtin "len"
  | .abs => .builtin "abs"
  | .int => .type "int"
  | .bool => .type "bool"
  | .str => .type "str"
  | .tuple => .type "tuple"
  | .list => .type "list"
  | .all => .builtin "all"
  | .any => .builtin "any"
  | .sum => .builtin "sum"
  | .max1 => .builtin "max"
theorem vcall (hc : X.calm = true) {f : Bf} : CallR X f.val (rC1 X f) := by
  cases f with
  | len => exact vcall_len
  | abs => exact vcall_abs
  | int => exact vcall_int
  | bool => exact vcall_bool
  | str => exact vcall_str
  | tuple => exact vcall_tuple
  | list => exact vcall_list
  | all => exact vcall_all hc
  | any => exact vcall_any hc
  | sum => exact vcall_sum hc
  | max1 => rintro pins s σ H xs us Q I r ⟨F, M, d, z, x, rfl, sub, hd, hz, hq⟩; cases hz
theorem bf_boot (f : Bf) : bootBuiltins f.name = some f.val := by cases f <;> decide +kernel
theorem bf_nm (f : Bf) : f.name ≠ "__name__" ∧ (f.name == ("__debug__" : Str)) = false := by cases f <;> decide +kernel
def Bf2.val : Bf2 → Value
  | .max => .builtin "max"
  | .min => .builtin "min"
def rC2 (X : Cx) (f : Bf2) : List V → Hp → VK → Prop := fun xs H Q => ∃ F d e z x y, xs = [x, y] ∧ Same F H ∧ RB X F H d x ∧ RB X F H e y ∧ call2D f d e = some z ∧ RQ X F H z Q
theorem vcall2 (hc : X.calm = true) {f : Bf2} : CallR X f.val (rC2 X f) := by
  rintro pins s σ H xs us Q I r ⟨F, d, e, z, x, y, rfl, sub, hd, he, hz, hq⟩
  have : ∃ i j, d = .int i ∧ e = .int j := by
    cases d with
    | int i => cases e with
      | int j => exact ⟨i, j, rfl, rfl⟩
      | _ => cases f <;> cases hz
    | _ => cases f <;> cases hz
  obtain ⟨i, j, rfl, rfl⟩ := this
  obtain rfl := repB_int.mp hd; obtain rfl := repB_int.mp he
  cases f with
  | max => cases hz; exact call_max2 hc pins s σ H _ us Q I r ⟨i, j, rfl, hq.int⟩
  | min => cases hz; exact call_min2 hc pins s σ H _ us Q I r ⟨i, j, rfl, hq.int⟩
theorem bf2_boot (f : Bf2) : bootBuiltins f.name = some f.val := by cases f <;> decide +kernel
theorem bf2_nm (f : Bf2) : f.name ≠ "__name__" ∧ (f.name == ("__debug__" : Str)) = false := by cases f <;> decide +kernel

/-! ### isinstance -/
def Ty.ty : Ty → String
  | .int => "int"
  | .bool => "bool"
  | .str => "str"
  | .tuple => "tuple"
  | .list => "list"
theorem ty_boot (t : Ty) : bootBuiltins t.name = some (.type t.ty) := by cases t <;> decide +kernel
theorem ty_nm (t : Ty) : t.name ≠ "__name__" ∧ (t.name == ("__debug__" : Str)) = false := by cases t <;> decide +kernel
theorem kit_non (K : PySem.W.Frag) (t : Ty) : PySem.W.kitOne K (.type "NoneType") (.type t.ty) = some false := by cases t <;> kernel_rfl
theorem kit_bool (K : PySem.W.Frag) (t : Ty) : PySem.W.kitOne K (.type "bool") (.type t.ty) = some (decide (t = .int) || decide (t = .bool)) := by cases t <;> kernel_rfl
theorem kit_int (K : PySem.W.Frag) (t : Ty) : PySem.W.kitOne K (.type "int") (.type t.ty) = some (decide (t = .int)) := by cases t <;> kernel_rfl
theorem kit_str (K : PySem.W.Frag) (t : Ty) : PySem.W.kitOne K (.type "str") (.type t.ty) = some (decide (t = .str)) := by cases t <;> kernel_rfl
theorem kit_tup (K : PySem.W.Frag) (t : Ty) : PySem.W.kitOne K (.type "tuple") (.type t.ty) = some (decide (t = .tuple)) := by cases t <;> kernel_rfl
theorem kit_lst (K : PySem.W.Frag) (t : Ty) : PySem.W.kitOne K (.type "list") (.type t.ty) = some (decide (t = .list)) := by cases t <;> kernel_rfl
def rIsi (X : Cx) (t : Ty) : List V → Hp → VK → Prop := fun xs H Q => ∃ F d z x, xs = [x, .ty t.ty] ∧ Same F H ∧ RB X F H d x ∧ isD t d = some z ∧ Q (.bl z) H
theorem vcall_isi {t : Ty} : CallR X (.builtin "isinstance") (rIsi X t) := by
  rintro pins s σ H xs us Q I r ⟨F, d, z, x, rfl, sub, hd, hz, hq⟩
  obtain ⟨u1, u2, rfl, r1, r2⟩ := vals2 r
  cases r2
  have fin : ∀ tk, EP X pins σ Q (.bool z) { s with toks := tk } := fun tk => ⟨.bl z, H, I.tok tk, rfl, hq⟩
  cases d with
  | non =>
    cases hz; obtain rfl := repB_non.mp hd; cases r1
    exact PySem.W.kia_one PySem.W.kitx_none I.kIn True.intro (kit_non X.K t) (fun z => nomatch z) fin
  | bl b =>
    cases hz; obtain rfl := repB_bl.mp hd; cases r1
    exact PySem.W.kia_one PySem.W.kitx_bool I.kIn True.intro (kit_bool X.K t) (fun z => nomatch z) fin
  | int i =>
    cases hz; obtain rfl := repB_int.mp hd; obtain ⟨_, rfl⟩ := r1
    exact PySem.W.kia_one PySem.W.kitx_int I.kIn True.intro (kit_int X.K t) (fun z => nomatch z) fin
  | str w =>
    cases hz; obtain ⟨rfl, _⟩ := repB_str.mp hd; obtain ⟨_, rfl⟩ := r1
    exact PySem.W.kia_one PySem.W.kitx_str I.kIn True.intro (kit_str X.K t) (fun z => nomatch z) fin
  | tup ds =>
    cases hz
    obtain ⟨a, xs, rfl, h1, h2⟩ := repB_tup.mp hd; cases r1
    obtain ⟨its, rv, ⟨o, e1, e2, _⟩, _⟩ := I.tuple (sqT_same sub h1)
    exact PySem.W.kia_one PySem.W.kitx_tuple I.kIn ⟨o, e1, e2⟩ (kit_tup X.K t) (fun z => nomatch z) fin
  | lst ds =>
    cases hz
    obtain ⟨a, xs, rfl, h1, h2⟩ := hd; cases r1
    obtain ⟨_, its, n, _, e1⟩ := (show ObjOk X.prog X.w H s.heap a (.lst xs) from I.hok a _ h1)
    exact PySem.W.kia_one PySem.W.kitx_list I.kIn ⟨_, e1, rfl⟩ (kit_lst X.K t) (fun z => nomatch z) fin
  | _ => cases hz

/-! ### truth -/
theorem tru_of {F H : Hp} {d : Dat} {x : V} {z : Bool} (sub : Same F H) (h : RB X F H d x) (e : truD d = some z) : TruV X.K x H z := by
  cases d with
  | non => cases e; obtain rfl := repB_non.mp h; rfl
  | bl b => cases e; obtain rfl := repB_bl.mp h; rfl
  | int i => cases e; obtain rfl := repB_int.mp h; rfl
  | str s => cases e; obtain ⟨rfl, l⟩ := repB_str.mp h; exact ⟨l, rfl⟩
  | tup ds =>
    cases e
    obtain ⟨a, xs, rfl, h1, h2⟩ := repB_tup.mp h
    refine .inr (.inl ⟨xs, sqT_same sub h1, ?_⟩)
    have := h2.length
    cases ds <;> cases xs <;> first | rfl | (simp at this)
  | lst ds =>
    cases e
    obtain ⟨a, xs, rfl, h1, h2⟩ := h
    refine .inl ⟨xs, .inl (.inl h1), ?_⟩
    have := h2.length
    cases ds <;> cases xs <;> first | rfl | (simp at this)
  | _ => cases e
end
end Mi

set_option maxHeartbeats 4000000
/-! Mi6l: a lambda without parameters, its context, its reading. -/
namespace Mi
open PySem PySem.Spec PyProof.Rows L2 LamX
/-- the lambda's context, errors told with their context -/
def lamN (X : Cx) (A : Around) (outer : List PySem.Env) (s : Shared) (H : Hp) (E : XK) (scope : Scope) (f c' : Addr) : Cx :=
  (lamCx X A outer s H E scope f c').tr [] fun e s' => wpAny (model X.prog X.w) (A.deeper (lamEnv X scope s.heap.objs.size f c')) (leaving (lamEnv X scope s.heap.objs.size f c') e) (fun _ s'' => L2N.CX X.prog X.w outer H s E e s'') (fun e' s'' => L2N.CX X.prog X.w outer H s E e' s'') s'
theorem lamN_takes {X : Cx} {A : Around} {outer : List PySem.Env} {s : Shared} {H : Hp} {E : XK} {scope : Scope} {f c' : Addr} : L2N.Takes (lamN X A outer s H E scope f c') (fun cls d _ H => E cls d H) := L2N.takes_of rfl rfl rfl rfl
/-- all but the tables told stay -/
def ExtT (T : List (Addr × Str)) (H H1 : Hp) : Prop := ∀ b o, H b = some o → b ∉ T.map (·.1) → H1 b = some o
/-- how an exception is told -/
def wishK (mg : Str → Option Value) (kd : Str → Option (Str × Option Str)) (Q : VK) : XK := fun cls d H => ∃ c C t a, mg c = some (.ref C) ∧ cls = .ref C ∧ kd c = some (t, a) ∧ match a with
  | none => d = none ∧ ∀ H2, Same H H2 → ∀ x, H2 x = none → Q (.ref x) (upd H2 x (.tup [.str t]))
  | some n => ∃ dd v, d = some dd ∧ H dd = some (.xd [(n, v)]) ∧ ∀ H2, Same H H2 → ∀ x, H2 x = none → Q (.ref x) (upd H2 x (.tup [.str t, v]))
/-- _law_call(lambda: ..) -/
def tLaw (T : List (Addr × Str)) (mg : Str → Option Value) (kd : Str → Option (Str × Option Str)) (t : XK → TE) : TE := fun σ H Q => Tabs T H ∧ ∀ H1, ExtT T H H1 → Tabs T H1 →
  t (wishK mg kd Q) σ H1 fun v H' => ∀ x, H' x = none → Q (.ref x) (upd H' x (.tup [.str "told", v]))
def noArgs : Arguments := ⟨[], [], none, [], [], none, []⟩
/-- the rule of _law_call(lambda: ..) in X -/
def LamOk (X : Cx) (T : List (Addr × Str)) (κ : Nat) (kd : Str → Option (Str × Option Str)) : Prop :=
  ∀ {body : Expr} {scope : Scope} {p lpos pos : Pos} {t : XK → TE}, Gl X "_law_call" → LamS X.env.scope scope →
    (∀ (A : Around) (outer : List PySem.Env) (s : Shared) (H : Hp) (E : XK) (f c' : Addr), Room κ (A.deeper (lamEnv X scope s.heap.objs.size f c')) → PE (lamN X A outer s H E scope f c') body (t E)) →
    PE X (.Call (.Name "_law_call" p) [.Lambda noArgs body scope lpos] [] pos) (tLaw T X.mg kd t)
end Mi

set_option maxHeartbeats 4000000
/-! Mi7: promises of defs, contexts, the check that a text is that of the small machine, readings. -/
namespace Mi
open PySem PySem.Spec PyProof.Rows L2

/-! ### a call's end, a def's promise -/
structure CallEnd (K : PySem.W.Frag) (mg : Str → Option Value) (T : List (Addr × Str)) (F : Hp) (M : MH) (H : Hp) (F' : Hp) (M' : MH) (H' : Hp) : Prop where
  f : Same F F'
  mr : MR K mg T F' M' H'
  new : ∀ a, H a ≠ none → F a = none → F' a = none
  old : ∀ a o, H a = some o → M a = none → (∀ ps, o ≠ .tbl ps) → H' a = some o
  there : ∀ a, H a ≠ none → H' a ≠ none
  md : ∀ a, M a ≠ none → M' a ≠ none
  mn : ∀ a, M' a ≠ none → M a = none → H a = none
def RetR (K : PySem.W.Frag) (mg : Str → Option Value) (H : Hp) (F' : Hp) (M' : MH) (H' : Hp) (r : Rv) (v : V) : Prop := match r with
  | .val d => Rep K mg F' d v
  | .own o => ∃ a, v = .ref a ∧ OwnR K mg F' H' o a ∧ F' a = none ∧ H a = none ∧ M' a = none
  | .bor _ => False
def ExcR (K : PySem.W.Frag) (mg : Str → Option Value) (F' H' : Hp) (e : Exc) (cls : Value) (d : Option Addr) : Prop :=
  ∃ C, mg e.cls = some (.ref C) ∧ cls = .ref C ∧ match e.att with
    | none => d = none
    | some (n, dv) => ∃ dd v, d = some dd ∧ H' dd = some (.xd [(n, v)]) ∧ Rep K mg F' dv v
def spOf (K : PySem.W.Frag) (mg : Str → Option Value) (T : List (Addr × Str)) (np : Nat) (S : Spec) : Sp := fun vs H Q E => ∃ F M ds Q0 X0, MR K mg T F M H ∧ Reps K mg F ds vs ∧ ds.length = np ∧ S ds M Q0 X0 ∧
  (∀ r M' F' v H', Q0 r M' → CallEnd K mg T F M H F' M' H' → RetR K mg H F' M' H' r v → Q v H') ∧
  (∀ e M' F' c d H', X0 e M' → CallEnd K mg T F M H F' M' H' → ExcR K mg F' H' e c d → E c d H')
theorem CallEnd.refl {K mg T F M H} (h : MR K mg T F M H) : CallEnd K mg T F M H F M H :=
  ⟨Same.refl _, h, fun _ _ z => z, fun _ _ z _ _ => z, fun _ z => z, fun _ z => z, fun _ z w => absurd w z⟩
section
variable {C : Gh} {F F' : Hp} {ρ : Env} {M M' : MH} {σ : St} {H H' : Hp}
theorem R.call (h : R C F ρ M σ H) (e : CallEnd C.K C.mg C.T F M H F' M' H') : R C F' ρ M' σ H' where
  mr := e.mr
  len := h.len
  sl := fun j s q => by
    have z := h.sl j s q
    cases s with
    | no => trivial
    | val d => obtain ⟨v, z1, z2⟩ := z; exact ⟨v, z1, z2.mono e.f⟩
    | own o =>
      obtain ⟨a, z1, z2, z3, z4, z5⟩ := z
      have hne := z2.ex
      refine ⟨a, z1, ?_, e.new a hne z3, z4, ?_⟩
      · refine (z2.mono e.f).move ?_
        cases w : H a with
        | none => exact absurd w hne
        | some u => exact e.old a u w z5 (fun ps z => by
          subst z
          cases o with
          | lst ds => obtain ⟨xs, z, _⟩ := z2; rw [w] at z; cases z)
      · cases w : M' a with
        | none => rfl
        | some u => exact absurd (e.mn a (by rw [w]; exact fun z => nomatch z) z5) hne
  dist := h.dist
  f0 := Same.trans h.f0 e.f
  new := fun a q n => e.new a (h.there a q) (h.new a q n)
  old := fun a o q n m => by
    refine e.old a o (h.old a o q n m) ?_ m
    cases w : M a with
    | none => rfl
    | some u => have := h.mn a (by rw [w]; exact fun z => nomatch z) n; rw [this] at q; cases q
  there := fun a q => e.there a (h.there a q)
  md := fun a q => e.md a (h.md a q)
  mn := fun a q n => by
    cases w : M a with
    | none =>
      have hn := e.mn a q w
      cases w2 : C.H0 a with
      | none => rfl
      | some u => exact absurd hn (h.there a (by rw [w2]; exact fun z => nomatch z))
    | some u => exact h.mn a (by rw [w]; exact fun z => nomatch z) n
theorem R.end_ (h : R C F ρ M σ H) : CallEnd C.K C.mg C.T C.F0 C.M0 C.H0 F M H := ⟨h.f0, h.mr, h.new, h.old, h.there, h.md, h.mn⟩
theorem MR.start {K mg T} {F : Hp} {M : MH} {H : Hp} (m : MR K mg T F M H) {ds : List Dat} {vs : List V} (r : Reps K mg F ds vs) (n : Nat) (hn : vs.length ≤ n) :
    R ⟨K, mg, T, H, F, M⟩ F (startE n ds) M (vs.map some ++ List.replicate (n - vs.length) none) H where
  mr := m
  len := by simp [startE, r.length]
  sl := fun j s q => by
    unfold startE at q
    by_cases hj : j < ds.length
    · rw [List.getElem?_append_left (by simpa using hj), List.getElem?_map] at q
      cases w : ds[j]? with
      | none => rw [w] at q; cases q
      | some d =>
        rw [w] at q; cases q
        obtain ⟨x, e1, e2⟩ := r.get w
        refine ⟨x, ?_, e2⟩
        rw [List.getElem?_append_left (by simp [r.length]; exact hj), List.getElem?_map, e1]; rfl
    · rw [List.getElem?_append_right (by simpa using hj)] at q
      have := List.mem_of_getElem? q
      rw [List.mem_replicate] at this
      rw [this.2]; trivial
  dist := fun j k o p a e1 _ _ _ => by
    unfold startE at e1
    have := List.mem_of_getElem? e1
    simp only [List.mem_append, List.mem_map, List.mem_replicate] at this
    rcases this with ⟨d, _, e⟩ | ⟨_, e⟩ <;> cases e
  f0 := Same.refl _
  new := fun _ _ z => z
  old := fun _ _ z _ _ => z
  there := fun _ z => z
  md := fun _ z => z
  mn := fun _ z w => absurd w z
end

/-! ### contexts -/
/-- a text's names by places, its scope -/
structure Cs where
  N : List Str
  sc : Scope
  /-- the scope whose names are stored -/
  raw : Scope
  /-- lambdas may stand here -/
  lm : Bool
/-- a def that keeps its promise -/
def Fk (P : Program) (w : World) (K : PySem.W.Frag) (mg : Str → Option Value) (T : List (Addr × Str)) (base : Heap) (κ : Nat) (f : Str) (S : Spec) : Prop :=
  ∃ k a fd ps, k ≤ κ ∧ (∀ ds M Q X, S ds M Q X → ds.length = ps.length) ∧ mg f = some (.ref a) ∧ PySem.W.keepIn K (.ref a) = true ∧ Binds K fd ps [] ∧ FnOk P w K mg base (L2N.CX P w) k a fd ps (spOf K mg T ps.length S)
/-- the wish of errors -/
def xE (C : Gh) (XP : PX) : XK := fun c d H => ∃ e F M, CallEnd C.K C.mg C.T C.F0 C.M0 C.H0 F M H ∧ ExcR C.K C.mg F H e c d ∧ XP e M
/-- names of built-ins that the small machine uses -/
def btNames : List Str := ["len", "abs", "int", "bool", "str", "tuple", "list", "all", "any", "sum", "max", "min", "isinstance", "range", "zip"]
/-- the promise of an error class's __init__ that keeps its argument as n -/
def spInit (C : Addr) (n : Str) : Sp := fun vs H Q _ => ∃ (a : Addr) (v : V), vs = [.ref a, v] ∧ H a = some (exo a C none) ∧ ∀ d, H d = none → d ≠ a → Q .non (upd (upd H d (exd d [(n, v)])) a (exo a C (some d)))
def veBm : List Value := [.type "ValueError", .type "Exception", .type "BaseException", .type "object"]
/-- an error class: its making, by its attribute -/
def Ek (P : Program) (w : World) (K : PySem.W.Frag) (mg : Str → Option Value) (base : Heap) (κ : Nat) (c : Str) (at_ : Option Str) : Prop := ∃ C : Addr, mg c = some (.ref C) ∧ match at_ with
  | none => PySem.W.keepIn K (.ref C) = true ∧ PySem.W.excIn K C veBm "ValueError.__new__" = true ∧ PySem.W.subIn K (.ref C) (.type "BaseException") = some true ∧ PySem.W.typeIn K (.ref C) = some (.type "type")
  | some n => OexC K C ∧ ∃ (fI : Addr) (fd : FuncData) (k : Nat) (ps : List Str), PySem.W.findIn K (.ref C) "__init__" = some (some (.ref fI)) ∧ PySem.W.typeIn K (.ref fI) = some (.type "function") ∧ FnOk P w K mg base CX0 k fI fd ps (spInit C n) ∧ k + 1 ≤ κ ∧ Binds K fd ps []
/-- a table of the module, its keys texts -/
def Tk (K : PySem.W.Frag) (w : World) (mg : Str → Option Value) (t : Str) (tab : List (Str × Dat)) : Prop := ∃ a es n, mg t = some (.ref a) ∧ KDict K w a es n ∧ ∀ z, match getS z tab with
  | some d => ∃ u v, PySem.W.nsIn K a z = some (some u) ∧ RelV v u ∧ Rep K mg (fun _ => none) d v
  | none => PySem.W.nsIn K a z = some none
structure Okc (X : Cx) (C : Gh) (Γ : Kn) (κ : Nat) (c : Cs) (XP : PX) : Prop where
  K : C.K = X.K
  mg : C.mg = X.mg
  N : X.N = c.N
  sc : X.env.scope = c.sc
  nd : X.N.Nodup
  calm : X.calm = true
  room : Room κ X.A
  fn : ∀ f S, Γ.fn f = some S → Fk X.prog X.w X.K X.mg C.T X.base κ f S
  gl : ∀ x d, Γ.gl x = some d → ∃ u v, X.mg x = some u ∧ RelV v u ∧ Rep X.K X.mg (fun _ => none) d v
  bt : ∀ x, x ∈ btNames → X.mg x = none
  tb : ∀ t l, Γ.tab t = some l → Tk X.K X.w X.mg t l
  ex : ∀ c a, Γ.exc c = some a → Ek X.prog X.w X.K X.mg X.base κ c a
  xp : L2N.Takes X (fun c d _ H => xE C XP c d H)
  lk : c.lm = true → ∃ κ', LamOk X C.T κ' Γ.kd ∧ (∀ f S, Γ.fn f = some S → Fk X.prog X.w X.K X.mg C.T X.base κ' f S) ∧ (∀ c a, Γ.exc c = some a → Ek X.prog X.w X.K X.mg X.base κ' c a) ∧ ∀ c t a, Γ.kd c = some (t, a) → t.length ≤ sizeLine
  rl : ∀ x, c.raw.names.lookup x = some .local → X.env.scope.names.lookup x = some .local
  rc : ∀ x, c.raw.names.lookup x = some .cell → X.env.scope.names.lookup x = some .cell ∧ X.fn x = true

/-! ### the check -/
def Cs.var (c : Cs) (i : Nat) (x : Str) : Bool := decide (c.N[i]? = some x) && (match c.sc.names.lookup x with | some .local => true | some .cell => true | some .free => true | _ => false) &&
  !(x == ("__debug__" : Str)) && !(x == ("__classdict__" : Str))
def Cs.glb (c : Cs) (x : Str) : Bool := decide (c.sc.names.lookup x = some .globalImplicit) && !(x == ("__debug__" : Str))
/-- a name that is stored -/
def Cs.loc (c : Cs) (i : Nat) (x : Str) : Bool := decide (c.N[i]? = some x) && (match c.raw.names.lookup x with | some .local => true | some .cell => true | _ => false)
def cstOk : Dat → Const → Bool
  | .non, .none => true
  | .bl b, .bool a => a == b
  | .int i, .int j => decide (i = j)
  | .str s, .str t => decide (s = t) && decide (s.length ≤ 1000)
  | _, _ => false
def keysOk : List Str → List (Option Expr) → Bool
  | [], [] => true
  | k :: ks, some (.Constant (.str s) _ _) :: es => decide (k = s) && keysOk ks es
  | _, _ => false
def cstsOk : List Dat → List Expr → Bool
  | [], [] => true
  | d :: ds, .Constant k _ _ :: ps => cstOk d k && cstsOk ds ps
  | _, _ => false
def ownOk (N : List Str) (own : List Nat) : List (Str × Nat) := own.map fun i => ((N[i]?).getD Str.empty, i)
def chkTg (c : Cs) (own : Option (List Nat)) : Tg → Expr → Bool
  | .var i, py => match py with
    | .Name x _ => c.loc i x && own.all (fun l => l.contains i)
    | _ => false
  | .tup is, py => match py with
    | .Tuple ps _ _ => decide (is.length = ps.length) && decide is.Nodup && (is.zip ps).all fun p => match p.2 with
      | .Name x _ => c.loc p.1 x && own.all (fun l => l.contains p.1)
      | _ => false
    | _ => false
/-- no star, no slice, no set's display -/
def okX : Expr → Bool
  | .Starred .. => false
  | .Slice .. => false
  | .Set .. => false
  | _ => true
/-- a test by its value's truth -/
def plainT : Expr → Bool
  | .UnaryOp .Not _ _ => false
  | .BoolOp .. => false
  | .IfExp .. => false
  | .Compare .. => false
  | _ => true
/-- a receiver: a name, a text -/
def strX : Expr → Bool
  | .Name .. => true
  | .Constant .. => true
  | _ => false
/-- zip's items go to a tuple of names -/
def tgOk : It → Expr → Bool
  | .zip _, .Tuple .. => true
  | .zip _, _ => false
  | _, _ => true
mutual
def chkE (c : Cs) : E → Expr → Bool
  | .var i, py => match py with | .Name x _ => c.var i x | _ => false
  | .cst d, py => match py with | .Constant k _ _ => cstOk d k | _ => false
  | .glb x, py => match py with | .Name y _ => decide (y = x) && c.glb y | _ => false
  | .gfn x, py => match py with | .Name y _ => decide (y = x) && c.glb y | _ => false
  | .tup es, py => match py with | .Tuple ps _ _ => chkEs c es ps && decide (ps.length ≤ 1000) | _ => false
  | .lst es, py => match py with | .List ps _ => chkEs c es ps && decide (ps.length ≤ 1000) | _ => false
  | .bag es, py => match py with | .List ps _ => chkEs c es ps && decide (ps.length ≤ 1000) | _ => false
  | .bin op a b, py => match py with | .BinOp l o r _ => decide (o = op) && chkE c a l && chkE c b r | _ => false
  | .neg a, py => match py with | .UnaryOp .USub l _ => chkE c a l | _ => false
  | .cmp op a b, py => match py with | .Compare l [o] [r] _ => decide (o = op) && okX r && chkE c a l && chkE c b r | _ => false
  | .isn a, py => match py with | .Compare l [.Is] [.Constant .none _ _] _ => chkE c a l | _ => false
  | .isnn a, py => match py with | .Compare l [.IsNot] [.Constant .none _ _] _ => chkE c a l | _ => false
  | .chn op1 op2 a b d, py => match py with | .Compare l [o, o2] [r, t] _ => decide (o = op1) && decide (o2 = op2) && okX r && okX t && chkE c a l && chkE c b r && chkE c d t | _ => false
  | .bop op es, py => match py with | .BoolOp o ps _ => decide (o = op) && chkEs c es ps | _ => false
  | .not a, py => match py with | .UnaryOp .Not l _ => chkE c a l | _ => false
  | .ite d a b, py => match py with | .IfExp t l r _ => chkE c d t && chkE c a l && chkE c b r | _ => false
  | .idx a b, py => match py with | .Subscript l r _ => okX r && chkE c a l && chkE c b r | _ => false
  | .slc a lo hi, py => match py with | .Subscript l (.Slice p q none _) _ => chkE c a l && chkO c lo p && chkO c hi q | _ => false
  | .rev a, py => match py with | .Subscript l (.Slice none none (some (.UnaryOp .USub (.Constant (.int i) _ _) _)) _) _ => decide (i = 1) && chkE c a l | _ => false
  | .call f es, py => match py with | .Call (.Name x _) ps [] _ => decide (x = f) && c.glb x && chkEs c es ps | _ => false
  | .callv i es, py => match py with | .Call (.Name x _) ps [] _ => c.var i x && (match ps with | _ :: _ => true | [] => false) && chkEs c es ps | _ => false
  | .bf f a, py => match py with | .Call (.Name x _) [p] [] _ => decide (x = f.name) && c.glb x && okX p && chkE c a p | _ => false
  | .bf2 f a b, py => match py with | .Call (.Name x _) [p, q] [] _ => decide (x = f.name) && c.glb x && okX p && okX q && chkE c a p && chkE c b q | _ => false
  | .op2 o a b, py => match o, py with
    | .sumT, .Call (.Name x _) [p, q] [] _ => decide (x = "sum") && c.glb x && okX p && okX q && chkE c a p && chkE c b q
    | .join, .Call (.Attribute p m apos) [q] [] pos => decide (m = "join") && okX q && chkE c a p && chkE c b q && (apos.endLine == pos.line) && strX p
    | .split, .Call (.Attribute p m apos) [q] [] pos => decide (m = "split") && okX q && chkE c a p && chkE c b q && (apos.endLine == pos.line) && strX p
    | .index, .Call (.Attribute p m apos) [q] [] pos => decide (m = "index") && okX q && chkE c a p && chkE c b q && (apos.endLine == pos.line) && strX p
    | _, _ => false
  | .isi a t, py => match py with | .Call (.Name x _) [p, .Name y _] [] _ => decide (x = "isinstance") && c.glb x && decide (y = t.name) && c.glb y && okX p && chkE c a p | _ => false
  | .dget ks vs key x, py => match py with
    | .Call (.Attribute (.Dict es ps _) m apos) [p, q] [] pos => decide (m = "get") && keysOk ks es && cstsOk vs ps && okX p && okX q && chkE c key p && chkE c x q && (apos.endLine == pos.line) && decide (ks.length ≤ 15) && decide (1 ≤ ks.length) && decide (ks.length = vs.length) && decide ks.Nodup
    | _ => false
  | .dgetE ks vs key x, py => match py with
    | .Call (.Attribute (.Dict es ps _) m apos) [p, q] [] pos => decide (m = "get") && keysOk ks es && chkEs c vs ps && okX p && okX q && chkE c key p && chkE c x q && (apos.endLine == pos.line) && decide (ks.length ≤ 15) && decide (1 ≤ ks.length) && decide (ks.length = ps.length) && decide ks.Nodup
    | _ => false
  | .gget t key x, py => match py with
    | .Call (.Attribute (.Name y _) m apos) [p, q] [] pos => decide (m = "get") && decide (y = t) && c.glb y && okX p && okX q && chkE c key p && chkE c x q && (apos.endLine == pos.line)
    | _ => false
  | .lc elt gs own, py => match py with
    | .ListComp e ps scope _ => blkC c.N c.sc scope (ownOk c.N own) && decide own.Nodup && chkG c ⟨c.N, relS scope c.sc, scope, false⟩ own true gs ps && chkE ⟨c.N, relS scope c.sc, scope, false⟩ elt e
    | _ => false
  | .lcall fz e, py => match py with
    | .Call (.Name x _) [.Lambda ⟨[], [], none, [], [], none, []⟩ body scope _] [] _ => c.lm && decide (x = "_law_call") && c.glb x && LamX.lamSB c.sc scope && chkE ⟨c.N, scope, scope, false⟩ e body
    | _ => false
def chkEs (c : Cs) : Es → List Expr → Bool
  | .nil, ps => match ps with | [] => true | _ => false
  | .cons e es, ps => match ps with | p :: ps => okX p && chkE c e p && chkEs c es ps | _ => false
def chkO (c : Cs) : Es → Option Expr → Bool
  | .nil, p => match p with | none => true | _ => false
  | .cons e es, p => match p, es with | some p, .nil => chkE c e p | _, _ => false
def chkIt (c : Cs) : It → Expr → Bool
  | .seq e, py => chkE c e py
  | .rng es, py => match py with | .Call (.Name x _) ps [] _ => decide (x = "range") && c.glb x && chkEs c es ps && (match ps with | _ :: _ => true | [] => false) | _ => false
  | .zip es, py => match py with | .Call (.Name x _) [p, q] [] _ => decide (x = "zip") && c.glb x && chkEs c es [p, q] | _ => false
/-- the clauses: c the place of the first source, c' of all else -/
def chkG (c c' : Cs) (own : List Nat) (first : Bool) : Gs → List Comprehension → Bool
  | .cons _ _ _ (.cons _ _ _ (.cons _ _ _ _)), _ => false
  | .nil, ps => match ps with | [] => !first | _ => false
  | .cons t it ifs gs, ps => match ps with
    | ⟨tg, iter, fs, n⟩ :: ps => decide (n = 0) && okX iter && chkTg c' (some own) t tg && (tgOk it tg && chkIt (if first then c else c') it iter) && chkEs c' ifs fs && decide (fs.length ≤ 1) && chkG c c' own false gs ps
    | _ => false
end
end Mi

set_option autoImplicit false
set_option maxHeartbeats 4000000
/-! Mi8: readings of the small machine's text, construct by construct. -/
namespace Mi
open PySem PySem.Spec PyProof.Rows L2

def pendOf : Rv → Sl
  | .val d => .val d
  | .own o => .own o
  | .bor _ => .no
/-- a result as it stands beside the places -/
structure RR (C : Gh) (F : Hp) (ρ pd : Env) (M : MH) (σ pv : St) (H : Hp) (r : Rv) (x : V) : Prop where
  st : R C F (ρ ++ (pd ++ [pendOf r])) M (σ ++ (pv ++ [some x])) H
  len : ρ.length = σ.length
  bor : ∀ i, r = .bor i → σ[i]? = some (some x)
def liftE (C : Gh) (w : Env → MH → PE_ → Prop) : TE := fun σ H Q => ∃ F ρ pd M pv P, R C F (ρ ++ pd) M (σ ++ pv) H ∧ ρ.length = σ.length ∧ w ρ M P ∧
  ∀ r ρ' M' F' x H', P r ρ' M' → Same F F' → RR C F' ρ' pd M' σ pv H' r x → Q x H'
def liftA (C : Gh) (w : Env → MH → PA_ → Prop) : TA := fun σ H Q => ∃ F ρ pd M pv P, R C F (ρ ++ pd) M (σ ++ pv) H ∧ ρ.length = σ.length ∧ w ρ M P ∧
  ∀ ds ρ' M' F' xs H', P ds ρ' M' → Same F F' → R C F' (ρ' ++ pd) M' (σ ++ pv) H' → ρ'.length = σ.length → C.reps F' ds xs → Q xs H'
/-- as a test -/
def liftT (C : Gh) (w : Env → MH → PE_ → Prop) : TT := fun σ H Q => ∃ F ρ pd M pv P, R C F (ρ ++ pd) M (σ ++ pv) H ∧ ρ.length = σ.length ∧ w ρ M P ∧
  ∀ r ρ' M' F' x H', P r ρ' M' → Same F F' → RR C F' ρ' pd M' σ pv H' r x → ∃ d z, peek r ρ' = some d ∧ truD d = some z ∧ Q z H'

section
variable {C : Gh} {F F' : Hp} {ρ ρ' pd : Env} {M M' : MH} {σ pv : St} {H H' : Hp} {r q : Rv} {x y : V} {d : Dat}

theorem get_mid {α : Type} {a b c : List α} {x : α} : (a ++ (b ++ (x :: c)))[a.length + b.length]? = some x := by
  rw [List.getElem?_append_right (by omega), List.getElem?_append_right (by omega)]
  have : a.length + b.length - a.length - b.length = 0 := by omega
  rw [this]; rfl
theorem R.lens (h : R C F (ρ ++ pd) M (σ ++ pv) H) (l : ρ.length = σ.length) : pd.length = pv.length := by
  have := h.len; simp at this; omega
theorem RR.base (h : RR C F ρ pd M σ pv H r x) : R C F (ρ ++ pd) M (σ ++ pv) H := by
  have := h.st
  rw [← List.append_assoc, ← List.append_assoc] at this
  exact this.pop_
theorem RR.sub (h : RR C F ρ pd M σ pv H r x) : Same F H := h.st.mr.sub
/-- what is read of a result later on -/
theorem peek_at {pd2 : Env} {pv2 : St} (h : R C F (ρ ++ (pd ++ (pendOf r :: pd2))) M (σ ++ (pv ++ (some x :: pv2))) H) (l : ρ.length = σ.length) (l2 : pd.length = pv.length) (hb : ∀ i, r = .bor i → σ[i]? = some (some x)) (e : peek r ρ = some d) : RepB C.K C.mg F H d x := by
  have e1 := get_mid (a := ρ) (b := pd) (x := pendOf r) (c := pd2)
  have e2 := get_mid (a := σ) (b := pv) (x := some x) (c := pv2)
  rw [← l, ← l2] at e2
  cases r with
  | val c =>
    have e : some c = some d := e
    cases e
    obtain ⟨v, z1, z2⟩ := h.slv e1
    rw [e2] at z1; cases z1
    exact RepB.of z2 h.mr.sub
  | own o =>
    have e : some o.dat = some d := e
    cases e
    obtain ⟨a, z1, z2, _⟩ := h.slo e1
    rw [e2] at z1; cases z1
    exact RepB.ofOwn z2
  | bor i =>
    have e : (match ρ[i]? with | some s => slD s | none => none) = some d := e
    have es := hb i rfl
    cases w : ρ[i]? with
    | none => rw [w] at e; cases e
    | some s =>
      rw [w] at e
      have hi : i < ρ.length := (List.getElem?_eq_some_iff.mp w).1
      have w' : (ρ ++ (pd ++ (pendOf (.bor i) :: pd2)))[i]? = some s := by rw [List.getElem?_append_left hi]; exact w
      have es' : (σ ++ (pv ++ (some x :: pv2)))[i]? = some (some x) := by rw [List.getElem?_append_left (by omega)]; exact es
      cases s with
      | no => cases e
      | val c =>
        cases e
        obtain ⟨v, z1, z2⟩ := h.slv w'
        rw [es'] at z1; cases z1
        exact RepB.of z2 h.mr.sub
      | own o =>
        cases e
        obtain ⟨a, z1, z2, _⟩ := h.slo w'
        rw [es'] at z1; cases z1
        exact RepB.ofOwn z2
theorem RR.peek (h : RR C F ρ pd M σ pv H r x) (e : peek r ρ = some d) : RepB C.K C.mg F H d x :=
  peek_at (pd2 := []) (pv2 := []) h.st h.len (h.base.lens h.len) h.bor e
/-- kept by someone -/
theorem RR.esc (h : RR C F ρ pd M σ pv H r x) (e : escD r ρ = some (d, ρ')) : ∃ F', Same F F' ∧ R C F' (ρ' ++ (pd ++ [.val d])) M (σ ++ (pv ++ [some x])) H ∧ ρ'.length = σ.length ∧ C.rep F' d x := by
  have l2 := h.base.lens h.len
  cases r with
  | val c =>
    have e : some (c, ρ) = some (d, ρ') := e
    cases e
    refine ⟨F, Same.refl _, h.st, h.len, ?_⟩
    obtain ⟨v, z1, z2⟩ := h.st.slv (i := ρ.length + pd.length) get_mid
    have e2 := get_mid (a := σ) (b := pv) (x := some x) (c := [])
    rw [← h.len, ← l2] at e2
    rw [e2] at z1; cases z1
    exact z2
  | own o =>
    have e : some (o.dat, ρ) = some (d, ρ') := e
    cases e
    have hr := h.st
    rw [← List.append_assoc, ← List.append_assoc] at hr
    obtain ⟨F', v, f1, f2, f3, f4⟩ := R.frzLast (o := o) hr
    cases f2
    refine ⟨F', f1, ?_, h.len, f3⟩
    rw [← List.append_assoc, ← List.append_assoc]
    exact f4.pushV f3
  | bor i =>
    have es := h.bor i rfl
    have e : (match ρ[i]? with | some (.val d) => some (d, ρ) | some (.own o) => some (o.dat, ρ.set i (.val o.dat)) | _ => none) = some (d, ρ') := e
    have hb := h.base
    cases w : ρ[i]? with
    | none => rw [w] at e; cases e
    | some s =>
      rw [w] at e
      have hi : i < ρ.length := (List.getElem?_eq_some_iff.mp w).1
      have w' : (ρ ++ pd)[i]? = some s := by rw [List.getElem?_append_left hi]; exact w
      have es' : (σ ++ pv)[i]? = some (some x) := by rw [List.getElem?_append_left (by have := h.len; omega)]; exact es
      cases s with
      | no => cases e
      | val c =>
        cases e
        obtain ⟨v, z1, z2⟩ := hb.slv w'
        rw [es'] at z1; cases z1
        refine ⟨F, Same.refl _, ?_, h.len, z2⟩
        rw [← List.append_assoc, ← List.append_assoc]
        exact hb.pushV z2
      | own o =>
        cases e
        obtain ⟨F', v, f1, f2, f3, f4⟩ := hb.frz w'
        rw [es'] at f2; cases f2
        refine ⟨F', f1, ?_, by simp [h.len], f3⟩
        rw [List.set_append_left _ _ hi] at f4
        rw [← List.append_assoc, ← List.append_assoc]
        exact f4.pushV f3
/-- the end of a step: the result, by values -/
theorem res_of (h : R C F (ρ ++ pd) M (σ ++ pv) H) (l : ρ.length = σ.length) {z : Rv} {Q : VK} (nb : ∀ i, z ≠ .bor i) (k : ∀ F' x H', Same F F' → RR C F' ρ pd M σ pv H' z x → Q x H') : ResQ C.K C.mg F H z Q := by
  cases z with
  | val d =>
    intro F' x H' fz rp
    obtain ⟨e, h'⟩ := fz.R h
    refine k F' x H' e ⟨?_, l, fun i w => nomatch w⟩
    rw [← List.append_assoc, ← List.append_assoc]
    exact h'.pushV rp
  | own o =>
    cases o with
    | lst ds =>
      intro p xs hp rp
      refine k F (.ref p) _ (Same.refl _) ⟨?_, l, fun i w => nomatch w⟩
      rw [← List.append_assoc, ← List.append_assoc]
      exact h.push hp rp
  | bor i => exact absurd rfl (nb i)
end

/-! ### construct by construct -/
section
variable {X : Cx} {C : Gh} {l r : Expr} {wa wb wc : Env → MH → PE_ → Prop} {pos : Pos}

theorem PE.imp {X : Cx} {e : Expr} {t t' : TE} (h : PE X e t) (k : ∀ σ H Q, t' σ H Q → t σ H Q) : PE X e t' := ⟨fun pins s σ H Q I q => h.run pins s σ H Q I (k σ H Q q)⟩
theorem PT.imp {X : Cx} {e : Expr} {t t' : TT} (h : PT X e t) (k : ∀ σ H Q, t' σ H Q → t σ H Q) : PT X e t' := ⟨fun pins s σ H Q I q => h.run pins s σ H Q I (k σ H Q q)⟩
theorem PA.imp {X : Cx} {e : List Expr} {t t' : TA} (h : PA X e t) (k : ∀ σ H Q, t' σ H Q → t σ H Q) : PA X e t' := ⟨fun pos pins s σ H Q I q => h.run pos pins s σ H Q I (k σ H Q q)⟩

/-- a value that needs no step -/
theorem snd_val {e : Expr} {v : V} {d : Dat} (h : PE X e (tC v)) (r : ∀ F, Rep C.K C.mg F d v) : PE X e (liftE C fun ρ M P => P (.val d) ρ M) := by
  refine PE.imp h fun σ H Q ⟨F, ρ, pd, M, pv, P, hr, hl, hw, hk⟩ => ?_
  refine hk _ _ _ F v H hw (Same.refl _) ⟨?_, hl, fun i z => nomatch z⟩
  rw [← List.append_assoc, ← List.append_assoc]
  exact hr.pushV (r F)
/-- two operands, one behind the other -/
theorem lift2 {σ : St} {H : Hp} {Q : VK} {T : V → V → Hp → Prop} {k : Rv → Rv → Env → MH → PE_ → Prop}
    (h : liftE C (fun ρ M P => wa ρ M fun r ρ M => wb ρ M fun q ρ M => k r q ρ M P) σ H Q)
    (fin : ∀ F ρ pd M pv P r q x y H, R C F (ρ ++ pd) M (σ ++ pv) H → ρ.length = σ.length → (∀ d, peek r ρ = some d → RepB C.K C.mg F H d x) → (∀ d, peek q ρ = some d → RepB C.K C.mg F H d y) →
      k r q ρ M P → (∀ z ρ' M' F' x H', P z ρ' M' → Same F F' → RR C F' ρ' pd M' σ pv H' z x → Q x H') → T x y H) :
    liftE C wa σ H fun x H1 => liftE C wb σ H1 fun y H2 => T x y H2 := by
  obtain ⟨F, ρ, pd, M, pv, P, hr, hl, hw, hk⟩ := h
  refine ⟨F, ρ, pd, M, pv, _, hr, hl, hw, fun r ρ1 M1 F1 x H1 w1 s1 r1 => ?_⟩
  have l2 := hr.lens hl
  refine ⟨F1, ρ1, pd ++ [pendOf r], M1, pv ++ [some x], _, r1.st, r1.len, w1, fun q ρ2 M2 F2 y H2 w2 s2 r2 => ?_⟩
  have hb := r2.base
  have e1 : R C F2 (ρ2 ++ (pd ++ (pendOf r :: []))) M2 (σ ++ (pv ++ (some x :: []))) H2 := hb
  have e0 : R C F2 (ρ2 ++ pd) M2 (σ ++ pv) H2 := by
    rw [← List.append_assoc, ← List.append_assoc] at e1
    exact e1.pop_
  exact fin F2 ρ2 pd M2 pv P r q x y H2 e0 r2.len (fun d e => peek_at e1 r2.len l2 r1.bor e) (fun d e => r2.peek e) w2 fun z ρ' M' F' x H' a b c => hk z ρ' M' F' x H' a (Same.trans (Same.trans s1 s2) b) c
/-- one operand -/
theorem lift1 {σ : St} {H : Hp} {Q : VK} {T : V → Hp → Prop} {k : Rv → Env → MH → PE_ → Prop}
    (h : liftE C (fun ρ M P => wa ρ M fun r ρ M => k r ρ M P) σ H Q)
    (fin : ∀ F ρ pd M pv P r x H, R C F (ρ ++ pd) M (σ ++ pv) H → ρ.length = σ.length → RR C F ρ pd M σ pv H r x → (∀ d, peek r ρ = some d → RepB C.K C.mg F H d x) →
      k r ρ M P → (∀ z ρ' M' F' x H', P z ρ' M' → Same F F' → RR C F' ρ' pd M' σ pv H' z x → Q x H') → T x H) :
    liftE C wa σ H fun x H1 => T x H1 := by
  obtain ⟨F, ρ, pd, M, pv, P, hr, hl, hw, hk⟩ := h
  refine ⟨F, ρ, pd, M, pv, _, hr, hl, hw, fun r ρ1 M1 F1 x H1 w1 s1 r1 => ?_⟩
  exact fin F1 ρ1 pd M1 pv P r x H1 r1.base r1.len r1 (fun d e => r1.peek e) w1 fun z ρ' M' F' x H' a b c => hk z ρ' M' F' x H' a (Same.trans s1 b) c

theorem binD_nb {op : Operator} {d e : Dat} {z : Rv} (h : binD op d e = some z) : ∀ i, z ≠ .bor i := by
  rintro i rfl
  cases op <;> cases d <;> cases e <;> simp [binD, addD, subD, mulD, fdivD, modD, powD] at h <;> (try split at h) <;> simp at h

variable (hK : C.K = X.K) (hmg : C.mg = X.mg)
include hK hmg
theorem snd_bin {op : Operator} (ha : PE X l (liftE C wa)) (hb : PE X r (liftE C wb)) :
    PE X (.BinOp l op r pos) (liftE C fun ρ M P => wa ρ M fun r ρ M => wb ρ M fun q ρ M => oP (peek r ρ) fun d => oP (peek q ρ) fun e => oP (binD op d e) fun z => P z ρ M) := by
  refine PE.imp (pe_op vop_bin ha hb) fun σ H Q h => ?_
  refine lift2 h fun F ρ pd M pv P r q x y H hr hl p1 p2 w hk => ?_
  obtain ⟨d, e1, w⟩ := oP_of w
  obtain ⟨e, e2, w⟩ := oP_of w
  obtain ⟨z, e3, w⟩ := oP_of w
  refine ⟨F, d, e, z, hr.mr.sub, ?_, ?_, e3, ?_⟩
  · have := p1 d e1; rw [hK, hmg] at this; exact this
  · have := p2 e e2; rw [hK, hmg] at this; exact this
  · have := res_of hr hl (Q := Q) (binD_nb e3) fun F' x H' s rr => hk z ρ M F' x H' w s rr
    rw [hK, hmg] at this; exact this
end
end Mi

set_option maxHeartbeats 4000000
/-! Mi8r: t[::-1] of a tuple. -/
namespace HT
open PySem PySem.Spec PyProof.Rows
theorem rev_adjust (n : Nat) : Builtin.Slice.sliceAdjust none none (-1) (n : Int) = ((n : Int) - 1, -1) := rfl
theorem rev_places (n : Nat) : Builtin.Slice.slicePlaces ((n : Int) - 1) (-1) (-1) = n := by
  unfold Builtin.Slice.slicePlaces
  have h1 : ¬ ((-1 : Int) > 0) := by decide
  simp only [h1, if_false]
  split
  · rw [show (- -1 : Int) = 1 by decide, Int.ediv_one]; omega
  · omega
theorem rev_pick (xs : Array Value) : ((List.range xs.size).filterMap fun (m : Nat) => xs[(((xs.size : Int) - 1) + (m : Int) * (-1)).toNat]?).toArray = xs.toList.reverse.toArray := by
  have e : (List.range xs.size).filterMap (fun (m : Nat) => xs[(((xs.size : Int) - 1) + (m : Int) * (-1)).toNat]?) = ((List.range xs.size).map (fun k => xs.size - 1 - k)).filterMap (xs[·]?) := by
    rw [List.filterMap_map]
    have cg : ∀ (l : List Nat), (∀ m ∈ l, m < xs.size) → l.filterMap (fun (m : Nat) => xs[(((xs.size : Int) - 1) + (m : Int) * (-1)).toNat]?) = l.filterMap ((xs[·]?) ∘ fun k => xs.size - 1 - k) := by
      intro l
      induction l with
      | nil => intro _; rfl
      | cons m l ih =>
        intro hl
        have hm := hl m (by simp)
        have e1 : (((xs.size : Int) - 1) + (m : Int) * (-1)).toNat = xs.size - 1 - m := by omega
        rw [List.filterMap_cons, List.filterMap_cons, ih fun k hk => hl k (by simp [hk])]
        simp only [Function.comp, e1]
    exact cg _ fun m hm => List.mem_range.mp hm
  rw [e, PySem.W.krv_range, List.filterMap_reverse, PySem.W.krv_all]
section
variable {prog : Program} {w : World} {A : Around} {E : Value → Shared → Prop} {s : Shared}
theorem sliceApplied_rev {sl : Addr} {vs : Value} {n : Nat} {Q : Int × Int × Nat → Shared → Prop} (hs : s.heap.IsSliceOf sl .none .none vs) (ps : IsPart vs (some (-1)))
    (h : Q ((n : Int) - 1, -1, n) s) : wpAny (model prog w) A (Builtin.Slice.sliceApplied (.ref sl) (pure (n : Int))) Q E s := by
  obtain ⟨os, hos, hcs, hds⟩ := id hs
  unfold Builtin.Slice.sliceApplied Builtin.Slice.sliceFields
  refine wpAny_bind (wpAny_bind (wpAny_field hos hds (x := .none) rfl (wpAny_bind (wpAny_field hos hds (x := .none) rfl (wpAny_bind (wpAny_field hos hds (x := vs) rfl (wpAny_pure ?_)))))))
  refine wpAny_bind (slicePart_ ps ?_)
  show wpAny _ _ (if ((-1 : Int) == 0) = true then _ else _) _ _ s
  rw [if_neg (by decide)]
  refine wpAny_bind (slicePart_none (wpAny_bind (slicePart_none (wpAny_bind (wpAny_pure ?_)))))
  show wpAny _ _ (match Builtin.Slice.sliceAdjust none none (-1) (n : Int) with | (lo, hi) => pure (lo, (-1 : Int), Builtin.Slice.slicePlaces lo hi (-1))) _ _ s
  rw [rev_adjust n]
  show wpAny _ _ (pure ((n : Int) - 1, (-1 : Int), Builtin.Slice.slicePlaces ((n : Int) - 1) (-1) (-1))) _ _ s
  rw [rev_places]
  exact wpAny_pure h
theorem getItem_tuple_rev {t sl : Addr} {items : Array Value} {vs : Value} {Q : Value → Shared → Prop} (ht : IsTup s.heap t items) (hs : s.heap.IsSliceOf sl .none .none vs) (ps : IsPart vs (some (-1)))
    (h : Q (.ref s.heap.objs.size) { s with heap := s.heap.push { cls := .type "tuple", data := .seq items.toList.reverse.toArray } })
    (hsz : items.size ≤ sizeLine) : wpAny (model prog w) A (getItem (.ref t) (.ref sl)) Q E s := by
  have htake : sizeOk (.seq items.toList.reverse.toArray) := by
    show items.toList.reverse.toArray.size ≤ sizeLine
    rw [List.size_toArray, List.length_reverse, Array.length_toList]
    omega
  obtain ⟨os, hos, hcs, hds⟩ := id hs
  have hTs : s.TypeIs (.ref sl) "slice" := ⟨os, hos, hcs⟩
  unfold getItem
  try with_reducible refine wpAny_holding ?_
  first | refine wpAny_bind (wpAny_pure ?_) | skip
  refine wpAny_bind (wpAny_sequenceKey ht.typeIs (by decide) ?_)
  refine wpAny_bind (wpAny_callSpecial?_slot (name := Str.ofString "__getitem__") ht.typeIs PyProof.Rows.slot_tuple_getitem
    (wpAny_call_entry PyProof.Rows.slot_tuple_getitem ht.typeIs entry_tuple_getitem ?_ (args_tuple_getitem _ _)))
  show wpAny _ _ (Builtin.Tuple.tupleItemsOf (.ref t) >>= _) _ _ s
  refine wpAny_bind (tupleItemsOf_ ht ?_)
  refine wpAny_bind (wpAny_typeOf hTs ?_)
  rw [if_pos (by decide)]
  refine wpAny_bind (sliceApplied_rev (n := items.size) hs ps ?_)
  have hno : ¬ ((((items.size : Int) - 1) == 0 && (-1 : Int) == 1 && items.size == items.size) = true) := by
    intro q
    rw [Bool.and_eq_true, Bool.and_eq_true] at q
    exact absurd q.1.2 (by decide)
  show wpAny _ _ (if (((items.size : Int) - 1) == 0 && (-1 : Int) == 1 && items.size == items.size) = true then _ else _) _ _ s
  rw [if_neg hno, rev_pick]
  first
    | exact wpAny_bind (m := Builtin.Tuple.tupleExact _) (wpAny_newObj_type (wpAny_pure ⟨_, rfl, wpAny_pure h⟩) htake)
    | exact wpAny_bind (m := Builtin.Tuple.tupleExact _) (wpAny_newObj_type (wpAny_bind (wpAny_pure (wpAny_pure ⟨_, rfl, wpAny_pure h⟩))) htake)
    | exact wpAny_bind (wpAny_bind (m := Builtin.Tuple.tupleExact _) (wpAny_newObj_type (wpAny_pure (wpAny_pure ⟨_, rfl, wpAny_pure h⟩)) htake))
    | exact wpAny_bind (wpAny_bind (m := Builtin.Tuple.tupleExact _) (wpAny_newObj_type (wpAny_pure ⟨_, rfl, wpAny_pure h⟩) htake))
end
end HT
namespace L2
open PySem PySem.Spec PyProof.Rows
def tRevA (K : PySem.W.Frag) (te : TE) : TE := fun σ H Q => te σ H fun x H1 => ∃ a xs, x = .ref a ∧ ((SqL K H1 a xs ∧ ∀ p, H1 p = none → Q (.ref p) (upd H1 p (.lst xs.reverse))) ∨ (SqT K H1 a xs ∧ ∀ p, H1 p = none → Q (.ref p) (upd H1 p (.tup xs.reverse))))
variable {X : Cx}
theorem pe_revA {e : Expr} {te : TE} {k : Nat} {p1 p2 p3 pos : Pos} (he : PE X e te) : PE X (.Subscript e (.Slice none none (some (.UnaryOp .USub (.Constant (.int 1) k p1) p2)) p3) pos) (tRevA X.K te) := by
  refine ⟨fun pins s σ H Q I h => ?_⟩
  refine Subscript_ (thn (he.run pins s σ H _ I h) fun v s1 ⟨x, H1, I1, r1, q1⟩ => ?_)
  obtain ⟨a, xs, ex, hq⟩ := q1
  subst ex
  cases r1
  have hst : PO X (some (.UnaryOp .USub (.Constant (.int 1) k p1) p2)) (tPart (tUn (rU fun i => .int (-i)) (tC (.int 1)))) := po_some (pe_un un_neg pe_int)
  refine wpAny_Slice (thn (po_none.run pins s1 σ H1 (fun o H2 => o = none ∧ H2 = H1) I1 ⟨rfl, rfl⟩) fun vl s2 ⟨l, H2, I2, pl, el, e2⟩ => ?_)
  subst el e2
  refine thn (po_none.run pins s2 σ H2 (fun o H3 => o = none ∧ H3 = H2) I2 ⟨rfl, rfl⟩) fun vu s3 ⟨u, H3, I3, pu, eu, e3⟩ => ?_
  subst eu e3
  refine thn (hst.run pins s3 σ H3 (fun o H4 => o = some (-1) ∧ H4 = H3) I3 ⟨1, rfl, -1, rfl, rfl, rfl⟩) fun vs s4 ⟨o, H4, I4, ps, eo, e4⟩ => ?_
  subst eo e4
  have I5 : Inv X pins σ H4 { s4 with heap := s4.heap.push { cls := .type "slice", data := .fields #[vl, vu, vs] } } := I4.kept (t' := s4.toks) fun b ob q => Heap.get?_push_of_some _ q
  show wpAny (model X.prog X.w) X.A (subscriptTail e (.Slice none none (some (.UnaryOp .USub (.Constant (.int 1) k p1) p2)) p3) (.ref a) (.ref s4.heap.objs.size)) (EP X pins σ Q) X.xe { s4 with heap := s4.heap.push { cls := .type "slice", data := .fields #[vl, vu, vs] } }
  rcases hq with ⟨hx, q⟩ | ⟨hx, q⟩
  · obtain ⟨its, r, ht, hz⟩ := I5.list hx
    have hlen := r.length
    refine tail_any (ops := [.ref a, .ref s4.heap.objs.size]) ht.isList.typeIs (PySem.slot_list_getitem.lookup) ?_ (by with_unfolding_all rfl)
    refine wpAny_getItem_list_slice ht.isList (Heap.IsSliceOf.new _ vl vu vs) pl pu ps (by decide) ?_ (by rw [List.size_toArray]; omega)
    rw [PySem.W.krv_pick]
    refine ⟨.ref _, _, I5.laid (t' := s4.toks) (o := .lst xs.reverse) (fun b ob q => Heap.get?_push_of_some _ q) (Nat.le_refl _) ?_, rfl, q _ (I5.hok.fresh (Nat.le_refl _))⟩
    exact ⟨by rw [List.length_reverse]; exact hz, _, 0, r.reverse, Heap.get?_push_size _ rfl⟩
  · obtain ⟨its, r, ht, hz⟩ := I5.tuple hx
    have hlen := r.length
    cases pl
    cases pu
    refine tail_any (ops := [.ref a, .ref s4.heap.objs.size]) ht.typeIs (PyProof.Rows.slot_tuple_getitem.lookup) ?_ (by with_unfolding_all rfl)
    refine HT.getItem_tuple_rev ht (Heap.IsSliceOf.new _ .none .none vs) ps ?_ (by rw [List.size_toArray]; omega)
    refine ⟨.ref _, _, I5.laid (t' := s4.toks) (o := .tup xs.reverse) (fun b ob q => Heap.get?_push_of_some _ q) (Nat.le_refl _) ?_, rfl, q _ (I5.hok.fresh (Nat.le_refl _))⟩
    exact ⟨by rw [List.length_reverse]; exact hz, _, r.reverse, IsTup.new _ _⟩
end L2

set_option maxHeartbeats 4000000
/-! Mi9: wp is monotone. -/
namespace Mi
open PySem PySem.Spec PyProof.Rows L2

theorem oP_mono {α : Type} {o : Option α} {k k' : α → Prop} (h : oP o k) (f : ∀ a, o = some a → k a → k' a) : oP o k' := by
  cases o with
  | none => exact h
  | some a => exact f a rfl h
theorem lcOut_mono {body : Dat → List Dat → MH → (List Dat → MH → Prop) → Prop} (hb : ∀ d acc M (k k' : List Dat → MH → Prop), (∀ a m, k a m → k' a m) → body d acc M k → body d acc M k')
    {P P' : List Dat → MH → Prop} (h : ∀ a m, P a m → P' a m) : ∀ ds acc M, lcOut body ds acc M P → lcOut body ds acc M P'
  | [], acc, M, w => h _ _ w
  | d :: ds, acc, M, w => hb d acc M _ _ (fun a m z => lcOut_mono hb h ds a m z) w

section
variable {Γ : Kn}
mutual
theorem wpE_mono {X : PX} : ∀ (e : E) {ρ : Env} {M : MH} {P P' : PE_}, (∀ r ρ M, P r ρ M → P' r ρ M) → wpE Γ X e ρ M P → wpE Γ X e ρ M P'
  | .var i, ρ, M, P, P', f, h => by
    unfold wpE at h ⊢
    revert h
    cases ρ[i]? with
    | none => exact id
    | some s => cases s with
      | no => exact id
      | val d => exact f _ _ _
      | own o => exact f _ _ _
  | .cst d, ρ, M, P, P', f, h => by unfold wpE at h ⊢; exact f _ _ _ h
  | .glb x, ρ, M, P, P', f, h => by unfold wpE at h ⊢; exact oP_mono h fun _ _ => f _ _ _
  | .gfn x, ρ, M, P, P', f, h => by unfold wpE at h ⊢; exact oP_mono h fun _ _ => f _ _ _
  | .tup es, ρ, M, P, P', f, h => by unfold wpE at h ⊢; exact wpEs_mono es (fun _ _ _ => f _ _ _) h
  | .lst es, ρ, M, P, P', f, h => by unfold wpE at h ⊢; exact wpEs_mono es (fun _ _ _ => f _ _ _) h
  | .bag es, ρ, M, P, P', f, h => by unfold wpE at h ⊢; exact wpEs_mono es (fun _ _ _ h a ha => f _ _ _ (h a ha)) h
  | .bin op a b, ρ, M, P, P', f, h => by
    unfold wpE at h ⊢
    exact wpE_mono a (fun _ _ _ h => wpE_mono b (fun _ _ _ h => oP_mono h fun _ _ h => oP_mono h fun _ _ h => oP_mono h fun _ _ => f _ _ _) h) h
  | .neg a, ρ, M, P, P', f, h => by
    unfold wpE at h ⊢
    exact wpE_mono a (fun _ _ _ h => oP_mono h fun _ _ h => oP_mono h fun _ _ => f _ _ _) h
  | .cmp op a b, ρ, M, P, P', f, h => by
    unfold wpE at h ⊢
    exact wpE_mono a (fun _ _ _ h => wpE_mono b (fun _ _ _ h => oP_mono h fun _ _ h => oP_mono h fun _ _ h => oP_mono h fun _ _ => f _ _ _) h) h
  | .isn a, ρ, M, P, P', f, h => by
    unfold wpE at h ⊢
    exact wpE_mono a (fun _ _ _ h => oP_mono h fun _ _ => f _ _ _) h
  | .isnn a, ρ, M, P, P', f, h => by
    unfold wpE at h ⊢
    exact wpE_mono a (fun _ _ _ h => oP_mono h fun _ _ => f _ _ _) h
  | .chn op1 op2 a b c, ρ, M, P, P', f, h => by
    unfold wpE at h ⊢
    refine wpE_mono a (fun _ _ _ h => wpE_mono b (fun _ _ _ h => oP_mono h fun _ _ h => oP_mono h fun _ _ h => oP_mono h fun z _ h => ?_) h) h
    cases z with
    | false => exact f _ _ _ h
    | true => exact wpE_mono c (fun _ _ _ h => oP_mono h fun _ _ h => oP_mono h fun _ _ h => oP_mono h fun _ _ => f _ _ _) h
  | .bop op es, ρ, M, P, P', f, h => by unfold wpE at h ⊢; exact wpB_mono es f h
  | .not a, ρ, M, P, P', f, h => by
    unfold wpE at h ⊢
    exact wpE_mono a (fun _ _ _ h => oP_mono h fun _ _ h => oP_mono h fun _ _ => f _ _ _) h
  | .ite c a b, ρ, M, P, P', f, h => by
    unfold wpE at h ⊢
    refine wpE_mono c (fun _ _ _ h => oP_mono h fun _ _ h => oP_mono h fun z _ h => ?_) h
    cases z with
    | true => exact wpE_mono a f h
    | false => exact wpE_mono b f h
  | .idx a b, ρ, M, P, P', f, h => by
    unfold wpE at h ⊢
    exact wpE_mono a (fun _ _ _ h => wpE_mono b (fun _ _ _ h => oP_mono h fun _ _ h => oP_mono h fun _ _ h => oP_mono h fun _ _ => f _ _ _) h) h
  | .slc a lo hi, ρ, M, P, P', f, h => by
    unfold wpE at h ⊢
    refine wpE_mono a (fun _ _ _ h => wpEs_mono lo (fun ls _ _ h => oP_mono h fun _ _ h => wpEs_mono hi (fun hs _ _ h => oP_mono h fun d _ h => oP_mono h fun _ _ h => oP_mono h fun _ _ => f _ _ _) h) h) h
  | .rev a, ρ, M, P, P', f, h => by
    unfold wpE at h ⊢
    exact wpE_mono a (fun _ _ _ h => oP_mono h fun _ _ h => oP_mono h fun _ _ => f _ _ _) h
  | .call g es, ρ, M, P, P', f, h => by
    unfold wpE at h ⊢
    exact oP_mono h fun _ _ h => wpEs_mono es (fun _ _ _ ⟨Q0, h1, h2⟩ => ⟨Q0, h1, fun r M' q => f _ _ _ (h2 r M' q)⟩) h
  | .callv i es, ρ, M, P, P', f, h => by
    unfold wpE at h ⊢
    revert h
    split
    · exact fun h => oP_mono h fun _ _ h => wpEs_mono es (fun _ _ _ ⟨Q0, h1, h2⟩ => ⟨Q0, h1, fun r M' q => f _ _ _ (h2 r M' q)⟩) h
    · exact id
  | .bf g a, ρ, M, P, P', f, h => by
    unfold wpE at h ⊢
    exact wpE_mono a (fun _ _ _ h => oP_mono h fun _ _ h => oP_mono h fun _ _ => f _ _ _) h
  | .bf2 g a b, ρ, M, P, P', f, h => by
    unfold wpE at h ⊢
    exact wpE_mono a (fun _ _ _ h => wpE_mono b (fun _ _ _ h => oP_mono h fun _ _ h => oP_mono h fun _ _ h => oP_mono h fun _ _ => f _ _ _) h) h
  | .op2 o a b, ρ, M, P, P', f, h => by
    unfold wpE at h ⊢
    exact wpE_mono a (fun _ _ _ h => oP_mono h fun _ _ h => ⟨h.1, wpE_mono b (fun _ _ _ h => oP_mono h fun _ _ h => oP_mono h fun _ _ h => oP_mono h fun _ _ => f _ _ _) h.2⟩) h
  | .isi a t, ρ, M, P, P', f, h => by
    unfold wpE at h ⊢
    exact wpE_mono a (fun _ _ _ h => oP_mono h fun _ _ h => oP_mono h fun _ _ => f _ _ _) h
  | .dget ks vs key x, ρ, M, P, P', f, h => by
    unfold wpE at h ⊢
    exact wpE_mono key (fun _ _ _ h => wpE_mono x (fun _ _ _ h => oP_mono h fun p _ h => oP_mono h fun _ _ h => oP_mono h fun _ _ => f _ _ _) h) h
  | .dgetE ks vs key x, ρ, M, P, P', f, h => by
    unfold wpE at h ⊢
    exact wpEs_mono vs (fun _ _ _ h => wpE_mono key (fun _ _ _ h => wpE_mono x (fun _ _ _ h => oP_mono h fun p _ h => oP_mono h fun _ _ h => oP_mono h fun _ _ => f _ _ _) h) h) h
  | .gget t key x, ρ, M, P, P', f, h => by
    unfold wpE at h ⊢
    refine oP_mono h fun _ _ h => wpE_mono key (fun _ _ _ h => wpE_mono x (fun _ _ _ h => oP_mono h fun p _ h => oP_mono h fun _ _ h => oP_mono h fun _ _ => f _ _ _) h) h
  | .lc elt gs own, ρ, M, P, P', f, h => by
    unfold wpE at h ⊢
    exact wpG_mono gs (fun ρ M k k' g h => wpE_mono elt (fun _ _ _ h => oP_mono h fun _ _ h => ⟨h.1, g _ _ h.2⟩) h) (fun _ _ => f _ _ _) h
  | .lcall fz e, ρ, M, P, P', f, h => by
    unfold wpE at h ⊢
    obtain ⟨P0, h1, h2⟩ := h
    exact ⟨P0, h1, fun d M z => f _ _ _ (h2 d M z)⟩
theorem wpEs_mono {X : PX} : ∀ (es : Es) {ρ : Env} {M : MH} {P P' : PA_}, (∀ r ρ M, P r ρ M → P' r ρ M) → wpEs Γ X es ρ M P → wpEs Γ X es ρ M P'
  | .nil, ρ, M, P, P', f, h => by unfold wpEs at h ⊢; exact f _ _ _ h
  | .cons e es, ρ, M, P, P', f, h => by
    unfold wpEs at h ⊢
    exact wpE_mono e (fun _ _ _ h => oP_mono h fun _ _ h => wpEs_mono es (fun _ _ _ => f _ _ _) h) h
theorem wpB_mono {X : PX} {op : PySem.BoolOp} : ∀ (es : Es) {ρ : Env} {M : MH} {P P' : PE_}, (∀ r ρ M, P r ρ M → P' r ρ M) → wpB Γ X op es ρ M P → wpB Γ X op es ρ M P'
  | .nil, ρ, M, P, P', f, h => by unfold wpB at h; exact h.elim
  | .cons e .nil, ρ, M, P, P', f, h => by unfold wpB at h ⊢; exact wpE_mono e f h
  | .cons e (.cons e2 es), ρ, M, P, P', f, h => by
    unfold wpB at h ⊢
    refine wpE_mono e (fun _ _ _ h => oP_mono h fun _ _ h => oP_mono h fun z _ h => ?_) h
    cases op <;> cases z
    · exact f _ _ _ h
    · exact wpB_mono (.cons e2 es) f h
    · exact wpB_mono (.cons e2 es) f h
    · exact f _ _ _ h
theorem wpIt_mono {X : PX} {fz : Bool} : ∀ (it : It) {ρ : Env} {M : MH} {P P' : PA_}, (∀ r ρ M, P r ρ M → P' r ρ M) → wpIt Γ X fz it ρ M P → wpIt Γ X fz it ρ M P'
  | .seq e, ρ, M, P, P', f, h => by unfold wpIt at h ⊢; exact wpE_mono e (fun _ _ _ h => oP_mono h fun _ _ => f _ _ _) h
  | .rng es, ρ, M, P, P', f, h => by unfold wpIt at h ⊢; exact wpEs_mono es (fun _ _ _ h => oP_mono h fun _ _ => f _ _ _) h
  | .zip es, ρ, M, P, P', f, h => by unfold wpIt at h ⊢; exact wpEs_mono es (fun _ _ _ h => oP_mono h fun _ _ => f _ _ _) h
theorem wpIf_mono {X : PX} : ∀ (es : Es) {ρ : Env} {M : MH} {P P' : Bool → Env → MH → Prop}, (∀ r ρ M, P r ρ M → P' r ρ M) → wpIf Γ X es ρ M P → wpIf Γ X es ρ M P'
  | .nil, ρ, M, P, P', f, h => by unfold wpIf at h ⊢; exact f _ _ _ h
  | .cons e es, ρ, M, P, P', f, h => by
    unfold wpIf at h ⊢
    refine wpE_mono e (fun _ _ _ h => oP_mono h fun _ _ h => oP_mono h fun z _ h => ?_) h
    cases z
    · exact f _ _ _ h
    · exact wpIf_mono es f h
theorem wpG_mono {X : PX} {bd : Env → MH → (Dat → MH → Prop) → Prop} : ∀ (gs : Gs) {own : List Nat} {ρ : Env} {acc : List Dat} {M : MH} {P P' : List Dat → MH → Prop},
    (∀ ρ M (k k' : Dat → MH → Prop), (∀ d m, k d m → k' d m) → bd ρ M k → bd ρ M k') → (∀ a M, P a M → P' a M) → wpG Γ X bd gs own ρ acc M P → wpG Γ X bd gs own ρ acc M P'
  | .nil, own, ρ, acc, M, P, P', hb, f, h => by
    unfold wpG at h ⊢
    exact hb _ _ _ _ (fun d m q => ⟨q.1, f _ _ q.2⟩) h
  | .cons t it ifs gs, own, ρ, acc, M, P, P', hb, f, h => by
    unfold wpG at h ⊢
    refine ⟨h.1, wpIt_mono it (fun ds ρ1 M h => ⟨h.1, ?_⟩) h.2⟩
    refine lcOut_mono ?_ f _ _ _ h.2
    intro d acc M k k' g h
    refine oP_mono h fun ρ2 _ h => ?_
    refine wpIf_mono ifs (fun b ρ3 M h => ⟨h.1, ?_⟩) h
    have h := h.2
    cases b
    · exact g _ _ h
    · exact wpG_mono gs hb g h
end
def Es.len : Es → Nat
  | .nil => 0
  | .cons _ es => es.len + 1
theorem wpEs_len {X : PX} : ∀ (es : Es) {ρ : Env} {M : MH} {P : PA_}, wpEs Γ X es ρ M P → wpEs Γ X es ρ M fun ds ρ M => ds.length = es.len ∧ P ds ρ M
  | .nil, ρ, M, P, h => by unfold wpEs at h ⊢; exact ⟨rfl, h⟩
  | .cons e es, ρ, M, P, h => by
    unfold wpEs at h ⊢
    refine wpE_mono e (fun _ _ _ h => oP_mono h fun _ _ h => wpEs_mono es (fun _ _ _ h => ?_) (wpEs_len es h)) h
    exact ⟨by simp [Es.len, h.1], h.2⟩
theorem chkEs_len {c : Cs} : ∀ {es : Es} {ps : List Expr}, chkEs c es ps = true → es.len = ps.length
  | .nil, [], _ => rfl
  | .nil, _ :: _, h => by simp [chkEs] at h
  | .cons _ _, [], h => by simp [chkEs] at h
  | .cons e es, p :: ps, h => by
    simp only [chkEs, Bool.and_eq_true] at h
    simp [Es.len, chkEs_len h.2]
end
end Mi

set_option maxHeartbeats 4000000
/-! Mi10: readings, construct by construct, as a value and as a test. -/
namespace Mi
open PySem PySem.Spec PyProof.Rows L2

abbrev WE := Env → MH → PE_ → Prop
abbrev WA := Env → MH → PA_ → Prop
abbrev Post := Rv → Env → V → Hp → Prop
def liftG (C : Gh) (w : WE) (σ : St) (H : Hp) (post : Post) : Prop := ∃ F ρ pd M pv P, R C F (ρ ++ pd) M (σ ++ pv) H ∧ ρ.length = σ.length ∧ w ρ M P ∧
  ∀ r ρ' M' F' x H', P r ρ' M' → Same F F' → RR C F' ρ' pd M' σ pv H' r x → post r ρ' x H'
theorem liftE_G {C : Gh} {w : WE} {σ : St} {H : Hp} {Q : VK} : liftE C w σ H Q ↔ liftG C w σ H fun _ _ x H' => Q x H' := Iff.rfl
def tPost (Q : Bool → Hp → Prop) : Post := fun r ρ' _ H' => ∃ d z, peek r ρ' = some d ∧ truD d = some z ∧ Q z H'
theorem liftT_G {C : Gh} {w : WE} {σ : St} {H : Hp} {Q : Bool → Hp → Prop} : liftT C w σ H Q ↔ liftG C w σ H (tPost Q) := Iff.rfl
theorem liftE_mono {C : Gh} {w : WE} {σ : St} {H : Hp} {Q Q' : VK} (h : liftE C w σ H Q) (f : ∀ x H, Q x H → Q' x H) : liftE C w σ H Q' := by
  obtain ⟨F, ρ, pd, M, pv, P, hr, hl, hw, hk⟩ := h
  exact ⟨F, ρ, pd, M, pv, P, hr, hl, hw, fun r ρ' M' F' x H' a b c => f _ _ (hk r ρ' M' F' x H' a b c)⟩

section
variable {C : Gh} {F F' : Hp} {ρ ρ' pd : Env} {M M' : MH} {σ pv : St} {H H' : Hp} {r q : Rv} {x y : V} {d : Dat} {wa wb wc : WE}
theorem RR.val (h : R C F (ρ ++ pd) M (σ ++ pv) H) (l : ρ.length = σ.length) (e : C.rep F d x) : RR C F ρ pd M σ pv H (.val d) x := by
  refine ⟨?_, l, fun i z => nomatch z⟩
  rw [← List.append_assoc, ← List.append_assoc]
  exact h.pushV e
theorem RR.int (h : R C F (ρ ++ pd) M (σ ++ pv) H) (l : ρ.length = σ.length) (i : Int) : RR C F ρ pd M σ pv H (.val (.int i)) (.int i) := RR.val h l (rep_int.mpr rfl)
theorem RR.bl (h : R C F (ρ ++ pd) M (σ ++ pv) H) (l : ρ.length = σ.length) (i : Bool) : RR C F ρ pd M σ pv H (.val (.bl i)) (.bl i) := RR.val h l (rep_bl.mpr rfl)
/-- two results, one behind the other -/
structure RR2 (C : Gh) (F : Hp) (ρ pd : Env) (M : MH) (σ pv : St) (H : Hp) (r q : Rv) (x y : V) : Prop where
  st : R C F (ρ ++ (pd ++ ([pendOf r] ++ [pendOf q]))) M (σ ++ (pv ++ ([some x] ++ [some y]))) H
  len : ρ.length = σ.length
  pl : pd.length = pv.length
  bx : ∀ i, r = .bor i → σ[i]? = some (some x)
  bor : ∀ i, q = .bor i → σ[i]? = some (some y)
theorem RR2.base (h : RR2 C F ρ pd M σ pv H r q x y) : R C F (ρ ++ pd) M (σ ++ pv) H := by
  have e1 := h.st
  rw [← List.append_assoc, ← List.append_assoc (as := σ)] at e1
  exact e1.prefix_ (by simp [h.len, h.pl])
theorem RR2.peek1 (h : RR2 C F ρ pd M σ pv H r q x y) (e : peek r ρ = some d) : RepB C.K C.mg F H d x := peek_at (pd2 := [pendOf q]) (pv2 := [some y]) h.st h.len h.pl h.bx e
theorem RR2.peek2 (h : RR2 C F ρ pd M σ pv H r q x y) (e : peek q ρ = some d) : RepB C.K C.mg F H d y := by
  have e1 := h.st
  refine peek_at (M := M) (pd := pd ++ [pendOf r]) (pv := pv ++ [some x]) (pd2 := []) (pv2 := []) ?_ h.len (by simp [h.pl]) h.bor e
  rw [List.append_assoc, List.append_assoc]
  exact e1
theorem RR2.rr (h : RR2 C F ρ pd M σ pv H r q x y) : RR C F ρ (pd ++ [pendOf r]) M σ (pv ++ [some x]) H q y := by
  refine ⟨?_, h.len, h.bor⟩
  have e1 := h.st
  rw [List.append_assoc, List.append_assoc]
  exact e1
theorem lift1G {post : Post} {T : V → Hp → Prop} {k : Rv → Env → MH → PE_ → Prop}
    (h : liftG C (fun ρ M P => wa ρ M fun r ρ M => k r ρ M P) σ H post)
    (fin : ∀ F ρ pd M pv P r x H, RR C F ρ pd M σ pv H r x → k r ρ M P → (∀ z ρ' M' F' x H', P z ρ' M' → Same F F' → RR C F' ρ' pd M' σ pv H' z x → post z ρ' x H') → T x H) :
    liftE C wa σ H fun x H1 => T x H1 := by
  obtain ⟨F, ρ, pd, M, pv, P, hr, hl, hw, hk⟩ := h
  refine ⟨F, ρ, pd, M, pv, _, hr, hl, hw, fun r ρ1 M1 F1 x H1 w1 s1 r1 => ?_⟩
  exact fin F1 ρ1 pd M1 pv P r x H1 r1 w1 fun z ρ' M' F' x H' a b c => hk z ρ' M' F' x H' a (Same.trans s1 b) c
theorem lift2G {post : Post} {T : V → V → Hp → Prop} {k : Rv → Rv → Env → MH → PE_ → Prop}
    (h : liftG C (fun ρ M P => wa ρ M fun r ρ M => wb ρ M fun q ρ M => k r q ρ M P) σ H post)
    (fin : ∀ F ρ pd M pv P r q x y H, RR2 C F ρ pd M σ pv H r q x y → k r q ρ M P → (∀ z ρ' M' F' x H', P z ρ' M' → Same F F' → RR C F' ρ' pd M' σ pv H' z x → post z ρ' x H') → T x y H) :
    liftE C wa σ H fun x H1 => liftE C wb σ H1 fun y H2 => T x y H2 := by
  obtain ⟨F, ρ, pd, M, pv, P, hr, hl, hw, hk⟩ := h
  refine ⟨F, ρ, pd, M, pv, _, hr, hl, hw, fun r ρ1 M1 F1 x H1 w1 s1 r1 => ?_⟩
  have l2 := hr.lens hl
  refine ⟨F1, ρ1, pd ++ [pendOf r], M1, pv ++ [some x], _, r1.st, r1.len, w1, fun q ρ2 M2 F2 y H2 w2 s2 r2 => ?_⟩
  have e1 := r2.st
  rw [List.append_assoc, List.append_assoc (as := pv)] at e1
  exact fin F2 ρ2 pd M2 pv P r q x y H2 ⟨e1, r2.len, l2, r1.bor, r2.bor⟩ w2 fun z ρ' M' F' x H' a b c => hk z ρ' M' F' x H' a (Same.trans (Same.trans s1 s2) b) c
end

section
variable {X : Cx} {C : Gh} {Γ : Kn} {κ : Nat} {c : Cs} {XP : PX} {wa wb wc : WE} {σ : St} {H : Hp} {post : Post}
theorem Okc.rb (O : Okc X C Γ κ c XP) {F H : Hp} {d : Dat} {x : V} (h : RepB C.K C.mg F H d x) : RB X F H d x := by rw [O.K, O.mg] at h; exact h
theorem Okc.rq (O : Okc X C Γ κ c XP) {F H : Hp} {z : Rv} {Q : VK} (h : ResQ C.K C.mg F H z Q) : RQ X F H z Q := by rw [O.K, O.mg] at h; exact h
theorem Okc.un (O : Okc X C Γ κ c XP) : X.A.units + 64 < cLine := O.room.units
theorem Okc.mhr (O : Okc X C Γ κ c XP) {F : Hp} {M : MH} {H : Hp} (h : MR C.K C.mg C.T F M H) : MHR X F M H := by
  have := h.mh
  rw [O.K, O.mg] at this
  exact this
theorem Okc.rep (O : Okc X C Γ κ c XP) {F : Hp} {d : Dat} {x : V} (h : Rep X.K X.mg F d x) : C.rep F d x := by
  show Rep C.K C.mg F d x
  rw [O.K, O.mg]; exact h

/-! ### shapes -/
theorem isTrue_plainT {e : Expr} (h : plainT e = true) : ∀ env whole, isTrue e env whole = (do let v ← whole; standAt e.pos; holding [v] (truthy v)) := by
  intro env whole
  cases e with
  | UnaryOp op a p => cases op <;> first | rfl | cases h
  | BoolOp => cases h
  | IfExp => cases h
  | Compare => cases h
  | _ => rfl
theorem star_okX {e : Expr} (h : okX e = true) (es : List Expr) (env : PySem.Env) : starEach (e :: es) env = (false, eval e env) :: starEach es env := by
  cases e <;> first | rfl | cases h
theorem plainIx_okX {e : Expr} (h : okX e = true) : PlainIx e := by
  intro o i
  cases e <;> first | rfl | cases h
theorem marks_okX {e : Expr} (h : okX e = true) (op : CmpOp) : behindInMarks op e = false := by
  cases e <;> first | rfl | cases h
theorem any_star {ps : List Expr} {pos : Pos} {env : PySem.Env} (h : ∀ p ∈ ps, okX p = true) : (backTo pos (starEach ps env)).any (·.1) = false := by
  induction ps with
  | nil => rfl
  | cons p ps ih =>
    rw [star_okX (h p (by simp))]
    have := ih fun q hq => h q (by simp [hq])
    show ((backTo pos ((false, eval p env) :: starEach ps env)).any (·.1)) = false
    revert this
    cases ps with
    | nil => intro _; rfl
    | cons q qs =>
      rw [star_okX (h q (by simp))]
      intro this
      simp only [backTo, List.map_cons, List.any_cons, Bool.false_or] at this ⊢
      simpa using this
theorem chkEs_ok {c : Cs} : ∀ {es : Es} {ps : List Expr}, chkEs c es ps = true → ∀ p ∈ ps, okX p = true
  | .nil, [], _ => fun _ h => by simp at h
  | .nil, _ :: _, h => by simp [chkEs] at h
  | .cons _ _, [], h => by simp [chkEs] at h
  | .cons e es, p :: ps, h => by
    simp only [chkEs, Bool.and_eq_true] at h
    intro q hq
    rcases List.mem_cons.mp hq with e | e
    · exact e ▸ h.1.1
    · exact chkEs_ok h.2 q e

/-! ### tests by truth -/
theorem pt_plain (O : Okc X C Γ κ c XP) {py : Expr} {w : WE} (h : PE X py (liftE C w)) (hp : plainT py = true) : PT X py (liftT C w) := by
  refine PT.imp (pt_truth h (isTrue_plainT hp X.env)) fun σ H Q q => ?_
  obtain ⟨F, ρ, pd, M, pv, P, hr, hl, hw, hk⟩ := q
  refine ⟨F, ρ, pd, M, pv, P, hr, hl, hw, fun r ρ' M' F' x H' a b c => ?_⟩
  obtain ⟨d, z, e1, e2, e3⟩ := hk r ρ' M' F' x H' a b c
  exact ⟨z, tru_of c.sub (O.rb (c.peek e1)) e2, e3⟩

/-! ### comparisons -/
def wCmp (op : CmpOp) (wa wb : WE) : WE := fun ρ M P => wa ρ M fun r ρ M => wb ρ M fun q ρ M => oP (peek r ρ) fun d => oP (peek q ρ) fun e => oP (cmpD op d e) fun z => P (.val (.bl z)) ρ M
theorem core_cmp (O : Okc X C Γ κ c XP) {op : CmpOp} {Q : VK} (h : liftG C (wCmp op wa wb) σ H post) (hp : ∀ z ρ' H', post (.val (.bl z)) ρ' (.bl z) H' → Q (.bl z) H') :
    tOp (rCm X op) (liftE C wa) (liftE C wb) σ H Q := by
  refine lift2G h fun F ρ pd M pv P r q x y H hr w hk => ?_
  obtain ⟨d, e1, w⟩ := oP_of w
  obtain ⟨e, e2, w⟩ := oP_of w
  obtain ⟨z, e3, w⟩ := oP_of w
  exact ⟨F, d, e, z, hr.st.mr.sub, O.rb (hr.peek1 e1), O.rb (hr.peek2 e2), e3, hp _ _ _ (hk _ _ _ _ _ _ w (Same.refl _) (RR.bl hr.base hr.len z))⟩
theorem tPost_bl {Q : Bool → Hp → Prop} {z : Bool} {ρ : Env} {x : V} {H : Hp} (h : tPost Q (.val (.bl z)) ρ x H) : Q z H := by
  obtain ⟨d, z', e1, e2, q⟩ := h
  cases e1
  cases e2
  exact q
theorem snd_cmp (O : Okc X C Γ κ c XP) {op : CmpOp} {l r : Expr} {pos : Pos} (hr : okX r = true) (ha : PE X l (liftE C wa)) (hb : PE X r (liftE C wb)) :
    PE X (.Compare l [op] [r] pos) (liftE C (wCmp op wa wb)) ∧ PT X (.Compare l [op] [r] pos) (liftT C (wCmp op wa wb)) := by
  refine ⟨PE.imp (pe_cmpR (vop_cmp O.un) ha hb (marks_okX hr op)) fun σ H Q h => core_cmp O (liftE_G.mp h) fun _ _ _ z => z, ?_⟩
  exact PT.imp (pt_cmpR (vop_cmp O.un) ha hb (marks_okX hr op)) fun σ H Q h => core_cmp O (liftT_G.mp h) fun z _ _ q => ⟨z, rfl, tPost_bl q⟩
def wIsn (f : Bool → Bool) (wa : WE) : WE := fun ρ M P => wa ρ M fun r ρ M => oP (peek r ρ) fun d => P (.val (.bl (f (isNonD d)))) ρ M
theorem non_iff {K mg} {F H : Hp} {d : Dat} {x : V} (h : RepB K mg F H d x) : decide (x = .non) = isNonD d := by
  cases d with
  | non => obtain rfl := repB_non.mp h; rfl
  | bl b => obtain rfl := repB_bl.mp h; rfl
  | int b => obtain rfl := repB_int.mp h; rfl
  | str b => obtain ⟨rfl, _⟩ := repB_str.mp h; rfl
  | tup b => obtain ⟨a, xs, rfl, _⟩ := repB_tup.mp h; rfl
  | lst b => obtain ⟨a, xs, rfl, _⟩ := h; rfl
  | fn b => obtain ⟨a, _, rfl⟩ := (rep_fn (K := K) (F := F)).mp h; rfl
  | ref b => obtain rfl := repB_ref.mp h; rfl
  | ty b => obtain rfl := (rep_ty (K := K) (F := F) (mg := mg)).mp h; rfl
  | scr b => obtain ⟨a, rfl, _⟩ := (rep_scr (mg := mg)).mp h; rfl
theorem core_isn (O : Okc X C Γ κ c XP) {f : Bool → Bool} {Q : VK} (h : liftG C (wIsn f wa) σ H post) (hp : ∀ z ρ' H', post (.val (.bl z)) ρ' (.bl z) H' → Q (.bl z) H') :
    liftE C wa σ H fun x H1 => Q (.bl (f (decide (x = .non)))) H1 := by
  refine lift1G h fun F ρ pd M pv P r x H hr w hk => ?_
  obtain ⟨d, e1, w⟩ := oP_of w
  rw [non_iff (hr.peek e1)]
  exact hp _ _ _ (hk _ _ _ _ _ _ w (Same.refl _) (RR.bl hr.base hr.len _))
theorem snd_isn (O : Okc X C Γ κ c XP) {l : Expr} {j p pos} (ha : PE X l (liftE C wa)) :
    PE X (.Compare l [.Is] [.Constant .none j p] pos) (liftE C (wIsn id wa)) ∧ PT X (.Compare l [.Is] [.Constant .none j p] pos) (liftT C (wIsn id wa)) := by
  refine ⟨PE.imp (pe_cmp (pc_isN ha)) fun σ H Q h => core_isn (f := id) O (liftE_G.mp h) fun _ _ _ z => z, ?_⟩
  exact PT.imp (pt_cmp (pc_isN ha)) fun σ H Q h => core_isn (f := id) (Q := fun x H1 => ∃ c, x = .bl c ∧ Q c H1) O (liftT_G.mp h) fun z _ _ q => ⟨z, rfl, tPost_bl q⟩
theorem snd_isnn (O : Okc X C Γ κ c XP) {l : Expr} {j p pos} (ha : PE X l (liftE C wa)) :
    PE X (.Compare l [.IsNot] [.Constant .none j p] pos) (liftE C (wIsn not wa)) ∧ PT X (.Compare l [.IsNot] [.Constant .none j p] pos) (liftT C (wIsn not wa)) := by
  refine ⟨PE.imp (pe_cmp (pc_notN ha)) fun σ H Q h => core_isn (f := not) O (liftE_G.mp h) fun _ _ _ z => z, ?_⟩
  exact PT.imp (pt_cmp (pc_notN ha)) fun σ H Q h => core_isn (f := not) (Q := fun x H1 => ∃ c, x = .bl c ∧ Q c H1) O (liftT_G.mp h) fun z _ _ q => ⟨z, rfl, tPost_bl q⟩
def wChn (op1 op2 : CmpOp) (wa wb wc : WE) : WE := fun ρ M P => wa ρ M fun r ρ M => wb ρ M fun q ρ M => oP (peek r ρ) fun d => oP (peek q ρ) fun e => oP (cmpD op1 d e) fun z => match z with
    | false => P (.val (.bl false)) ρ M
    | true => wc ρ M fun t ρ M => oP (peek q ρ) fun e => oP (peek t ρ) fun g => oP (cmpD op2 e g) fun z => P (.val (.bl z)) ρ M
theorem core_chn (O : Okc X C Γ κ c XP) {op1 op2 : CmpOp} {Q : VK} (h : liftG C (wChn op1 op2 wa wb wc) σ H post) (hp : ∀ z ρ' H', post (.val (.bl z)) ρ' (.bl z) H' → Q (.bl z) H') :
    tChain (rCm X op1) (rCm X op2) (liftE C wa) (liftE C wb) (liftE C wc) σ H Q := by
  refine lift2G h fun F ρ pd M pv P r q x y H hr w hk => ?_
  obtain ⟨d, e1, w⟩ := oP_of w
  obtain ⟨e, e2, w⟩ := oP_of w
  obtain ⟨z, e3, w⟩ := oP_of w
  refine ⟨F, d, e, z, hr.st.mr.sub, O.rb (hr.peek1 e1), O.rb (hr.peek2 e2), e3, z, rfl, ?_⟩
  cases z with
  | false => rw [if_neg Bool.false_ne_true]; exact hp _ _ _ (hk _ _ _ _ _ _ w (Same.refl _) (RR.bl hr.base hr.len _))
  | true =>
    rw [if_pos rfl]
    have h2 := hr.rr.st
    refine ⟨F, ρ, _, M, _, _, h2, hr.len, w, fun t ρ3 M3 F3 u H3 w3 s3 r3 => ?_⟩
    obtain ⟨e', g1, w3⟩ := oP_of w3
    obtain ⟨g, g2, w3⟩ := oP_of w3
    obtain ⟨z, g3, w3⟩ := oP_of w3
    have hst := r3.st
    have hb : R C F3 (ρ3 ++ pd) M3 (σ ++ pv) H3 := by
      have := r3.base
      rw [← List.append_assoc ρ3, ← List.append_assoc σ, ← List.append_assoc ρ3, ← List.append_assoc σ] at this
      exact this.pop_.pop_
    refine ⟨F3, e', g, z, r3.sub, O.rb ?_, O.rb (r3.peek g2), g3, hp _ _ _ (hk _ _ _ _ _ _ w3 s3 (RR.bl hb r3.len _))⟩
    refine peek_at (M := M3) (pd := pd ++ [pendOf r]) (pv := pv ++ [some x]) (pd2 := [pendOf t]) (pv2 := [some u]) ?_ r3.len (by simp [hr.pl]) hr.bor g1
    simp only [List.append_assoc] at hst ⊢
    exact hst
theorem snd_chn (O : Okc X C Γ κ c XP) {op1 op2 : CmpOp} {l r t : Expr} {pos : Pos} (hr : okX r = true) (ht : okX t = true) (ha : PE X l (liftE C wa)) (hb : PE X r (liftE C wb)) (hc : PE X t (liftE C wc)) :
    PE X (.Compare l [op1, op2] [r, t] pos) (liftE C (wChn op1 op2 wa wb wc)) ∧ PT X (.Compare l [op1, op2] [r, t] pos) (liftT C (wChn op1 op2 wa wb wc)) := by
  have hm : lastMarks [op1, op2] [r, t] = false := marks_okX ht op2
  refine ⟨PE.imp (pe_chain (vop_cmp O.un) (vop_cmp O.un) ha hb hc hm) fun σ H Q h => core_chn O (liftE_G.mp h) fun _ _ _ z => z, ?_⟩
  exact PT.imp (pt_chain (vop_cmp O.un) (vop_cmp O.un) ha hb hc hm) fun σ H Q h => core_chn (Q := fun x H1 => ∃ c, x = .bl c ∧ Q c H1) O (liftT_G.mp h) fun z _ _ q => ⟨z, rfl, tPost_bl q⟩

/-! ### not, if-else, and, or -/
def wNot (wa : WE) : WE := fun ρ M P => wa ρ M fun r ρ M => oP (peek r ρ) fun d => oP (truD d) fun z => P (.val (.bl (!z))) ρ M
theorem snd_not (O : Okc X C Γ κ c XP) {l : Expr} {pos : Pos} (ha : PE X l (liftE C wa)) (hb : PT X l (liftT C wa)) :
    PE X (.UnaryOp .Not l pos) (liftE C (wNot wa)) ∧ PT X (.UnaryOp .Not l pos) (liftT C (wNot wa)) := by
  constructor
  · refine PE.imp (pe_notT ha) fun σ H Q h => ?_
    refine lift1G (liftE_G.mp h) fun F ρ pd M pv P r x H hr w hk => ?_
    obtain ⟨d, e1, w⟩ := oP_of w
    obtain ⟨z, e2, w⟩ := oP_of w
    exact ⟨z, tru_of hr.sub (O.rb (hr.peek e1)) e2, hk _ _ _ _ _ _ w (Same.refl _) (RR.bl hr.base hr.len _)⟩
  · refine PT.imp (pt_not hb) fun σ H Q h => ?_
    obtain ⟨F, ρ, pd, M, pv, P, hr, hl, hw, hk⟩ := h
    refine ⟨F, ρ, pd, M, pv, _, hr, hl, hw, fun r ρ' M' F' x H' w b c => ?_⟩
    obtain ⟨d, e1, w⟩ := oP_of w
    obtain ⟨z, e2, w⟩ := oP_of w
    exact ⟨d, z, e1, e2, tPost_bl (x := .bl (!z)) (hk _ _ _ _ _ _ w b (RR.bl c.base c.len _))⟩
def wIte (wc wa wb : WE) : WE := fun ρ M P => wc ρ M fun r ρ M => oP (peek r ρ) fun d => oP (truD d) fun z => match z with
    | true => wa ρ M P
    | false => wb ρ M P
theorem core_ite {k : Bool → Hp → Prop} (h : liftG C (wIte wc wa wb) σ H post) (hk : ∀ z H, liftG C (match z with | true => wa | false => wb) σ H post → k z H) : liftT C wc σ H k := by
  obtain ⟨F, ρ, pd, M, pv, P, hr, hl, hw, hq⟩ := h
  refine ⟨F, ρ, pd, M, pv, _, hr, hl, hw, fun r ρ' M' F' x H' w b c => ?_⟩
  obtain ⟨d, e1, w⟩ := oP_of w
  obtain ⟨z, e2, w⟩ := oP_of w
  refine ⟨d, z, e1, e2, hk z H' ⟨F', ρ', pd, M', pv, P, c.base, c.len, by cases z <;> exact w, fun r2 ρ2 M2 F2 x2 H2 a2 b2 c2 => hq r2 ρ2 M2 F2 x2 H2 a2 (Same.trans b b2) c2⟩⟩
theorem pt_ifExp {t a b : Expr} {pos : Pos} {tc ta tb : TT} (hc : PT X t tc) (ha : PT X a ta) (hb : PT X b tb) : PT X (.IfExp t a b pos) (fun σ H Q => tc σ H fun k H1 => if k = true then ta σ H1 Q else tb σ H1 Q) := by
  refine ⟨fun pins s σ H Q I h => ?_⟩
  show wpAny _ _ (do if ← isTrue t X.env (eval t X.env) then isTrue a X.env (eval a X.env) else isTrue b X.env (eval b X.env)) _ _ s
  refine wpAny_bind (thn (hc.run pins s σ H _ I h) fun k s1 ⟨H1, I1, q1⟩ => ?_)
  cases k with
  | true => simp only [if_true]; exact ha.run pins s1 σ H1 Q I1 q1
  | false => simp only [Bool.false_eq_true, if_false]; exact hb.run pins s1 σ H1 Q I1 q1
theorem snd_ite {t a b : Expr} {pos : Pos} (hc : PT X t (liftT C wc)) (ha : PE X a (liftE C wa) ∧ PT X a (liftT C wa)) (hb : PE X b (liftE C wb) ∧ PT X b (liftT C wb)) :
    PE X (.IfExp t a b pos) (liftE C (wIte wc wa wb)) ∧ PT X (.IfExp t a b pos) (liftT C (wIte wc wa wb)) := by
  constructor
  · refine PE.imp (pe_ifExp hc ha.1 hb.1) fun σ H Q h => core_ite (liftE_G.mp h) fun z H h => ?_
    cases z with
    | true => exact h
    | false => exact h
  · refine PT.imp (pt_ifExp hc ha.2 hb.2) fun σ H Q h => core_ite (liftT_G.mp h) fun z H h => ?_
    cases z with
    | true => exact h
    | false => exact h
def wBop (op : PySem.BoolOp) (wa wb : WE) : WE := fun ρ M P => wa ρ M fun r ρ M => oP (peek r ρ) fun d => oP (truD d) fun z => match op, z with
    | .And, true => wb ρ M P
    | .Or, false => wb ρ M P
    | _, _ => P r ρ M
theorem snd_and (O : Okc X C Γ κ c XP) {a b : Expr} {rest : List Expr} {pos : Pos} (ha : PE X a (liftE C wa) ∧ PT X a (liftT C wa)) (hb : PE X (.BoolOp .And (b :: rest) pos) (liftE C wb) ∧ PW X (.BoolOp .And (b :: rest) pos) (liftT C wb)) :
    PE X (.BoolOp .And (a :: b :: rest) pos) (liftE C (wBop .And wa wb)) ∧ PW X (.BoolOp .And (a :: b :: rest) pos) (liftT C (wBop .And wa wb)) := by
  constructor
  · refine PE.imp (pe_andT ha.1 hb.1) fun σ H Q h => ?_
    refine lift1G (liftE_G.mp h) fun F ρ pd M pv P r x H hr w hk => ?_
    obtain ⟨d, e1, w⟩ := oP_of w
    obtain ⟨z, e2, w⟩ := oP_of w
    refine ⟨z, tru_of hr.sub (O.rb (hr.peek e1)) e2, ?_⟩
    cases z with
    | false => rw [if_neg Bool.false_ne_true]; exact hk _ _ _ _ _ _ w (Same.refl _) hr
    | true => rw [if_pos rfl]; exact ⟨F, ρ, pd, M, pv, P, hr.base, hr.len, w, hk⟩
  · refine ⟨fun whole pins s σ H Q I h => (pw_and ha.2 hb.2).run whole pins s σ H Q I ?_⟩
    obtain ⟨F, ρ, pd, M, pv, P, hr, hl, hw, hq⟩ := h
    refine ⟨F, ρ, pd, M, pv, _, hr, hl, hw, fun r ρ' M' F' x H' w b c => ?_⟩
    obtain ⟨d, e1, w⟩ := oP_of w
    obtain ⟨z, e2, w⟩ := oP_of w
    refine ⟨d, z, e1, e2, ?_⟩
    cases z with
    | false =>
      rw [if_neg Bool.false_ne_true]
      obtain ⟨d', z', g1, g2, g3⟩ := hq r ρ' M' F' x H' w b c
      rw [e1] at g1; cases g1
      rw [e2] at g2; cases g2
      exact g3
    | true => rw [if_pos rfl]; exact ⟨F', ρ', pd, M', pv, P, c.base, c.len, w, fun r2 ρ2 M2 F2 x2 H2 a2 b2 c2 => hq r2 ρ2 M2 F2 x2 H2 a2 (Same.trans b b2) c2⟩
theorem snd_or (O : Okc X C Γ κ c XP) {a b : Expr} {rest : List Expr} {pos : Pos} (ha : PE X a (liftE C wa) ∧ PT X a (liftT C wa)) (hb : PE X (.BoolOp .Or (b :: rest) pos) (liftE C wb) ∧ PW X (.BoolOp .Or (b :: rest) pos) (liftT C wb)) :
    PE X (.BoolOp .Or (a :: b :: rest) pos) (liftE C (wBop .Or wa wb)) ∧ PW X (.BoolOp .Or (a :: b :: rest) pos) (liftT C (wBop .Or wa wb)) := by
  constructor
  · refine PE.imp (pe_orT ha.1 hb.1) fun σ H Q h => ?_
    refine lift1G (liftE_G.mp h) fun F ρ pd M pv P r x H hr w hk => ?_
    obtain ⟨d, e1, w⟩ := oP_of w
    obtain ⟨z, e2, w⟩ := oP_of w
    refine ⟨z, tru_of hr.sub (O.rb (hr.peek e1)) e2, ?_⟩
    cases z with
    | true => rw [if_pos rfl]; exact hk _ _ _ _ _ _ w (Same.refl _) hr
    | false => rw [if_neg Bool.false_ne_true]; exact ⟨F, ρ, pd, M, pv, P, hr.base, hr.len, w, hk⟩
  · refine ⟨fun whole pins s σ H Q I h => (pw_or ha.2 hb.2).run whole pins s σ H Q I ?_⟩
    obtain ⟨F, ρ, pd, M, pv, P, hr, hl, hw, hq⟩ := h
    refine ⟨F, ρ, pd, M, pv, _, hr, hl, hw, fun r ρ' M' F' x H' w b c => ?_⟩
    obtain ⟨d, e1, w⟩ := oP_of w
    obtain ⟨z, e2, w⟩ := oP_of w
    refine ⟨d, z, e1, e2, ?_⟩
    cases z with
    | true =>
      rw [if_pos rfl]
      obtain ⟨d', z', g1, g2, g3⟩ := hq r ρ' M' F' x H' w b c
      rw [e1] at g1; cases g1
      rw [e2] at g2; cases g2
      exact g3
    | false => rw [if_neg Bool.false_ne_true]; exact ⟨F', ρ', pd, M', pv, P, c.base, c.len, w, fun r2 ρ2 M2 F2 x2 H2 a2 b2 c2 => hq r2 ρ2 M2 F2 x2 H2 a2 (Same.trans b b2) c2⟩
theorem snd_one {op : PySem.BoolOp} {a : Expr} {pos : Pos} (ha : PE X a (liftE C wa) ∧ PT X a (liftT C wa)) :
    PE X (.BoolOp op [a] pos) (liftE C wa) ∧ PW X (.BoolOp op [a] pos) (liftT C wa) := by
  refine ⟨pe_one ha.1, ?_⟩
  cases op with
  | And => exact pw_and1 ha.2
  | Or => exact pw_or1 ha.2
end
end Mi

set_option maxHeartbeats 4000000
/-! Mi11: items, slices, displays, arguments, calls. -/
namespace Mi
open PySem PySem.Spec PyProof.Rows L2

theorem R.pushO {C : Gh} {F : Hp} {ρ : Env} {M : MH} {σ : St} {H : Hp} (h : R C F ρ M σ H) {o : Own} {a : Addr} (h1 : OwnR C.K C.mg F H o a) (h2 : F a = none) (h3 : C.H0 a = none) (h4 : M a = none)
    (hd : ∀ (j : Nat) (p : Own), ρ[j]? = some (Sl.own p) → σ[j]? ≠ some (some (V.ref a))) : R C F (ρ ++ [.own o]) M (σ ++ [some (.ref a)]) H where
  mr := h.mr
  len := by simp [h.len]
  sl := fun j s q => by
    rcases get_snoc q with ⟨hj, q⟩ | ⟨hj, q⟩
    · rw [List.getElem?_append_left (by rw [← h.len]; exact hj)]; exact h.sl j s q
    · subst q
      rw [hj, h.len, List.getElem?_append_right (Nat.le_refl _), Nat.sub_self]
      exact ⟨a, rfl, h1, h2, h3, h4⟩
  dist := fun i j p q b e1 e2 e3 e4 => by
    rcases get_snoc e1 with ⟨hi, e1⟩ | ⟨hi, e1⟩ <;> rcases get_snoc e2 with ⟨hj, e2⟩ | ⟨hj, e2⟩
    · rw [List.getElem?_append_left (by rw [← h.len]; exact hi)] at e3
      rw [List.getElem?_append_left (by rw [← h.len]; exact hj)] at e4
      exact h.dist i j p q b e1 e2 e3 e4
    · rw [List.getElem?_append_left (by rw [← h.len]; exact hi)] at e3
      rw [hj, h.len, List.getElem?_append_right (Nat.le_refl _), Nat.sub_self] at e4
      simp at e4; subst e4
      exact absurd e3 (hd i p e1)
    · rw [List.getElem?_append_left (by rw [← h.len]; exact hj)] at e4
      rw [hi, h.len, List.getElem?_append_right (Nat.le_refl _), Nat.sub_self] at e3
      simp at e3; subst e3
      exact absurd e4 (hd j q e2)
    · rw [hi, hj]
  f0 := h.f0
  new := h.new
  old := h.old
  there := h.there
  md := h.md
  mn := h.mn

section
variable {X : Cx} {C : Gh} {Γ : Kn} {κ : Nat} {c : Cs} {XP : PX} {wa wb wc : WE} {wl wh : WA} {σ : St} {H : Hp} {post : Post}

theorem snd_idx (O : Okc X C Γ κ c XP) {l r : Expr} {pos : Pos} (hr : okX r = true) (ha : PE X l (liftE C wa)) (hb : PE X r (liftE C wb)) :
    PE X (.Subscript l r pos) (liftE C fun ρ M P => wa ρ M fun r ρ M => wb ρ M fun q ρ M => oP (peek r ρ) fun d => oP (peek q ρ) fun e => oP (idxD M d e) fun z => P (.val z) ρ M) := by
  refine PE.imp (pe_ix vop_idx ha hb (plainIx_okX hr)) fun σ H Q h => ?_
  refine lift2G (liftE_G.mp h) fun F ρ pd M pv P r q x y H hr w hk => ?_
  obtain ⟨d, e1, w⟩ := oP_of w
  obtain ⟨e, e2, w⟩ := oP_of w
  obtain ⟨z, e3, w⟩ := oP_of w
  exact ⟨F, M, d, e, z, hr.st.mr.sub, O.mhr hr.st.mr, O.rb (hr.peek1 e1), O.rb (hr.peek2 e2), e3, fun v rv => hk _ _ _ _ _ _ w (Same.refl _) (RR.val hr.base hr.len (O.rep rv))⟩
theorem snd_neg (O : Okc X C Γ κ c XP) {l : Expr} {pos : Pos} (ha : PE X l (liftE C wa)) :
    PE X (.UnaryOp .USub l pos) (liftE C fun ρ M P => wa ρ M fun r ρ M => oP (peek r ρ) fun d => oP (intD d) fun i => P (.val (.int (-i))) ρ M) := by
  refine PE.imp (pe_un un_neg ha) fun σ H Q h => ?_
  refine lift1G (liftE_G.mp h) fun F ρ pd M pv P r x H hr w hk => ?_
  obtain ⟨d, e1, w⟩ := oP_of w
  obtain ⟨i, e2, w⟩ := oP_of w
  cases d with
  | int j =>
    cases e2
    exact ⟨_, repB_int.mp (hr.peek e1), hk _ _ _ _ _ _ w (Same.refl _) (RR.int hr.base hr.len _)⟩
  | _ => cases e2

/-! ### arguments -/
theorem snd_nil : PA X [] (liftA C fun ρ M P => P [] ρ M) := by
  refine PA.imp pa_nil fun σ H Q ⟨F, ρ, pd, M, pv, P, hr, hl, hw, hk⟩ => ?_
  exact hk _ _ _ _ _ _ hw (Same.refl _) hr hl Reps.nil
theorem snd_cons {e : Expr} {es : List Expr} (hx : okX e = true) (ha : PE X e (liftE C wa)) (hb : PA X es (liftA C wl)) :
    PA X (e :: es) (liftA C fun ρ M P => wa ρ M fun r ρ M => oP (escD r ρ) fun p => wl p.2 M fun ds ρ M => P (p.1 :: ds) ρ M) := by
  refine PA.imp (pa_cons ha hb (star_okX hx es X.env)) fun σ H Q ⟨F, ρ, pd, M, pv, P, hr, hl, hw, hk⟩ => ?_
  refine ⟨F, ρ, pd, M, pv, _, hr, hl, hw, fun r ρ1 M1 F1 x H1 w1 s1 r1 => ?_⟩
  obtain ⟨⟨d, ρ2⟩, e1, w2⟩ := oP_of w1
  obtain ⟨F2, s2, h2, l2, rp⟩ := r1.esc e1
  refine ⟨F2, ρ2, _, M1, _, _, h2, l2, w2, fun ds ρ3 M3 F3 xs H3 w3 s3 r3 l3 rps => ?_⟩
  refine hk _ _ _ _ _ _ w3 (Same.trans (Same.trans s1 s2) s3) ?_ l3 (Reps.cons (rp.mono s3) rps)
  rw [← List.append_assoc, ← List.append_assoc] at r3
  exact r3.pop_

/-! ### slices -/
def liftO (C : Gh) (w : WA) : TO := fun σ H Q => ∃ F ρ pd M pv P, R C F (ρ ++ pd) M (σ ++ pv) H ∧ ρ.length = σ.length ∧ w ρ M P ∧
  ∀ ds ρ' M' F' H', P ds ρ' M' → Same F F' → R C F' (ρ' ++ pd) M' (σ ++ pv) H' → ρ'.length = σ.length → ∃ o, partD ds = some o ∧ Q o H'
theorem snd_none : PO X none (liftO C fun ρ M P => P [] ρ M) := by
  refine ⟨fun pins s σ H Q I ⟨F, ρ, pd, M, pv, P, hr, hl, hw, hk⟩ => po_none.run pins s σ H Q I ?_⟩
  obtain ⟨o, e, q⟩ := hk _ _ _ _ _ hw (Same.refl _) hr hl
  cases e
  exact q
theorem snd_some {e : Expr} (ha : PE X e (liftE C wa)) : PO X (some e) (liftO C fun ρ M P => wa ρ M fun r ρ M => oP (escD r ρ) fun p => P [p.1] p.2 M) := by
  refine ⟨fun pins s σ H Q I ⟨F, ρ, pd, M, pv, P, hr, hl, hw, hk⟩ => (po_some ha).run pins s σ H Q I ?_⟩
  refine ⟨F, ρ, pd, M, pv, _, hr, hl, hw, fun r ρ1 M1 F1 x H1 w1 s1 r1 => ?_⟩
  obtain ⟨⟨d, ρ2⟩, e1, w2⟩ := oP_of w1
  obtain ⟨F2, s2, h2, l2, rp⟩ := r1.esc e1
  rw [← List.append_assoc, ← List.append_assoc] at h2
  obtain ⟨o, e, q⟩ := hk _ _ _ _ _ w2 (Same.trans s1 s2) h2.pop_ l2
  cases d with
  | int i => cases e; exact ⟨i, rep_int.mp rp, q⟩
  | _ => cases e
theorem slcD_nb {lo hi : Option Int} {d : Dat} {z : Rv} (h : slcD lo hi d = some z) : ∀ i, z ≠ .bor i := by
  rintro i rfl
  cases d <;> cases h
theorem snd_slc (O : Okc X C Γ κ c XP) {e : Expr} {lo hi : Option Expr} {pos p2 : Pos} (ha : PE X e (liftE C wa)) (hl : PO X lo (liftO C wl)) (hh : PO X hi (liftO C wh)) :
    PE X (.Subscript e (.Slice lo hi none p2) pos) (liftE C fun ρ M P => wa ρ M fun r ρ M => wl ρ M fun ls ρ M => oP (partD ls) fun lo => wh ρ M fun hs ρ M => oP (partD hs) fun hi => oP (peek r ρ) fun d => oP (slcD lo hi d) fun z => P z ρ M) := by
  refine PE.imp (pe_slice vop_slc ha hl hh) fun σ H Q ⟨F, ρ, pd, M, pv, P, hr, hl, hw, hk⟩ => ?_
  refine ⟨F, ρ, pd, M, pv, _, hr, hl, hw, fun r ρ1 M1 F1 x H1 w1 s1 r1 => ?_⟩
  have l2 := hr.lens hl
  refine ⟨F1, ρ1, pd ++ [pendOf r], M1, pv ++ [some x], _, r1.st, r1.len, w1, fun ls ρ2 M2 F2 H2 w2 s2 h2 l3 => ?_⟩
  obtain ⟨lo, e1, w2⟩ := oP_of w2
  refine ⟨lo, e1, F2, ρ2, pd ++ [pendOf r], M2, pv ++ [some x], _, h2, l3, w2, fun hs ρ3 M3 F3 H3 w3 s3 h3 l4 => ?_⟩
  obtain ⟨hi, e2, w3⟩ := oP_of w3
  obtain ⟨d, e3, w3⟩ := oP_of w3
  obtain ⟨z, e4, w3⟩ := oP_of w3
  have hb : R C F3 (ρ3 ++ pd) M3 (σ ++ pv) H3 := by
    rw [← List.append_assoc, ← List.append_assoc] at h3
    exact h3.pop_
  refine ⟨hi, e2, F3, d, z, h3.mr.sub, O.rb (peek_at (pd2 := []) (pv2 := []) h3 l4 l2 r1.bor e3), e4, O.rq ?_⟩
  exact res_of hb l4 (slcD_nb e4) fun F' x H' s rr => hk z ρ3 M3 F' x H' w3 (Same.trans (Same.trans (Same.trans s1 s2) s3) s) rr
theorem snd_rev (O : Okc X C Γ κ c XP) {e : Expr} {k : Nat} {p1 p2 p3 pos : Pos} (ha : PE X e (liftE C wa)) :
    PE X (.Subscript e (.Slice none none (some (.UnaryOp .USub (.Constant (.int 1) k p1) p2)) p3) pos) (liftE C fun ρ M P => wa ρ M fun r ρ M => oP (peek r ρ) fun d => oP (revD d) fun z => P z ρ M) := by
  refine PE.imp (pe_revA ha) fun σ H Q h => ?_
  refine lift1G (liftE_G.mp h) fun F ρ pd M pv P r x H hr w hk => ?_
  obtain ⟨d, e1, w⟩ := oP_of w
  obtain ⟨z, e2, w⟩ := oP_of w
  have hp := O.rb (hr.peek e1)
  have q : RQ X F H z Q := O.rq (res_of hr.base hr.len (by rintro i rfl; cases d <;> cases e2) fun F' x H' s rr => hk z ρ M F' x H' w s rr)
  cases d with
  | tup ds =>
    cases e2
    obtain ⟨a, xs, rfl, h1, h2⟩ := repB_tup.mp hp
    exact ⟨a, xs, rfl, .inr ⟨sqT_same hr.sub h1, fun p hp => q.tup hr.sub hp h2.reverse⟩⟩
  | lst ds =>
    cases e2
    obtain ⟨a, xs, rfl, h1, h2⟩ := hp
    exact ⟨a, xs, rfl, .inl ⟨.inl (.inl h1), fun p hp => q.own hp h2.reverse⟩⟩
  | _ => cases e2

/-! ### displays -/
theorem snd_tup (O : Okc X C Γ κ c XP) {es : Es} {ps : List Expr} {x1} {pos : Pos} (hn : es.len ≤ 1000) (h : PA X ps (liftA C (wpEs Γ XP es))) :
    PE X (.Tuple ps x1 pos) (liftE C fun ρ M P => wpEs Γ XP es ρ M fun ds ρ M => P (.val (.tup ds)) ρ M) := by
  refine PE.imp (pe_tup h) fun σ H Q ⟨F, ρ, pd, M, pv, P, hr, hl, hw, hk⟩ => ?_
  refine ⟨F, ρ, pd, M, pv, _, hr, hl, wpEs_len es hw, fun ds ρ1 M1 F1 xs H1 w1 s1 r1 l1 rps => ?_⟩
  have hlen := rps.length
  refine ⟨by rw [hlen, w1.1, sizeLine_eq]; omega, fun p hp => ?_⟩
  have q := res_of (z := .val (.tup ds)) (Q := Q) r1 l1 (fun i z => nomatch z) fun F' x H' s rr => hk _ ρ1 M1 F' x H' w1.2 (Same.trans s1 s) rr
  exact q.tup r1.mr.sub hp rps
theorem snd_lst (O : Okc X C Γ κ c XP) {es : Es} {ps : List Expr} {pos : Pos} (hn : es.len ≤ 1000) (h : PA X ps (liftA C (wpEs Γ XP es))) :
    PE X (.List ps pos) (liftE C fun ρ M P => wpEs Γ XP es ρ M fun ds ρ M => P (.own (.lst ds)) ρ M) := by
  refine PE.imp (pe_lst h) fun σ H Q ⟨F, ρ, pd, M, pv, P, hr, hl, hw, hk⟩ => ?_
  refine ⟨F, ρ, pd, M, pv, _, hr, hl, wpEs_len es hw, fun ds ρ1 M1 F1 xs H1 w1 s1 r1 l1 rps => ?_⟩
  have hlen := rps.length
  refine ⟨by rw [hlen, w1.1, sizeLine_eq]; omega, fun p hp => ?_⟩
  have q := res_of (z := .own (.lst ds)) (Q := Q) r1 l1 (fun i z => nomatch z) fun F' x H' s rr => hk _ ρ1 M1 F' x H' w1.2 (Same.trans s1 s) rr
  exact q.own hp rps
theorem snd_bag (O : Okc X C Γ κ c XP) {es : Es} {ps : List Expr} {pos : Pos} (hn : es.len ≤ 1000) (h : PA X ps (liftA C (wpEs Γ XP es))) :
    PE X (.List ps pos) (liftE C fun ρ M P => wpEs Γ XP es ρ M fun ds ρ M => ∀ a, M a = none → P (.val (.ref a)) ρ (updM M a (.lst ds))) := by
  refine PE.imp (pe_lst h) fun σ H Q ⟨F, ρ, pd, M, pv, P, hr, hl, hw, hk⟩ => ?_
  refine ⟨F, ρ, pd, M, pv, _, hr, hl, wpEs_len es hw, fun ds ρ1 M1 F1 xs H1 w1 s1 r1 l1 rps => ?_⟩
  have hlen := rps.length
  refine ⟨by rw [hlen, w1.1, sizeLine_eq]; omega, fun p hp => ?_⟩
  have hm := (r1.fresh0 hp).2.2
  refine hk _ _ _ F1 _ _ (w1.2 p hm) s1 (RR.val (r1.newM hp rps) l1 (rep_ref.mpr rfl))

/-! ### calls -/
theorem core_call {f : Str} {S : Spec} {np : Nat} {Q : VK} (O : Okc X C Γ κ c XP) (hf : ∀ ds M Q X, S ds M Q X → ds.length = np) {wl : WA}
    (h : liftE C (fun ρ M P => wl ρ M fun ds ρ M => ∃ Q0, S ds M Q0 XP ∧ ∀ r M', Q0 r M' → P r ρ M') σ H Q) :
    tCall (spOf X.K X.mg C.T np S) [] (xE C XP) (liftA C wl) σ H Q := by
  obtain ⟨F, ρ, pd, M, pv, P, hr, hl, hw, hk⟩ := h
  refine ⟨F, ρ, pd, M, pv, _, hr, hl, hw, fun ds ρ1 M1 F1 xs H1 w1 s1 r1 l1 rps => ?_⟩
  obtain ⟨Q0, w1, w2⟩ := w1
  have hm := r1.mr
  rw [O.K, O.mg] at hm
  refine ⟨F1, M1, ds, Q0, XP, hm, ?_, hf _ _ _ _ w1, w1, fun r M' F' v H' hp he hv => ?_, fun e M' F' c d H' hp he hx => ?_⟩
  · rw [List.append_nil, ← O.K, ← O.mg]; exact rps
  · rw [← O.K, ← O.mg] at he hv
    have r2 := r1.call he
    cases r with
    | val d => exact hk _ _ _ _ _ _ (w2 _ _ hp) (Same.trans s1 he.f) (RR.val r2 l1 hv)
    | own o =>
      obtain ⟨a, rfl, g1, g2, g3, g4⟩ := hv
      refine hk _ _ _ _ _ _ (w2 _ _ hp) (Same.trans s1 he.f) ⟨?_, l1, fun i z => nomatch z⟩
      rw [← List.append_assoc, ← List.append_assoc]
      refine r2.pushO g1 g2 ?_ g4 fun j p e1 e2 => ?_
      · cases w : C.H0 a with
        | none => rfl
        | some u => exact absurd g3 (r1.there a (by rw [w]; exact fun z => nomatch z))
      · obtain ⟨b, z1, z2, _⟩ := r1.slo e1
        rw [e2] at z1; cases z1
        exact z2.ex g3
    | bor i => exact hv.elim
  · rw [← O.K, ← O.mg] at he hx
    exact ⟨e, F', M', (r1.call he).end_, hx, hp⟩
theorem Okc.pass (O : Okc X C Γ κ c XP) : Passes (L2N.CX X.prog X.w) X (xE C XP) := L2N.passes_call O.xp fun _ _ _ _ h => h
def wCall (Γ : Kn) (XP : PX) (f : Str) (es : Es) : WE := fun ρ M P => oP (Γ.fn f) fun S => wpEs Γ XP es ρ M fun ds ρ M => ∃ Q0, S ds M Q0 XP ∧ ∀ r M', Q0 r M' → P r ρ M'
theorem snd_call (O : Okc X C Γ κ c XP) {f : Str} {es : Es} {ps : List Expr} {p pos : Pos} (hg : Gl X f) (hd : (f == ("__debug__" : Str)) = false) (he : ∀ p ∈ ps, okX p = true) (h : PA X ps (liftA C (wpEs Γ XP es))) (h0 : es.len = ps.length) :
    PE X (.Call (.Name f p) ps [] pos) (liftE C (wCall Γ XP f es)) := by
  refine ⟨fun pins s σ H Q I h1 => ?_⟩
  obtain ⟨F, ρ, pd, M, pv, P, hr, hl, hw, hq⟩ := h1
  obtain ⟨S, w, hw⟩ := oP_of hw
  obtain ⟨k, a, fd, qs, hk, hpre, hm, hkeep, hb, hF⟩ := O.fn f S w
  have h1 : liftE C (fun ρ M P => wpEs Γ XP es ρ M fun ds ρ M => ∃ Q0, S ds M Q0 XP ∧ ∀ r M', Q0 r M' → P r ρ M') σ H Q := ⟨F, ρ, pd, M, pv, P, hr, hl, hw, hq⟩
  cases ps with
  | nil =>
    cases es with
    | cons e es => simp [Es.len] at h0
    | nil =>
      refine (pe_call0 hF (O.room.mono hk) hg hm hkeep hb .nil O.pass hd).run pins s σ H Q I ?_
      obtain ⟨F, ρ, pd, M, pv, P, q1, q2, q3, q4⟩ := core_call (f := f) O hpre h1
      exact q4 [] ρ M F [] H (by unfold wpEs at q3; exact q3) (Same.refl _) q1 q2 Reps.nil
  | cons e ps =>
    exact (pe_call hF (O.room.mono hk) hg hm hkeep hb .nil O.pass h hd (star_okX (he e (by simp)) _ _) (any_star fun p hp => he p (by simp [hp]))).run pins s σ H Q I (core_call (f := f) O hpre h1)
def wCallv (Γ : Kn) (XP : PX) (i : Nat) (es : Es) : WE := fun ρ M P => match ρ[i]? with
    | some (.val (.fn f)) => oP (Γ.fn f) fun S => wpEs Γ XP es ρ M fun ds ρ M => ∃ Q0, S ds M Q0 XP ∧ ∀ r M', Q0 r M' → P r ρ M'
    | _ => False
theorem snd_callv (O : Okc X C Γ κ c XP) {x : Str} {i : Nat} {es : Es} {e : Expr} {ps : List Expr} {p pos : Pos} (hN : X.N[i]? = some x) (hv : Vis X.env.scope x) (hd : (x == ("__debug__" : Str)) = false) (hcd : (x == ("__classdict__" : Str)) = false)
    (he : ∀ p ∈ e :: ps, okX p = true) (h : PA X (e :: ps) (liftA C (wpEs Γ XP es))) :
    PE X (.Call (.Name x p) (e :: ps) [] pos) (liftE C (wCallv Γ XP i es)) := by
  refine ⟨fun pins s σ H Q I h1 => ?_⟩
  obtain ⟨F, ρ, pd, M, pv, P, hr, hl, hw, hq⟩ := h1
  unfold wCallv at hw
  revert hw
  split
  · rename_i f hi
    intro hw
    obtain ⟨S, w, hw⟩ := oP_of hw
    obtain ⟨k, a, fd, qs, hk, hpre, hm, hkeep, hb, hF⟩ := O.fn f S w
    have h1 : liftE C (fun ρ M P => wpEs Γ XP es ρ M fun ds ρ M => ∃ Q0, S ds M Q0 XP ∧ ∀ r M', Q0 r M' → P r ρ M') σ H Q := ⟨F, ρ, pd, M, pv, P, hr, hl, hw, hq⟩
    have hiρ : i < ρ.length := (List.getElem?_eq_some_iff.mp hi).1
    obtain ⟨v, z1, z2⟩ := hr.slv (i := i) (d := .fn f) (by rw [List.getElem?_append_left hiρ]; exact hi)
    rw [List.getElem?_append_left (by omega)] at z1
    obtain ⟨a', z3, rfl⟩ := rep_fn.mp z2
    rw [O.mg, hm] at z3
    cases z3
    exact (pe_callL hF (O.room.mono hk) hN hv hkeep hb .nil O.pass h hd hcd (star_okX (he e (by simp)) _ _) (any_star fun p hp => he p (by simp [hp]))).run pins s σ H Q I ⟨z1, core_call (f := f) O hpre h1⟩
  · exact fun h => h.elim
/-- a built-in function's argument -/
theorem one_arg {e : Expr} (hx : okX e = true) (ha : PE X e (liftE C wa)) : PA X [e] (tCons (liftE C wa) tNil) := pa_cons ha pa_nil (star_okX hx [] X.env)
theorem callD_nb {M : MH} {f : Bf} {d : Dat} {z : Rv} (h : callD M f d = some z) : ∀ i, z ≠ .bor i := by
  rintro i rfl
  cases f <;> cases d <;> simp [callD] at h
theorem snd_bf (O : Okc X C Γ κ c XP) {f : Bf} {e : Expr} {p pos : Pos} (hg : Gl X f.name) (hm : X.mg f.name = none) (hx : okX e = true) (ha : PE X e (liftE C wa)) :
    PE X (.Call (.Name f.name p) [e] [] pos) (liftE C fun ρ M P => wa ρ M fun r ρ M => oP (peek r ρ) fun d => oP (callD M f d) fun z => P z ρ M) := by
  have h : ∀ σ H Q, liftE C (fun ρ M P => wa ρ M fun r ρ M => oP (peek r ρ) fun d => oP (callD M f d) fun z => P z ρ M) σ H Q → tCB (rC1 X f) (tCons (liftE C wa) tNil) σ H Q := by
    intro σ H Q h
    refine lift1G (liftE_G.mp h) fun F ρ pd M pv P r x H hr w hk => ?_
    obtain ⟨d, e1, w⟩ := oP_of w
    obtain ⟨z, e2, w⟩ := oP_of w
    exact ⟨F, M, d, z, x, rfl, hr.sub, O.rb (hr.peek e1), e2, O.rq (res_of hr.base hr.len (callD_nb e2) fun F' x H' s rr => hk z ρ M F' x H' w s rr)⟩
  have hv := bf_boot f
  have hn := bf_nm f
  have hc := vcall (X := X) O.calm (f := f)
  have hs := star_okX hx [] X.env
  cases f <;> first
    | exact PE.imp (pe_callB hc hg hm hv (one_arg hx ha) hn.1 hn.2 hs) h
    | exact PE.imp (pe_callTy hc hg hm hv (one_arg hx ha) hn.1 hn.2 hs) h
theorem two_args {e e2 : Expr} (hx : okX e = true) (hy : okX e2 = true) (ha : PE X e (liftE C wa)) (hb : PE X e2 (liftE C wb)) : PA X [e, e2] (tCons (liftE C wa) (tCons (liftE C wb) tNil)) := pa_cons ha (one_arg hy hb) (star_okX hx [e2] X.env)
theorem snd_bf2 (O : Okc X C Γ κ c XP) {f : Bf2} {e e2 : Expr} {p pos : Pos} (hg : Gl X f.name) (hm : X.mg f.name = none) (hx : okX e = true) (hy : okX e2 = true) (ha : PE X e (liftE C wa)) (hb : PE X e2 (liftE C wb)) :
    PE X (.Call (.Name f.name p) [e, e2] [] pos) (liftE C fun ρ M P => wa ρ M fun r ρ M => wb ρ M fun q ρ M => oP (peek r ρ) fun d => oP (peek q ρ) fun e => oP (call2D f d e) fun z => P z ρ M) := by
  have h : ∀ σ H Q, liftE C (fun ρ M P => wa ρ M fun r ρ M => wb ρ M fun q ρ M => oP (peek r ρ) fun d => oP (peek q ρ) fun e => oP (call2D f d e) fun z => P z ρ M) σ H Q → tCB (rC2 X f) (tCons (liftE C wa) (tCons (liftE C wb) tNil)) σ H Q := by
    intro σ H Q h
    refine lift2G (liftE_G.mp h) fun F ρ pd M pv P r q x y H hr w hk => ?_
    obtain ⟨d, e1, w⟩ := oP_of w
    obtain ⟨e, e2, w⟩ := oP_of w
    obtain ⟨z, e3, w⟩ := oP_of w
    refine ⟨F, d, e, z, x, y, rfl, hr.st.mr.sub, O.rb (hr.peek1 e1), O.rb (hr.peek2 e2), e3, O.rq (res_of hr.base hr.len ?_ fun F' x H' s rr => hk z ρ M F' x H' w s rr)⟩
    rintro i rfl
    cases f <;> cases d <;> cases e <;> cases e3
  have hv := bf2_boot f
  have hn := bf2_nm f
  have hc := vcall2 (X := X) O.calm (f := f)
  have hs := star_okX hx [e2] X.env
  have hp : (backTo pos (starEach [e2] X.env)).any (·.1) = false := any_star fun p hp => by simp at hp; exact hp ▸ hy
  cases f <;> exact PE.imp (pe_callB hc hg hm hv (two_args hx hy ha hb) hn.1 hn.2 hs hp) h
theorem snd_isi (O : Okc X C Γ κ c XP) {t : Ty} {e : Expr} {p q pos : Pos} (hg : Gl X "isinstance") (hm : X.mg "isinstance" = none) (hg2 : Gl X t.name) (hm2 : X.mg t.name = none) (hx : okX e = true) (ha : PE X e (liftE C wa)) :
    PE X (.Call (.Name "isinstance" p) [e, .Name t.name q] [] pos) (liftE C fun ρ M P => wa ρ M fun r ρ M => oP (peek r ρ) fun d => oP (isD t d) fun z => P (.val (.bl z)) ρ M) := by
  have hb : PE X (.Name t.name q) (tC (.ty t.ty)) := pe_bltn hg2 hm2 (ty_boot t) rfl (ty_nm t).1 (ty_nm t).2
  have hp : PA X [e, .Name t.name q] (tCons (liftE C wa) (tCons (tC (.ty t.ty)) tNil)) := pa_cons ha (pa_cons hb pa_nil rfl) (star_okX hx [.Name t.name q] X.env)
  refine PE.imp (pe_callB (vcall_isi (t := t)) hg hm (by decide +kernel) hp (by decide +kernel) (by decide +kernel) (star_okX hx _ _) rfl) fun σ H Q h => ?_
  refine lift1G (liftE_G.mp h) fun F ρ pd M pv P r x H hr w hk => ?_
  obtain ⟨d, e1, w⟩ := oP_of w
  obtain ⟨z, e2, w⟩ := oP_of w
  exact ⟨F, d, z, x, rfl, hr.sub, O.rb (hr.peek e1), e2, hk _ _ _ _ _ _ w (Same.refl _) (RR.bl hr.base hr.len _)⟩
end
end Mi

set_option maxHeartbeats 4000000
/-! Mi12: what is walked; targets. -/
namespace Mi
open PySem PySem.Spec PyProof.Rows L2

/-- a walk's items are ds wherever V -/
structure Wk (C : Gh) (J : L2.It) (ds : List Dat) (V : Hp → Hp → Prop) : Prop where
  go : ∀ F H i d, V F H → Same F H → ds[i]? = some d → J.go i H ∧ ∀ x H', J.yld i H x H' → ∃ F', Fz F H F' H' ∧ C.rep F' d x
  stop : ∀ F H, V F H → Same F H → J.stop ds.length H
/-- a source that stands where it stood -/
def Vp (C : Gh) (F : Hp) (ρ : Env) (σ : St) (r : Rv) (x : V) (W : Hp → Hp → Prop) : Prop := ∀ (F' : Hp) (ρ' : Env) (M' : MH) (σ' : St) (H' : Hp) (pd1 pd2 : Env) (pv1 pv2 : St), Same F F' → R C F' (ρ' ++ (pd1 ++ (pendOf r :: pd2))) M' (σ' ++ (pv1 ++ (some x :: pv2))) H' →
  ρ'.length = σ'.length → pd1.length = pv1.length → (∀ i, r = .bor i → ρ'[i]? = ρ[i]? ∧ σ'[i]? = σ[i]?) → W F' H'
/-- a comprehension's source -/
def liftI (C : Gh) (w : WA) : TI := fun σ H R' => ∃ F ρ pd M pv P, R C F (ρ ++ pd) M (σ ++ pv) H ∧ ρ.length = σ.length ∧ w ρ M P ∧
  ∀ ds ρ' M' F' H' J r x W, P ds ρ' M' → Same F F' → RR C F' ρ' pd M' σ pv H' r x → Wk C J ds W → Vp C F' ρ' σ r x W → R' J H'
/-- a for's source -/
def liftF (C : Gh) (w : WA) : TI := fun σ H R' => ∃ F ρ pd M pv P, R C F (ρ ++ pd) M (σ ++ pv) H ∧ ρ.length = σ.length ∧ w ρ M P ∧
  ∀ ds ρ' M' F' H' J, P ds ρ' M' → Same F F' → R C F' (ρ' ++ pd) M' (σ ++ pv) H' → ρ'.length = σ.length → Wk C J ds (fun F'' _ => Same F' F'') → R' J H'

def Jof (K : PySem.W.Frag) (d : Dat) (a : Addr) : L2.It := match d with
  | .lst _ => Itl K a
  | _ => Itt K a
/-- over a list or a tuple -/
def iAny (K : PySem.W.Frag) (tl : TE) : TI := fun σ H R => tl σ H fun x H1 => ∃ a, x = .ref a ∧ (((∃ xs, SqL K H1 a xs) ∧ R (Itl K a) H1) ∨ ((∃ xs, SqT K H1 a xs) ∧ R (Itt K a) H1))
theorem pi_any {X : Cx} {tg l : Expr} {tl : TE} (hl : PE X l tl) : PI X tg l (iAny X.K tl) := by
  refine ⟨fun pins s σ H R I h => ?_⟩
  refine thn (hl.run pins s σ H _ I h) fun v s1 ⟨x, H1, I1, r1, q1⟩ => ?_
  obtain ⟨a, e, q⟩ := q1
  subst e
  cases r1
  rcases q with ⟨⟨xs, hq⟩, q⟩ | ⟨⟨xs, hq⟩, q⟩
  · obtain ⟨its, rv, p, hz⟩ := I1.list hq
    refine wpAny_pyIter_list p.isList ?_
    refine ⟨s1.heap.objs.size, [s1.heap.objs.size], _, _, H1, rfl, I1.kept (t' := s1.toks) fun b o e => Heap.get?_push_of_some _ e, turn_list a _, ⟨_, Heap.get?_push_size _ rfl, rfl, rfl⟩, fun b hb => ?_, q⟩
    have e : b = s1.heap.objs.size := by simpa using hb
    subst e
    exact I1.fpOk (Nat.le_refl _) (I1.hok.fresh (Nat.le_refl _))
  · obtain ⟨its, rv, p, hz⟩ := I1.tuple hq
    refine wpAny_pyIter_tuple (show s1.heap.IsTuple a its.toArray from p) ?_
    refine ⟨s1.heap.objs.size, [s1.heap.objs.size], _, _, H1, rfl, I1.kept (t' := s1.toks) fun b o e => Heap.get?_push_of_some _ e, turn_tuple a _, ⟨_, Heap.get?_push_size _ rfl, rfl, rfl⟩, fun b hb => ?_, q⟩
    have e : b = s1.heap.objs.size := by simpa using hb
    subst e
    exact I1.fpOk (Nat.le_refl _) (I1.hok.fresh (Nat.le_refl _))
theorem PI.imp {X : Cx} {tg e : Expr} {t t' : TI} (h : PI X tg e t) (k : ∀ σ H Q, t' σ H Q → t σ H Q) : PI X tg e t' := ⟨fun pins s σ H Q I q => h.run pins s σ H Q I (k σ H Q q)⟩

section
variable {X : Cx} {C : Gh} {Γ : Kn} {κ : Nat} {c : Cs} {XP : PX} {wa : WE} {wl : WA} {tg : Expr}
/-- a list's or tuple's walk -/
theorem Okc.wk (O : Okc X C Γ κ c XP) {d : Dat} {x : V} {F0 H0 : Hp} {ds : List Dat} (h : RepB C.K C.mg F0 H0 d x) (s0 : Same F0 H0) (e : seqD d = some ds) {W : Hp → Hp → Prop} (hW : ∀ F H, W F H → Same F H → RepB C.K C.mg F H d x) :
    ∃ a, x = .ref a ∧ (((∃ xs, SqL X.K H0 a xs) ∧ Wk C (Itl X.K a) ds W) ∨ ((∃ xs, SqT X.K H0 a xs) ∧ Wk C (Itt X.K a) ds W)) := by
  cases d with
  | lst es =>
    cases e
    obtain ⟨a, xs, rfl, h1, h2⟩ := h
    refine ⟨a, rfl, .inl ⟨⟨xs, .inl (.inl h1)⟩, ?_, ?_⟩⟩
    · intro F H i d w s e
      obtain ⟨b, ys, eb, g1, g2⟩ := hW F H w s
      cases eb
      obtain ⟨y, e1, e2⟩ := g2.get e
      refine ⟨⟨ys, y, .inl (.inl g1), e1⟩, fun x H' q => ?_⟩
      obtain ⟨rfl, q⟩ := q
      have := q ys (.inl (.inl g1))
      rw [e1] at this
      cases this
      exact ⟨F, Fz.refl _ _, e2⟩
    · intro F H w s
      obtain ⟨b, ys, eb, g1, g2⟩ := hW F H w s
      cases eb
      exact ⟨ys, .inl (.inl g1), by rw [g2.length]; exact Nat.le_refl _⟩
  | tup es =>
    cases e
    obtain ⟨a, xs, rfl, h1, h2⟩ := repB_tup.mp h
    refine ⟨a, rfl, .inr ⟨⟨xs, by rw [← O.K]; exact sqT_same s0 h1⟩, ?_, ?_⟩⟩
    · intro F H i d w s e
      obtain ⟨b, ys, eb, g1, g2⟩ := repB_tup.mp (hW F H w s)
      cases eb
      obtain ⟨y, e1, e2⟩ := g2.get e
      have g1 := sqT_same s g1
      rw [O.K] at g1
      refine ⟨⟨ys, y, g1, e1⟩, fun x H' q => ?_⟩
      obtain ⟨rfl, q⟩ := q
      have := q ys g1
      rw [e1] at this
      cases this
      exact ⟨F, Fz.refl _ _, e2⟩
    · intro F H w s
      obtain ⟨b, ys, eb, g1, g2⟩ := repB_tup.mp (hW F H w s)
      cases eb
      have g1 := sqT_same s g1
      rw [O.K] at g1
      exact ⟨ys, g1, by rw [g2.length]; exact Nat.le_refl _⟩
  | _ => cases e
theorem snd_seqI (O : Okc X C Γ κ c XP) {e : Expr} (ha : PE X e (liftE C wa)) : PI X tg e (liftI C fun ρ M P => wa ρ M fun r ρ M => oP (itD false r ρ) fun p => P p.1 p.2 M) := by
  refine PI.imp (pi_any ha) fun σ H R' ⟨F, ρ, pd, M, pv, P, hr, hl, hw, hk⟩ => ?_
  refine ⟨F, ρ, pd, M, pv, _, hr, hl, hw, fun r ρ1 M1 F1 x H1 w1 s1 r1 => ?_⟩
  obtain ⟨⟨ds, ρ2⟩, e1, w1⟩ := oP_of w1
  have e1 : (match peek r ρ1 with | some d => (seqD d).map fun ds => (ds, ρ1) | none => none) = some (ds, ρ2) := e1
  cases e2 : peek r ρ1 with
  | none => rw [e2] at e1; cases e1
  | some d =>
    rw [e2] at e1
    cases e3 : seqD d with
    | none => simp [e3] at e1
    | some ds' =>
      simp only [e3, Option.map_some, Option.some.injEq, Prod.mk.injEq] at e1
      obtain ⟨rfl, rfl⟩ := e1
      have vp : Vp C F1 ρ1 σ r x (fun F H => RepB C.K C.mg F H d x) := by
        intro F' ρ' M' σ' H' pd1 pd2 pv1 pv2 s h l1 l2 hb
        refine peek_at h l1 l2 (fun i e => ?_) ?_
        · rw [(hb i e).2]; exact r1.bor i e
        · cases r with
          | bor i =>
            show (match ρ'[i]? with | some s => slD s | none => none) = some d
            rw [(hb i rfl).1]; exact e2
          | _ => exact e2
      obtain ⟨a, rfl, q⟩ := O.wk (r1.peek e2) r1.sub e3 (W := fun F H => RepB C.K C.mg F H d x) fun _ _ z _ => z
      refine ⟨a, rfl, ?_⟩
      rcases q with ⟨q1, q2⟩ | ⟨q1, q2⟩
      · exact .inl ⟨q1, hk _ _ _ _ _ _ _ _ _ w1 s1 r1 q2 vp⟩
      · exact .inr ⟨q1, hk _ _ _ _ _ _ _ _ _ w1 s1 r1 q2 vp⟩
theorem snd_seqF (O : Okc X C Γ κ c XP) {e : Expr} (ha : PE X e (liftE C wa)) : PI X tg e (liftF C fun ρ M P => wa ρ M fun r ρ M => oP (itD true r ρ) fun p => P p.1 p.2 M) := by
  refine PI.imp (pi_any ha) fun σ H R' ⟨F, ρ, pd, M, pv, P, hr, hl, hw, hk⟩ => ?_
  refine ⟨F, ρ, pd, M, pv, _, hr, hl, hw, fun r ρ1 M1 F1 x H1 w1 s1 r1 => ?_⟩
  obtain ⟨⟨ds, ρ2⟩, e1, w1⟩ := oP_of w1
  have e1 : (match escD r ρ1 with | some (d, ρ') => (seqD d).map fun ds => (ds, ρ') | none => none) = some (ds, ρ2) := e1
  cases e2 : escD r ρ1 with
  | none => rw [e2] at e1; cases e1
  | some dp =>
    obtain ⟨d, ρ3⟩ := dp
    rw [e2] at e1
    cases e3 : seqD d with
    | none => simp [e3] at e1
    | some ds' =>
      simp only [e3, Option.map_some, Option.some.injEq, Prod.mk.injEq] at e1
      obtain ⟨rfl, rfl⟩ := e1
      obtain ⟨F2, s2, h2, l2, rp⟩ := r1.esc e2
      rw [← List.append_assoc, ← List.append_assoc] at h2
      have h3 := h2.pop_
      obtain ⟨a, rfl, q⟩ := O.wk (RepB.of rp h3.mr.sub) h3.mr.sub e3 (W := fun F _ => Same F2 F) fun F H z s => RepB.of (rp.mono z) s
      refine ⟨a, rfl, ?_⟩
      rcases q with ⟨q1, q2⟩ | ⟨q1, q2⟩
      · exact .inl ⟨q1, hk _ _ _ _ _ _ w1 (Same.trans s1 s2) h3 l2 q2⟩
      · exact .inr ⟨q1, hk _ _ _ _ _ _ w1 (Same.trans s1 s2) h3 l2 q2⟩
theorem wk_rng {lo : Int} {n : Nat} {W : Hp → Hp → Prop} : Wk C (Itr lo n) (rngL lo n) W where
  go := fun F H i d w s e => by
    unfold rngL at e
    rw [List.getElem?_map] at e
    cases q : (List.range n)[i]? with
    | none => rw [q] at e; cases e
    | some j =>
      rw [q] at e
      obtain ⟨hi, ej⟩ := List.getElem?_eq_some_iff.mp q
      simp at ej hi
      subst ej
      refine ⟨hi, fun x H' y => ?_⟩
      obtain ⟨rfl, rfl⟩ := y
      cases e
      exact ⟨F, Fz.refl _ _, rep_int.mpr rfl⟩
  stop := fun F H w s => by
    show n ≤ (rngL lo n).length
    unfold rngL; simp
theorem rng_cases {ds : List Dat} {p : Int × Nat} (h : rngD ds = some p) : (∃ j : Int, ds = [.int j] ∧ (-(2 ^ 62) ≤ j ∧ j < 2 ^ 62) ∧ p = (0, j.toNat)) ∨
    (∃ i j : Int, ds = [.int i, .int j] ∧ (-(2 ^ 62) ≤ i ∧ i < 2 ^ 62 ∧ -(2 ^ 62) ≤ j ∧ j < 2 ^ 62) ∧ p = (i, (j - i).toNat)) := by
  unfold rngD at h
  split at h
  · split at h
    · cases h; exact .inl ⟨_, rfl, by assumption, rfl⟩
    · cases h
  · split at h
    · cases h; exact .inr ⟨_, _, rfl, by assumption, rfl⟩
    · cases h
  · cases h
/-- range( ) of its arguments -/
def iRng (ta : TA) : TI := fun σ H R => ta σ H fun vs H1 => (∃ j : Int, vs = [.int j] ∧ (-(2 ^ 62) ≤ j ∧ j < 2 ^ 62) ∧ R (Itr 0 j.toNat) H1) ∨ ∃ i j : Int, vs = [.int i, .int j] ∧ (-(2 ^ 62) ≤ i ∧ i < 2 ^ 62 ∧ -(2 ^ 62) ≤ j ∧ j < 2 ^ 62) ∧ R (Itr i (j - i).toNat) H1
theorem pi_rng {es : List Expr} {e : Expr} {ta : TA} {p pos : Pos} (hg : Gl X "range") (hm : X.mg "range" = none) (ha : PA X (e :: es) ta) (he : ∀ p ∈ e :: es, okX p = true) : PI X tg (.Call (.Name "range" p) (e :: es) [] pos) (iRng ta) := by
  refine ⟨fun pins s σ H R I h => ?_⟩
  refine Call_ (ld_blt I hg hm boot_range (PyProof.Rows.callWith_type1 (thn (ha.run pos pins s σ H _ I h) fun us s1 ⟨vs, H1, I1, r1, q1⟩ => ?_) (star_okX (he e (by simp)) _ _) (any_star fun p hp => he p (by simp [hp]))))
  rcases q1 with ⟨j, e, ⟨q1, q2⟩, q⟩ | ⟨i, j, e, ⟨q1, q2, q3, q4⟩, q⟩
  · subst e
    cases r1 with
    | cons r rr =>
      cases rr
      obtain ⟨t, rfl⟩ := r
      exact call_range_1 (range_it I1 (by omega) (by omega) q1 q2 (by simpa using q))
  · subst e
    cases r1 with
    | cons r rr =>
      cases rr with
      | cons r' rr =>
        cases rr
        obtain ⟨t, rfl⟩ := r
        obtain ⟨t', rfl⟩ := r'
        exact call_range_2 (range_it I1 q1 q2 q3 q4 q)
theorem core_rng {Q : L2.It → Hp → Prop} {σ : St} {H : Hp} (h : ∃ (F : Hp) (ρ pd : Env) (M : MH) (pv : St) (P : PA_), R C F (ρ ++ pd) M (σ ++ pv) H ∧ ρ.length = σ.length ∧ (wl ρ M fun ds ρ M => oP (rngD ds) fun p => P (rngL p.1 p.2) ρ M) ∧
    ∀ (lo : Int) (n : Nat) (ρ' : Env) (M' : MH) (F' H' : Hp), P (rngL lo n) ρ' M' → Same F F' → R C F' (ρ' ++ pd) M' (σ ++ pv) H' → ρ'.length = σ.length → Q (Itr lo n) H') : iRng (liftA C wl) σ H Q := by
  obtain ⟨F, ρ, pd, M, pv, P, hr, hl, hw, hk⟩ := h
  refine ⟨F, ρ, pd, M, pv, _, hr, hl, hw, fun ds ρ1 M1 F1 xs H1 w1 s1 r1 l1 rps => ?_⟩
  obtain ⟨p, e1, w1⟩ := oP_of w1
  rcases rng_cases e1 with ⟨j, rfl, hj, rfl⟩ | ⟨i, j, rfl, hj, rfl⟩
  · obtain ⟨x, rfl, z⟩ := rps.one
    obtain rfl := rep_int.mp z
    exact .inl ⟨j, rfl, hj, hk _ _ _ _ _ _ w1 s1 r1 l1⟩
  · obtain ⟨x, y, rfl, z, z2⟩ := rps.two
    obtain rfl := rep_int.mp z
    obtain rfl := rep_int.mp z2
    exact .inr ⟨i, j, rfl, hj, hk _ _ _ _ _ _ w1 s1 r1 l1⟩
theorem snd_rngF {es : List Expr} {e : Expr} {p pos : Pos} (hg : Gl X "range") (hm : X.mg "range" = none) (he : ∀ p ∈ e :: es, okX p = true) (ha : PA X (e :: es) (liftA C wl)) :
    PI X tg (.Call (.Name "range" p) (e :: es) [] pos) (liftF C fun ρ M P => wl ρ M fun ds ρ M => oP (rngD ds) fun p => P (rngL p.1 p.2) ρ M) := by
  refine PI.imp (pi_rng hg hm ha he) fun σ H R' ⟨F, ρ, pd, M, pv, P, hr, hl, hw, hk⟩ => core_rng ⟨F, ρ, pd, M, pv, P, hr, hl, hw, fun lo n ρ' M' F' H' a b c d => hk _ _ _ _ _ _ a b c d wk_rng⟩
theorem snd_rngI {es : List Expr} {e : Expr} {p pos : Pos} (hg : Gl X "range") (hm : X.mg "range" = none) (he : ∀ p ∈ e :: es, okX p = true) (ha : PA X (e :: es) (liftA C wl)) :
    PI X tg (.Call (.Name "range" p) (e :: es) [] pos) (liftI C fun ρ M P => wl ρ M fun ds ρ M => oP (rngD ds) fun p => P (rngL p.1 p.2) ρ M) := by
  refine PI.imp (pi_rng hg hm ha he) fun σ H R' ⟨F, ρ, pd, M, pv, P, hr, hl, hw, hk⟩ => core_rng ⟨F, ρ, pd, M, pv, P, hr, hl, hw, fun lo n ρ' M' F' H' a b c d => ?_⟩
  exact hk _ _ _ _ _ _ (.val .non) .non (fun _ _ => True) a b (RR.val c d (rep_non.mpr rfl)) wk_rng fun _ _ _ _ _ _ _ _ _ _ _ _ _ _ => True.intro

/-! ### zip -/
open RZ (ItzT iZipA pi_zipA)
theorem zipL_get : ∀ {as bs : List Dat} {i : Nat} {d : Dat}, (zipL as bs)[i]? = some d → ∃ d1 d2, as[i]? = some d1 ∧ bs[i]? = some d2 ∧ d = .tup [d1, d2]
  | [], _, i, d, h => by simp [zipL] at h
  | _ :: _, [], i, d, h => by simp [zipL] at h
  | a :: as, b :: bs, 0, d, h => by simp [zipL] at h; exact ⟨a, b, rfl, rfl, h.symm⟩
  | a :: as, b :: bs, i + 1, d, h => by
    simp [zipL] at h
    obtain ⟨d1, d2, e1, e2, e3⟩ := zipL_get h
    exact ⟨d1, d2, by simpa using e1, by simpa using e2, e3⟩
theorem zipL_len : ∀ (as bs : List Dat), (zipL as bs).length = min as.length bs.length
  | [], _ => by simp [zipL]
  | _ :: _, [] => by simp [zipL]
  | a :: as, b :: bs => by simp [zipL, zipL_len as bs]
theorem zip_fz {F H : Hp} {T : Addr} {x y : V} {d1 d2 : Dat} (s : Same F H) (hT : H T = none) (h1 : C.rep F d1 x) (h2 : C.rep F d2 y) : ∃ F', Fz F H F' (upd H T (.tup [x, y])) ∧ C.rep F' (.tup [d1, d2]) (.ref T) := by
  have fT : F T = none := by
    cases w : F T with
    | none => rfl
    | some o => have := s _ _ w; rw [hT] at this; cases this
  exact ⟨upd F T (.tup [x, y]), Fz.new hT, rep_tup.mpr ⟨T, [x, y], rfl, SqT.of upd_same, Reps.cons (Rep.mono (same_upd fT) h1) (Reps.cons (Rep.mono (same_upd fT) h2) Reps.nil)⟩⟩
theorem wk_zipT {K : PySem.W.Frag} {F1 : Hp} {a b : Addr} {as bs : List Dat} {xs ys : List V} (qa : SqT K F1 a xs) (qb : SqT K F1 b ys) (ra : C.reps F1 as xs) (rb : C.reps F1 bs ys) : Wk C (ItzT K a b) (zipL as bs) (fun F _ => Same F1 F) where
  go := fun F H i d w s e => by
    obtain ⟨d1, d2, e1, e2, rfl⟩ := zipL_get e
    obtain ⟨x, ex, rx⟩ := ra.get e1
    obtain ⟨y, ey, ry⟩ := rb.get e2
    have ha := sqT_same (Same.trans w s) qa
    have hb := sqT_same (Same.trans w s) qb
    refine ⟨⟨xs, ys, x, y, ha, hb, ex, ey⟩, fun v H' ⟨T, x', y', e3, hT, e4, gx, gy⟩ => ?_⟩
    subst e3 e4
    have z1 := (gx xs ha).symm.trans ex
    have z2 := (gy ys hb).symm.trans ey
    cases z1; cases z2
    exact zip_fz s hT (Rep.mono w rx) (Rep.mono w ry)
  stop := fun F H w s => ⟨xs, ys, sqT_same (Same.trans w s) qa, sqT_same (Same.trans w s) qb, by rw [zipL_len, ra.length, rb.length]; omega⟩
theorem wk_zipL {K : PySem.W.Frag} {F1 : Hp} {a b : Addr} {as bs : List Dat} {xs ys : List V} (qa : F1 a = some (.lst xs)) (qb : F1 b = some (.lst ys)) (ra : C.reps F1 as xs) (rb : C.reps F1 bs ys) : Wk C (Itz K a b) (zipL as bs) (fun F _ => Same F1 F) where
  go := fun F H i d w s e => by
    obtain ⟨d1, d2, e1, e2, rfl⟩ := zipL_get e
    obtain ⟨x, ex, rx⟩ := ra.get e1
    obtain ⟨y, ey, ry⟩ := rb.get e2
    have ha : SqL K H a xs := .inl (.inl (s _ _ (w _ _ qa)))
    have hb : SqL K H b ys := .inl (.inl (s _ _ (w _ _ qb)))
    refine ⟨⟨xs, ys, x, y, ha, hb, ex, ey⟩, fun v H' ⟨T, x', y', e3, hT, e4, gx, gy⟩ => ?_⟩
    subst e3 e4
    have z1 := (gx xs ha).symm.trans ex
    have z2 := (gy ys hb).symm.trans ey
    cases z1; cases z2
    exact zip_fz s hT (Rep.mono w rx) (Rep.mono w ry)
  stop := fun F H w s => ⟨xs, ys, .inl (.inl (s _ _ (w _ _ qa))), .inl (.inl (s _ _ (w _ _ qb))), by rw [zipL_len, ra.length, rb.length]; omega⟩
theorem core_zip (O : Okc X C Γ κ c XP) {Q : L2.It → Hp → Prop} {σ : St} {H : Hp} (h : ∃ (F : Hp) (ρ pd : Env) (M : MH) (pv : St) (P : PA_), R C F (ρ ++ pd) M (σ ++ pv) H ∧ ρ.length = σ.length ∧ (wl ρ M fun ds ρ M => oP (zipD ds) fun l => P l ρ M) ∧
    ∀ (l : List Dat) (ρ' : Env) (M' : MH) (F' H' : Hp) (J : L2.It), P l ρ' M' → Same F F' → R C F' (ρ' ++ pd) M' (σ ++ pv) H' → ρ'.length = σ.length → Wk C J l (fun F'' _ => Same F' F'') → Q J H') : iZipA X.K (liftA C wl) σ H Q := by
  obtain ⟨F, ρ, pd, M, pv, P, hr, hl, hw, hk⟩ := h
  refine ⟨F, ρ, pd, M, pv, _, hr, hl, hw, fun ds ρ1 M1 F1 xs H1 w1 s1 r1 l1 rps => ?_⟩
  obtain ⟨l, e1, w1⟩ := oP_of w1
  have sb := r1.mr.sub
  unfold zipD at e1
  split at e1
  · rename_i as bs
    cases e1
    obtain ⟨v1, v2, rfl, q1, q2⟩ := rps.two
    obtain ⟨a, xs, rfl, qa, ra⟩ := rep_tup.mp q1
    obtain ⟨b, ys, rfl, qb, rb⟩ := rep_tup.mp q2
    rw [O.K] at qa qb
    exact ⟨a, b, xs, ys, rfl, .inr ⟨sqT_same sb qa, sqT_same sb qb, hk _ _ _ _ _ _ w1 s1 r1 l1 (wk_zipT qa qb ra rb)⟩⟩
  · rename_i as bs
    cases e1
    obtain ⟨v1, v2, rfl, q1, q2⟩ := rps.two
    obtain ⟨a, xs, rfl, qa, ra⟩ := rep_lst.mp q1
    obtain ⟨b, ys, rfl, qb, rb⟩ := rep_lst.mp q2
    exact ⟨a, b, xs, ys, rfl, .inl ⟨.inl (.inl (sb _ _ qa)), .inl (.inl (sb _ _ qb)), hk _ _ _ _ _ _ w1 s1 r1 l1 (wk_zipL qa qb ra rb)⟩⟩
  · cases e1
theorem snd_zipF (O : Okc X C Γ κ c XP) {e e2 : Expr} {p pos tpos : Pos} {elts : List Expr} {kk : Nat} (hg : Gl X "zip") (hm : X.mg "zip" = none) (h1 : okX e = true) (h2 : okX e2 = true) (ha : PA X [e, e2] (liftA C wl)) :
    PI X (.Tuple elts kk tpos) (.Call (.Name "zip" p) [e, e2] [] pos) (liftF C fun ρ M P => wl ρ M fun ds ρ M => oP (zipD ds) fun l => P l ρ M) := by
  refine PI.imp (pi_zipA hg hm ha (star_okX h1 _ _) (any_star fun p hp => by simp at hp; subst hp; exact h2)) fun σ H R' ⟨F, ρ, pd, M, pv, P, hr, hl, hw, hk⟩ => core_zip O ⟨F, ρ, pd, M, pv, P, hr, hl, hw, fun l ρ' M' F' H' J a b c d e => hk _ _ _ _ _ _ a b c d e⟩
theorem snd_zipI (O : Okc X C Γ κ c XP) {e e2 : Expr} {p pos tpos : Pos} {elts : List Expr} {kk : Nat} (hg : Gl X "zip") (hm : X.mg "zip" = none) (h1 : okX e = true) (h2 : okX e2 = true) (ha : PA X [e, e2] (liftA C wl)) :
    PI X (.Tuple elts kk tpos) (.Call (.Name "zip" p) [e, e2] [] pos) (liftI C fun ρ M P => wl ρ M fun ds ρ M => oP (zipD ds) fun l => P l ρ M) := by
  refine PI.imp (pi_zipA hg hm ha (star_okX h1 _ _) (any_star fun p hp => by simp at hp; subst hp; exact h2)) fun σ H R' ⟨F, ρ, pd, M, pv, P, hr, hl, hw, hk⟩ => core_zip O ⟨F, ρ, pd, M, pv, P, hr, hl, hw, fun l ρ' M' F' H' J a b c d e => ?_⟩
  exact hk _ _ _ _ _ _ (.val .non) .non (fun F _ => Same F' F) a b (RR.val c d (rep_non.mpr rfl)) e fun F2 _ _ _ _ _ _ _ _ s _ _ _ _ => s

/-! ### targets -/
/-- a target's store, by values -/
def liftG' (C : Gh) (t : Tg) : TG := fun v σ H Q => ∃ F ρ pd M pv d, R C F (ρ ++ pd) M (σ ++ pv) H ∧ ρ.length = σ.length ∧ C.rep F d v ∧ ∃ ρ', tgtF t d ρ = some ρ' ∧
  ∀ σ', σ'.length = σ.length → R C F (ρ' ++ pd) M (σ' ++ pv) H → (∀ i, i ∉ t.ix → σ'[i]? = σ[i]?) → Q σ' H
theorem PG.imp {X : Cx} {e : Expr} {t t' : TG} (h : PG X e t) (k : ∀ v σ H Q, t' v σ H Q → t v σ H Q) : PG X e t' := ⟨fun pins s σ H v u Q I r q => h.run pins s σ H v u Q I r (k v σ H Q q)⟩
theorem R.putV1 {F : Hp} {ρ pd : Env} {M : MH} {σ pv : St} {H : Hp} {d : Dat} {v : V} {i : Nat} (h : R C F (ρ ++ pd) M (σ ++ pv) H) (l : ρ.length = σ.length) (r : C.rep F d v) : R C F (ρ.set i (.val d) ++ pd) M (σ.set i (some v) ++ pv) H := by
  by_cases hi : i < ρ.length
  · have := h.putV (i := i) r
    rwa [List.set_append_left _ _ hi, List.set_append_left _ _ (by omega)] at this
  · rw [List.set_eq_of_length_le (by omega), List.set_eq_of_length_le (by omega)]; exact h
theorem snd_tgv (O : Okc X C Γ κ c XP) {i : Nat} {x : Str} {pos : Pos} (hi : X.N[i]? = some x) (hx : Loc X.env.scope x) (hf : X.fn x = true ∨ X.env.scope.names.lookup x = some .local) : PG X (.Name x pos) (liftG' C (.var i)) := by
  refine PG.imp (pg_name O.nd hi hx hf) fun v σ H Q ⟨F, ρ, pd, M, pv, d, hr, hl, rp, ρ', e, hk⟩ => ?_
  cases e
  refine hk _ (by simp) (hr.putV1 hl rp) fun j hj => ?_
  have : i ≠ j := fun e => hj (by simp [Tg.ix, e])
  rw [List.getElem?_set_ne this]
/-- names of a tuple target, one after another -/
def setAllV (σ : St) : List (Nat × V) → St
  | [] => σ
  | p :: ps => setAllV (σ.set p.1 (some p.2)) ps
theorem setAllV_len : ∀ (l : List (Nat × V)) (σ : St), (setAllV σ l).length = σ.length
  | [], _ => rfl
  | p :: ps, σ => by show (setAllV (σ.set p.1 (some p.2)) ps).length = _; rw [setAllV_len ps]; simp
theorem setAllV_ne : ∀ (l : List (Nat × V)) (σ : St) (i : Nat), i ∉ l.map (·.1) → (setAllV σ l)[i]? = σ[i]?
  | [], _, _, _ => rfl
  | p :: ps, σ, i, h => by
    simp only [List.map_cons, List.mem_cons, not_or] at h
    show (setAllV (σ.set p.1 (some p.2)) ps)[i]? = _
    rw [setAllV_ne ps _ i h.2, List.getElem?_set_ne (Ne.symm h.1)]
theorem R.setAll {F : Hp} {pd : Env} {M : MH} {pv : St} {H : Hp} : ∀ {is : List Nat} {ds : List Dat} {xs : List V} {ρ : Env} {σ : St}, is.length = ds.length → R C F (ρ ++ pd) M (σ ++ pv) H → ρ.length = σ.length → C.reps F ds xs →
    R C F (Mi.setAll ρ (is.zip (ds.map Sl.val)) ++ pd) M (setAllV σ (is.zip xs) ++ pv) H ∧ (Mi.setAll ρ (is.zip (ds.map Sl.val))).length = ρ.length
  | [], ds, xs, ρ, σ, hl, h, l, r => by
    obtain rfl : ds = [] := List.eq_nil_of_length_eq_zero hl.symm
    exact ⟨h, rfl⟩
  | i :: is, [], xs, ρ, σ, hl, h, l, r => by simp at hl
  | i :: is, d :: ds, xs, ρ, σ, hl, h, l, r => by
    have r' : Reps C.K C.mg F (d :: ds) xs := r
    unfold Reps at r'
    obtain ⟨x, xs', rfl, r1, r2⟩ := r'
    have := R.setAll (is := is) (ds := ds) (xs := xs') (by simpa using hl) (h.putV1 (i := i) l r1) (by simp [l]) r2
    exact ⟨this.1, this.2.trans (by simp)⟩
theorem pgs_names (O : Okc X C Γ κ c XP) : ∀ {is : List Nat} {ps : List Expr}, is.length = ps.length → (∀ p ∈ is.zip ps, ∃ x pos, p.2 = Expr.Name x pos ∧ X.N[p.1]? = some x ∧ Loc X.env.scope x ∧ (X.fn x = true ∨ X.env.scope.names.lookup x = some .local)) →
    PGs X ps (fun vs σ H Q => vs.length = is.length ∧ Q (setAllV σ (is.zip vs)) H) ∧ (assignEach ps X.env).length = ps.length ∧ (assignEach ps X.env).findIdx? (·.1) = none
  | [], [], _, _ => by
    refine ⟨⟨fun pins s σ H vs us Q I r h => pgs_nil.run pins s σ H vs us Q I r ?_⟩, rfl, rfl⟩
    obtain ⟨h1, h2⟩ := h
    obtain rfl := List.eq_nil_of_length_eq_zero h1
    exact ⟨rfl, h2⟩
  | [], _ :: _, h, _ => by simp at h
  | _ :: _, [], h, _ => by simp at h
  | i :: is, p :: ps, hl, h => by
    obtain ⟨x, pos, e, hi, hx, hf⟩ := h (i, p) (by simp)
    simp only at e
    subst e
    obtain ⟨g1, g2, g3⟩ := pgs_names O (is := is) (ps := ps) (by simpa using hl) fun q hq => h q (by simp [hq])
    refine ⟨⟨fun pins s σ H vs us Q I r h => (pgs_cons (pg_name (pos := pos) O.nd hi hx hf) g1).run pins s σ H vs us Q I r ?_⟩, ?_, ?_⟩
    · obtain ⟨h1, h2⟩ := h
      cases vs with
      | nil => simp at h1
      | cons v vs => exact ⟨v, vs, rfl, by simpa using h1, h2⟩
    · show (assignEach ps X.env).length + 1 = _
      rw [g2]; rfl
    · show List.findIdx? (·.1) ((false, assign (.Name x pos) X.env) :: assignEach ps X.env) = none
      rw [List.findIdx?_cons, g3]; rfl
theorem snd_tgt (O : Okc X C Γ κ c XP) {is : List Nat} {ps : List Expr} {k : Nat} {pos : Pos} (hl : is.length = ps.length) (h : ∀ p ∈ is.zip ps, ∃ x pos, p.2 = Expr.Name x pos ∧ X.N[p.1]? = some x ∧ Loc X.env.scope x ∧ (X.fn x = true ∨ X.env.scope.names.lookup x = some .local)) :
    PG X (.Tuple ps k pos) (liftG' C (.tup is)) := by
  obtain ⟨g1, g2, g3⟩ := pgs_names O hl h
  refine PG.imp (pg_tup O.calm g1 g2 g3) fun v σ H Q ⟨F, ρ, pd, M, pv, d, hr, hlen, rp, ρ', e, hk⟩ => ?_
  cases d with
  | tup ds =>
    have e : (if is.length = ds.length then some (setAll ρ (is.zip (ds.map Sl.val))) else none) = some ρ' := e
    split at e
    · rename_i hds
      cases e
      obtain ⟨a, xs, rfl, h1, h2⟩ := rep_tup.mp rp
      refine ⟨a, xs, rfl, by rw [← O.K]; exact sqT_same hr.mr.sub h1, by rw [h2.length, ← hds, hl], by rw [h2.length, hds], ?_⟩
      refine hk _ (setAllV_len _ _) (R.setAll hds hr hlen h2).1 fun i hi => ?_
      refine setAllV_ne _ _ _ fun hm => hi ?_
      obtain ⟨q, hq, rfl⟩ := List.mem_map.mp hm
      exact (List.of_mem_zip hq).1
    · cases e
  | _ => cases e
end
end Mi

set_option maxHeartbeats 4000000
/-! Mi13: comprehensions. -/
namespace Mi
open PySem PySem.Spec PyProof.Rows L2

/-- fewer places -/
theorem R.map {C : Gh} {F : Hp} {ρ ρ' : Env} {M : MH} {σ σ' : St} {H : Hp} (h : R C F ρ M σ H) (f : Nat → Nat) (hl : ρ'.length = σ'.length) (hf : ∀ i s, ρ'[i]? = some s → ρ[f i]? = some s ∧ σ'[i]? = σ[f i]?)
    (inj : ∀ i j, i < ρ'.length → j < ρ'.length → f i = f j → i = j) : R C F ρ' M σ' H where
  mr := h.mr
  len := hl
  sl := fun i s e => by
    obtain ⟨e1, e2⟩ := hf i s e
    rw [e2]
    exact h.sl _ _ e1
  dist := fun i j o p a e1 e2 e3 e4 => by
    obtain ⟨g1, g2⟩ := hf i _ e1
    obtain ⟨g3, g4⟩ := hf j _ e2
    exact inj i j (List.getElem?_eq_some_iff.mp e1).1 (List.getElem?_eq_some_iff.mp e2).1 (h.dist _ _ _ _ _ g1 g3 (g2 ▸ e3) (g4 ▸ e4))
  f0 := h.f0
  new := h.new
  old := h.old
  there := h.there
  md := h.md
  mn := h.mn
theorem R.mid {C : Gh} {F : Hp} {a b : Env} {s : Sl} {M : MH} {α β : St} {y : Option V} {H : Hp} (h : R C F (a ++ ([s] ++ b)) M (α ++ ([y] ++ β)) H) (l : a.length = α.length) : R C F (a ++ b) M (α ++ β) H := by
  have hl := h.len
  simp at hl
  refine h.map (fun i => if i < a.length then i else i + 1) (by simp; omega) (fun i s' e => ?_) fun i j _ _ e => ?_
  · by_cases hi : i < a.length
    · simp only [hi, if_true]
      rw [List.getElem?_append_left hi] at e ⊢
      rw [List.getElem?_append_left (by omega), List.getElem?_append_left (by omega)]
      exact ⟨e, rfl⟩
    · simp only [hi, if_false]
      rw [List.getElem?_append_right (by omega)] at e
      have e1 : (a ++ ([s] ++ b))[i + 1]? = b[i - a.length]? := by
        rw [List.getElem?_append_right (by omega)]
        have e1 : i + 1 - a.length = (i - a.length) + 1 := by omega
        rw [e1]; rfl
      have e2 : (α ++ ([y] ++ β))[i + 1]? = β[i - α.length]? := by
        rw [List.getElem?_append_right (by omega)]
        have e1 : i + 1 - α.length = (i - α.length) + 1 := by omega
        rw [e1]; rfl
      rw [e1, e2, List.getElem?_append_right (by omega)]
      exact ⟨e, rfl⟩
  · split at e <;> split at e <;> omega

theorem wipeE_len (ρ : Env) : ∀ vs : List Nat, (wipeE ρ vs).length = ρ.length
  | [] => rfl
  | v :: vs => by unfold wipeE; rw [List.length_set, wipeE_len ρ vs]
theorem wipeE_ne (ρ : Env) {i : Nat} : ∀ {vs : List Nat}, i ∉ vs → (wipeE ρ vs)[i]? = ρ[i]?
  | [], _ => rfl
  | v :: vs, h => by
    simp only [List.mem_cons, not_or] at h
    unfold wipeE
    rw [List.getElem?_set_ne (Ne.symm h.1)]
    exact wipeE_ne ρ h.2
theorem setAll_len : ∀ (l : List (Nat × Sl)) (ρ : Env), (setAll ρ l).length = ρ.length
  | [], _ => rfl
  | p :: ps, ρ => by show (setAll (ρ.set p.1 p.2) ps).length = _; rw [setAll_len ps]; simp
theorem setAll_ne : ∀ (l : List (Nat × Sl)) (ρ : Env) (i : Nat), i ∉ l.map (·.1) → (setAll ρ l)[i]? = ρ[i]?
  | [], _, _, _ => rfl
  | p :: ps, ρ, i, h => by
    simp only [List.map_cons, List.mem_cons, not_or] at h
    show (setAll (ρ.set p.1 p.2) ps)[i]? = _
    rw [setAll_ne ps _ i h.2, List.getElem?_set_ne (Ne.symm h.1)]
theorem tgtF_len {t : Tg} {d : Dat} {ρ ρ' : Env} (h : tgtF t d ρ = some ρ') : ρ'.length = ρ.length := by
  cases t with
  | var i => cases h; simp
  | tup is =>
    cases d with
    | tup ds =>
      have h : (if is.length = ds.length then some (setAll ρ (is.zip (ds.map Sl.val))) else none) = some ρ' := h
      split at h
      · cases h; exact setAll_len _ _
      · cases h
    | _ => cases h
theorem tgtF_ne {t : Tg} {d : Dat} {ρ ρ' : Env} {i : Nat} (h : tgtF t d ρ = some ρ') (hi : i ∉ t.ix) : ρ'[i]? = ρ[i]? := by
  cases t with
  | var j =>
    cases h
    have : j ≠ i := fun e => hi (by simp [Tg.ix, e])
    rw [List.getElem?_set_ne this]
  | tup is =>
    cases d with
    | tup ds =>
      have h : (if is.length = ds.length then some (setAll ρ (is.zip (ds.map Sl.val))) else none) = some ρ' := h
      split at h
      · cases h
        refine setAll_ne _ _ _ fun hm => hi ?_
        obtain ⟨q, hq, rfl⟩ := List.mem_map.mp hm
        exact (List.of_mem_zip hq).1
      · cases h
    | _ => cases h
theorem wipe_in {σ : St} {i : Nat} : ∀ {vs : List Nat}, i ∈ vs → (wipe σ vs)[i]? = if i < σ.length then some none else none
  | [], h => by simp at h
  | v :: vs, h => by
    unfold wipe
    by_cases hv : v = i
    · subst hv
      by_cases hl : v < σ.length
      · rw [if_pos hl, List.getElem?_set_self (by rw [wipe_length]; exact hl)]
      · rw [if_neg hl, List.getElem?_eq_none (by rw [List.length_set, wipe_length]; omega)]
    · rw [List.getElem?_set_ne hv]
      rcases List.mem_cons.mp h with e | e
      · exact absurd e.symm hv
      · exact wipe_in e
theorem wipe_eq {σ σ2 : St} {vs : List Nat} (hl : σ2.length = σ.length) (h : ∀ i, i ∉ vs → σ2[i]? = σ[i]?) : wipe σ2 vs = wipe σ vs := by
  apply List.ext_getElem?
  intro i
  by_cases hi : i ∈ vs
  · rw [wipe_in hi, wipe_in hi, hl]
  · rw [wipe_out hi, wipe_out hi]; exact h i hi
theorem R.putN1 {C : Gh} {F : Hp} {ρ pd : Env} {M : MH} {σ pv : St} {H : Hp} {i : Nat} (h : R C F (ρ ++ pd) M (σ ++ pv) H) (l : ρ.length = σ.length) : R C F (ρ.set i .no ++ pd) M (σ.set i none ++ pv) H := by
  by_cases hi : i < ρ.length
  · have := h.putN (i := i) none
    rwa [List.set_append_left _ _ hi, List.set_append_left _ _ (by omega)] at this
  · rw [List.set_eq_of_length_le (by omega), List.set_eq_of_length_le (by omega)]; exact h
theorem R.wipe {C : Gh} {F : Hp} {ρ pd : Env} {M : MH} {σ pv : St} {H : Hp} (h : R C F (ρ ++ pd) M (σ ++ pv) H) (l : ρ.length = σ.length) : ∀ vs : List Nat, R C F (wipeE ρ vs ++ pd) M (L2.wipe σ vs ++ pv) H
  | [] => h
  | v :: vs => (R.wipe h l vs).putN1 (by rw [wipeE_len, wipe_length, l])
theorem R.restore {C : Gh} {F F' : Hp} {ρ ρ2 pd pd2 : Env} {M M' : MH} {σ σ2 pv pv2 : St} {H H' : Hp} {own : List Nat} (h0 : R C F (ρ ++ pd) M (σ ++ pv) H) (h : R C F' (ρ2 ++ pd2) M' (σ2 ++ pv2) H') (e : Same F F')
    (hn : noOwn ρ own = true) (hq : ∀ i, i ∉ own → ρ2[i]? = ρ[i]? ∧ σ2[i]? = σ[i]?) (l : ρ.length = σ.length) (l2 : ρ2.length = ρ.length) (l3 : σ2.length = σ.length) : R C F' (ρ ++ pd2) M' (σ ++ pv2) H' := by
  have hno : ∀ i, i ∈ own → ∀ s, ρ[i]? = some s → s = .no ∨ ∃ d, s = .val d := by
    intro i hi s es
    have := List.all_eq_true.mp hn i hi
    rw [es] at this
    cases s with
    | no => exact .inl rfl
    | val d => exact .inr ⟨d, rfl⟩
    | own o => cases this
  have hl := h.len
  simp at hl
  -- what a place holds alone stands in both
  have key : ∀ (j : Nat) (o : Own), (ρ ++ pd2)[j]? = some (Sl.own o) → (ρ2 ++ pd2)[j]? = some (Sl.own o) ∧ (σ2 ++ pv2)[j]? = (σ ++ pv2)[j]? := by
    intro j o e1
    by_cases hj : j < ρ.length
    · rw [List.getElem?_append_left hj] at e1
      have hjo : j ∉ own := fun hm => by
        rcases hno j hm _ e1 with z | ⟨d, z⟩ <;> cases z
      obtain ⟨q1, q2⟩ := hq j hjo
      rw [List.getElem?_append_left (by omega), List.getElem?_append_left (by omega), List.getElem?_append_left (by omega), q1, q2]
      exact ⟨e1, rfl⟩
    · rw [List.getElem?_append_right (by omega)] at e1
      rw [List.getElem?_append_right (by omega), List.getElem?_append_right (by omega), List.getElem?_append_right (by omega), l2, l3]
      exact ⟨e1, rfl⟩
  exact {
    mr := h.mr
    len := by simp; omega
    sl := fun j s es => by
      by_cases hj : j < ρ.length
      · rw [List.getElem?_append_left hj] at es
        rw [List.getElem?_append_left (by omega)]
        by_cases hjo : j ∈ own
        · rcases hno j hjo s es with rfl | ⟨d, rfl⟩
          · trivial
          · obtain ⟨v, z1, z2⟩ := h0.sl j (.val d) (by rw [List.getElem?_append_left hj]; exact es)
            rw [List.getElem?_append_left (by omega)] at z1
            exact ⟨v, z1, z2.mono e⟩
        · obtain ⟨q1, q2⟩ := hq j hjo
          have := h.sl j s (by rw [List.getElem?_append_left (by omega), q1]; exact es)
          rw [List.getElem?_append_left (by omega), q2] at this
          exact this
      · rw [List.getElem?_append_right (by omega)] at es ⊢
        have := h.sl j s (by rw [List.getElem?_append_right (by omega), l2]; exact es)
        rw [List.getElem?_append_right (by omega), l3] at this
        exact this
    dist := fun i j o p a e1 e2 e3 e4 => by
      obtain ⟨g1, g2⟩ := key i o e1
      obtain ⟨g3, g4⟩ := key j p e2
      exact h.dist i j o p a g1 g3 (g2.trans e3) (g4.trans e4)
    f0 := h.f0
    new := h.new
    old := h.old
    there := h.there
    md := h.md
    mn := h.mn }

def liftTs (C : Gh) (w : Env → MH → (Bool → Env → MH → Prop) → Prop) : TT := fun σ H Q => ∃ F ρ pd M pv P, R C F (ρ ++ pd) M (σ ++ pv) H ∧ ρ.length = σ.length ∧ w ρ M P ∧
  ∀ b ρ' M' F' H', P b ρ' M' → Same F F' → R C F' (ρ' ++ pd) M' (σ ++ pv) H' → ρ'.length = σ.length → Q b H'
abbrev WI := Env → MH → (Bool → Env → MH → Prop) → Prop
/-- one turn's text: the store, the tests, what is within -/
def turnW (t : Tg) (own : List Nat) (ρ : Env) (wif : WI) (inner : Env → List Dat → MH → (List Dat → MH → Prop) → Prop) : Dat → List Dat → MH → (List Dat → MH → Prop) → Prop :=
  fun d acc M k => oP (tgtF t d (wipeE ρ own)) fun ρ2 => wif ρ2 M fun b ρ3 M => ρ3 = ρ2 ∧ match b with
      | true => inner ρ2 acc M k
      | false => k acc M

theorem turns {C : Gh} {J : L2.It} {ds : List Dat} {V : Hp → Hp → Prop} {F1 : Hp} {ρ : Env} {σ : St} {Z : List Dat → Env} {ζ : St} {own : List Nat} {t : Tg} {wif : WI} {inner : Env → List Dat → MH → (List Dat → MH → Prop) → Prop}
    {acc0 : List Dat} {M1 : MH} {H1 : Hp} {Pk : List Dat → MH → Prop} {fin : Hp → Prop} {Tin : St → Hp → (Hp → Prop) → Prop}
    (wk : Wk C J ds V) (hV : ∀ F' M' acc H', Same F1 F' → R C F' (ρ ++ Z acc) M' (σ ++ ζ) H' → V F' H') (hn : noOwn ρ own = true) (hown : ∀ i, i ∈ t.ix → i ∈ own) (hl : ρ.length = σ.length)
    (start : R C F1 (ρ ++ Z acc0) M1 (σ ++ ζ) H1) (w : lcOut (turnW t own ρ wif inner) ds acc0 M1 Pk)
    (hfin : ∀ F M acc H, Same F1 F → R C F (ρ ++ Z acc) M (σ ++ ζ) H → Pk acc M → fin H)
    (hin : ∀ (Nx : Hp → Prop) ρ2 σ2 acc M F H k, Same F1 F → R C F (ρ2 ++ Z acc) M (σ2 ++ ζ) H → ρ2.length = σ2.length → inner ρ2 acc M k →
      (∀ F' M' acc' H', Same F F' → R C F' (ρ2 ++ Z acc') M' (σ2 ++ ζ) H' → k acc' M' → Nx H') → Tin σ2 H Nx) :
    ∃ W : Nat → Nat → Hp → Prop, (∃ m, W 0 m H1) ∧ ∀ i m H, W i m H → (J.stop i H ∧ fin H) ∨ (J.go i H ∧ ∃ Nx : Hp → Prop, (∀ H', Nx H' → ∃ m', m' < m ∧ W (i + 1) m' H') ∧
      ∀ x H', J.yld i H x H' → liftG' C t x (wipe σ own) H' fun σ2 H2 => wipe σ2 own = wipe σ own ∧ liftTs C wif σ2 H2 fun b H3 => if b = true then Tin σ2 H3 Nx else Nx H3) := by
  refine ⟨fun i m H => m = ds.length - i ∧ i ≤ ds.length ∧ ∃ F M acc, Same F1 F ∧ R C F (ρ ++ Z acc) M (σ ++ ζ) H ∧ lcOut (turnW t own ρ wif inner) (ds.drop i) acc M Pk, ⟨ds.length, rfl, Nat.zero_le _, F1, M1, acc0, Same.refl _, start, w⟩, ?_⟩
  rintro i m H ⟨rfl, hi, F, M, acc, s, h, w⟩
  have v := hV F M acc H s h
  by_cases hlt : i < ds.length
  · refine .inr ?_
    obtain ⟨g1, g2⟩ := wk.go F H i ds[i] v h.mr.sub (List.getElem?_eq_getElem hlt)
    refine ⟨g1, fun H' => ∃ F M acc, Same F1 F ∧ R C F (ρ ++ Z acc) M (σ ++ ζ) H' ∧ lcOut (turnW t own ρ wif inner) (ds.drop (i + 1)) acc M Pk, fun H' n => ⟨ds.length - (i + 1), by omega, rfl, by omega, n⟩, fun x H' hy => ?_⟩
    obtain ⟨F2, fz, rp⟩ := g2 x H' hy
    obtain ⟨s2, h2⟩ := fz.R h
    rw [List.drop_eq_getElem_cons hlt] at w
    have w : oP (tgtF t ds[i] (wipeE ρ own)) fun ρ2 => wif ρ2 M fun b ρ3 M => ρ3 = ρ2 ∧ match b with
      | true => inner ρ2 acc M fun acc1 M1 => lcOut (turnW t own ρ wif inner) (ds.drop (i + 1)) acc1 M1 Pk
      | false => lcOut (turnW t own ρ wif inner) (ds.drop (i + 1)) acc M Pk := w
    obtain ⟨ρ2, e2, w⟩ := oP_of w
    have lρ : ρ2.length = ρ.length := by rw [tgtF_len e2, wipeE_len]
    refine ⟨F2, wipeE ρ own, Z acc, M, ζ, ds[i], h2.wipe hl own, by rw [wipeE_len, wipe_length, hl], rp, ρ2, e2, fun σ2 l2 h3 ne => ?_⟩
    have l2 : σ2.length = σ.length := by rw [l2, wipe_length]
    have qρ : ∀ j, j ∉ own → ρ2[j]? = ρ[j]? ∧ σ2[j]? = σ[j]? := fun j hj => by
      have hj' : j ∉ t.ix := fun z => hj (hown j z)
      exact ⟨by rw [tgtF_ne e2 hj', wipeE_ne ρ hj], by rw [ne j hj', wipe_out hj]⟩
    refine ⟨wipe_eq l2 fun j hj => (qρ j hj).2, F2, ρ2, Z acc, M, ζ, _, h3, by omega, w, fun b ρ3 M3 F3 H3 w3 s3 h4 l4 => ?_⟩
    obtain ⟨rfl, w3⟩ := w3
    cases b with
    | false =>
      simp only [Bool.false_eq_true, if_false]
      exact ⟨F3, M3, acc, Same.trans (Same.trans s s2) s3, h2.restore h4 s3 hn qρ hl lρ l2, w3⟩
    | true =>
      simp only [if_true]
      refine hin _ ρ3 σ2 acc M3 F3 H3 _ (Same.trans (Same.trans s s2) s3) h4 l4 w3 fun F' M' acc' H' s4 h5 w5 => ?_
      exact ⟨F', M', acc', Same.trans (Same.trans (Same.trans s s2) s3) s4, h2.restore h5 (Same.trans s3 s4) hn qρ hl lρ l2, w5⟩
  · have e : i = ds.length := by omega
    subst e
    rw [List.drop_length] at w
    exact .inl ⟨wk.stop F H v h.mr.sub, hfin F M acc H s h w⟩

/-- the item, put at the list's end -/
theorem elt_in {C : Gh} {D : Addr} {wel : WE} {pdA pdB : Env} {pvA pvB : St} (lA : pdA.length = pvA.length) (Nx : Hp → Prop) {ρ2 : Env} {σ2 : St} {acc : List Dat} {M : MH} {F H : Hp} {k : List Dat → MH → Prop}
    (h : R C F (ρ2 ++ (pdA ++ ([.own (.lst acc)] ++ pdB))) M (σ2 ++ (pvA ++ ([some (.ref D)] ++ pvB))) H) (l : ρ2.length = σ2.length)
    (w : wel ρ2 M fun r ρ4 M => oP (escD r ρ4) fun p => p.2 = ρ2 ∧ acc.length < sizeLine ∧ k (acc ++ [p.1]) M)
    (hk : ∀ F' M' acc' H', Same F F' → R C F' (ρ2 ++ (pdA ++ ([.own (.lst acc')] ++ pdB))) M' (σ2 ++ (pvA ++ ([some (.ref D)] ++ pvB))) H' → k acc' M' → Nx H') :
    liftE C wel σ2 H fun y H4 => ∃ acc, H4 D = some (.lst acc) ∧ acc.length < sizeLine ∧ Nx (upd H4 D (.lst (acc ++ [y]))) := by
  refine ⟨F, ρ2, _, M, _, _, h, l, w, fun r ρ4 M4 F4 y H4 w4 s4 r4 => ?_⟩
  obtain ⟨⟨v, ρ5⟩, e5, e6, lt, w5⟩ := oP_of w4
  simp only at e6
  subst e6
  obtain ⟨F5, s5, h5, l5, rp⟩ := r4.esc e5
  have h6 : R C F5 (ρ5 ++ (pdA ++ ([.own (.lst acc)] ++ pdB))) M4 (σ2 ++ (pvA ++ ([some (.ref D)] ++ pvB))) H4 := by
    rw [← List.append_assoc ρ5, ← List.append_assoc σ2] at h5
    exact h5.pop_
  have e1 : (ρ5 ++ (pdA ++ ([Sl.own (.lst acc)] ++ pdB)))[ρ5.length + pdA.length]? = some (.own (.lst acc)) := get_mid
  have e2 : (σ2 ++ (pvA ++ ([some (V.ref D)] ++ pvB)))[ρ5.length + pdA.length]? = some (some (.ref D)) := by rw [l5, lA]; exact get_mid
  obtain ⟨a, z1, ⟨xs, g1, g2⟩, _⟩ := h6.slo e1
  rw [e2] at z1; cases z1
  have h7 := h6.wr (ds' := acc ++ [v]) e1 e2 (g2.append (Reps.cons rp Reps.nil))
  have hs : (ρ5 ++ (pdA ++ ([Sl.own (.lst acc)] ++ pdB))).set (ρ5.length + pdA.length) (.own (.lst (acc ++ [v]))) = ρ5 ++ (pdA ++ ([Sl.own (.lst (acc ++ [v]))] ++ pdB)) := by
    rw [List.set_append_right _ _ (by omega), List.set_append_right _ _ (by omega)]
    have : ρ5.length + pdA.length - ρ5.length - pdA.length = 0 := by omega
    rw [this]; rfl
  rw [hs] at h7
  exact ⟨xs, g1, by rw [g2.length]; exact lt, hk F5 M4 _ _ (Same.trans s4 s5) h7 w5⟩

section
variable {X : Cx} {C : Gh} {Γ : Kn} {κ : Nat} {c : Cs} {XP : PX} {σ : St} {H : Hp} {Q : VK}
theorem Okc.weak (O : Okc X C Γ κ c XP) : Okc X C Γ κ c (fun _ _ => False) := { O with xp := O.xp.imp fun _ _ _ _ ⟨_, _, _, _, _, z⟩ => z.elim }
/-- a block's context -/
theorem Okc.blk (O : Okc X C Γ κ c XP) (s : Shared) (H : Hp) (scope : Scope) (C' : Addr) (cl : List (Str × Addr)) (fp : List Addr) :
    Okc (X.blk s H scope (compEnvC scope cl C' X.env) fp) C Γ κ ⟨c.N, relS scope c.sc, scope, false⟩ (fun _ _ => False) where
  K := O.K
  mg := O.mg
  N := O.N
  sc := by rw [← O.sc]; rfl
  nd := O.nd
  calm := O.calm
  room := O.room
  fn := O.fn
  gl := O.gl
  bt := O.bt
  tb := O.tb
  ex := O.ex
  xp := fun u s' ⟨a, B, sI, pins, σ, H, cls, d, e, I, nb, up, sky, na, os, ag, ⟨_, _, _, _, _, z⟩⟩ => z.elim
  lk := fun z => nomatch z
  rl := fun x h => lookup_relS_keep (by decide) h
  rc := fun x h => ⟨lookup_relS_keep (by decide) h, by
    show (scope.names.lookup x == some .cell) = true
    have h : scope.names.lookup x = some .cell := h
    rw [h]; rfl⟩

def eltW (wel : WE) : Env → List Dat → MH → (List Dat → MH → Prop) → Prop := fun ρ2 acc M k => wel ρ2 M fun r ρ4 M => oP (escD r ρ4) fun p => p.2 = ρ2 ∧ acc.length < sizeLine ∧ k (acc ++ [p.1]) M
def lcW (t : Tg) (own : List Nat) (wit : WA) (wif : WI) (inner : Env → List Dat → MH → (List Dat → MH → Prop) → Prop) : Env → List Dat → MH → (List Dat → MH → Prop) → Prop :=
  fun ρ acc M P => noOwn ρ own = true ∧ wit ρ M fun ds ρ1 M => ρ1 = ρ ∧ lcOut (turnW t own ρ wif inner) ds acc M P
theorem core_lc {t : Tg} {own : List Nat} {wit : WA} {wif : WI} {wel : WE} (hown : ∀ i, i ∈ t.ix → i ∈ own) (h : liftE C (fun ρ M P => lcW t own wit wif (eltW wel) ρ [] M fun acc M => P (.own (.lst acc)) ρ M) σ H Q) :
    tLc (liftI C wit) (liftG' C t) (liftTs C wif) (liftE C wel) own σ H Q := by
  obtain ⟨F, ρ, pd, M, pv, P, hr, hl, ⟨hn, hw⟩, hk⟩ := h
  refine ⟨F, ρ, pd, M, pv, _, hr, hl, hw, fun ds ρ1 M1 F1 H1 J r x V w1 s1 r1 wk vp => ?_⟩
  obtain ⟨rfl, w1⟩ := w1
  intro D hD
  have l2 := hr.lens hl
  have hst := r1.st.push hD (ds := []) (xs := []) Reps.nil
  refine turns (t := t) (own := own) (wif := wif) (inner := eltW wel) (Z := fun acc => (pd ++ [pendOf r]) ++ ([.own (.lst acc)] ++ [])) (ζ := (pv ++ [some x]) ++ ([some (.ref D)] ++ [])) (acc0 := []) (F1 := F1) wk (fun F' M' acc H' s h => ?_) hn hown hl ?_ w1 (fun F M acc H s h p => ?_) ?_
  · refine vp F' ρ1 M' σ H' pd [.own (.lst acc)] pv [some (.ref D)] s ?_ hl l2 fun _ _ => ⟨rfl, rfl⟩
    simpa using h
  · simpa using hst
  · refine hk _ ρ1 M F (.ref D) H p (Same.trans s1 s) ⟨?_, hl, fun i z => nomatch z⟩
    have h' : R C F ((ρ1 ++ pd) ++ ([pendOf r] ++ [.own (.lst acc)])) M ((σ ++ pv) ++ ([some x] ++ [some (.ref D)])) H := by simpa using h
    have := h'.mid (by simp [hl, l2])
    simpa [pendOf] using this
  · intro Nx ρ2 σ2 acc M F H k s h l w hk
    exact elt_in (pdA := pd ++ [pendOf r]) (pdB := []) (by simp [l2]) Nx h l w hk
theorem core_lc2 {t t1 : Tg} {own : List Nat} {wit wit1 : WA} {wif wif1 : WI} {wel : WE} (hown : ∀ i, i ∈ t.ix → i ∈ own)
    (h : liftE C (fun ρ M P => lcW t own wit wif (lcW t1 t1.ix wit1 wif1 (eltW wel)) ρ [] M fun acc M => P (.own (.lst acc)) ρ M) σ H Q) :
    tLc2 (liftI C wit) (liftG' C t) (liftTs C wif) (liftI C wit1) (liftG' C t1) (liftTs C wif1) (liftE C wel) own t1.ix σ H Q := by
  obtain ⟨F, ρ, pd, M, pv, P, hr, hl, ⟨hn, hw⟩, hk⟩ := h
  refine ⟨F, ρ, pd, M, pv, _, hr, hl, hw, fun ds ρ1 M1 F1 H1 J r x V w1 s1 r1 wk vp => ?_⟩
  obtain ⟨rfl, w1⟩ := w1
  intro D hD
  have l2 := hr.lens hl
  have hst := r1.st.push hD (ds := []) (xs := []) Reps.nil
  refine turns (t := t) (own := own) (wif := wif) (inner := lcW t1 t1.ix wit1 wif1 (eltW wel)) (Z := fun acc => (pd ++ [pendOf r]) ++ ([.own (.lst acc)] ++ [])) (ζ := (pv ++ [some x]) ++ ([some (.ref D)] ++ [])) (acc0 := []) (F1 := F1) wk (fun F' M' acc H' s h => ?_) hn hown hl ?_ w1 (fun F M acc H s h p => ?_) ?_
  · refine vp F' ρ1 M' σ H' pd [.own (.lst acc)] pv [some (.ref D)] s ?_ hl l2 fun _ _ => ⟨rfl, rfl⟩
    simpa using h
  · simpa using hst
  · refine hk _ ρ1 M F (.ref D) H p (Same.trans s1 s) ⟨?_, hl, fun i z => nomatch z⟩
    have h' : R C F ((ρ1 ++ pd) ++ ([pendOf r] ++ [.own (.lst acc)])) M ((σ ++ pv) ++ ([some x] ++ [some (.ref D)])) H := by simpa using h
    have := h'.mid (by simp [hl, l2])
    simpa [pendOf] using this
  · intro Nx ρ2 σ2 acc M F H k s h l w hk
    obtain ⟨hn2, w⟩ := w
    refine ⟨F, ρ2, _, M, _, _, h, l, w, fun ds2 ρ3 M3 F3 H3 J3 r3 x3 V3 w3 s3 r3' wk3 vp3 => ?_⟩
    obtain ⟨rfl, w3⟩ := w3
    refine turns (t := t1) (own := t1.ix) (wif := wif1) (inner := eltW wel) (Z := fun acc => (pd ++ [pendOf r]) ++ ([.own (.lst acc)] ++ [pendOf r3])) (ζ := (pv ++ [some x]) ++ ([some (.ref D)] ++ [some x3])) (acc0 := acc) (F1 := F3) wk3 (fun F' M' acc H' s h => ?_) hn2 (fun i z => z) l ?_ w3 (fun F4 M4 acc4 H4 s4 h4 p4 => ?_) ?_
    · refine vp3 F' ρ3 M' σ2 H' ((pd ++ [pendOf r]) ++ [.own (.lst acc)]) [] ((pv ++ [some x]) ++ [some (.ref D)]) [] s ?_ l (by simp [l2]) fun _ _ => ⟨rfl, rfl⟩
      simpa using h
    · have := r3'.st
      simpa using this
    · refine hk F4 M4 acc4 H4 (Same.trans s3 s4) ?_ p4
      have h' : R C F4 ((ρ3 ++ (pd ++ [pendOf r]) ++ [.own (.lst acc4)]) ++ [pendOf r3]) M4 ((σ2 ++ (pv ++ [some x]) ++ [some (.ref D)]) ++ [some x3]) H4 := by simpa using h4
      have := h'.pop_
      simpa using this
    · intro Nx3 ρ5 σ5 acc5 M5 F5 H5 k5 s5 h5 l5 w5 hk5
      exact elt_in (pdA := pd ++ [pendOf r]) (pdB := [pendOf r3]) (by simp [l2]) Nx3 h5 l5 w5 hk5
end
end Mi

set_option maxHeartbeats 8000000
/-! Mi14: a checked expression does what its wp says. -/
namespace Mi
open PySem PySem.Spec PyProof.Rows L2

theorem R.pushN {C : Gh} {F : Hp} {ρ : Env} {M : MH} {σ : St} {H : Hp} (h : R C F ρ M σ H) (y : Option V) : R C F (ρ ++ [.no]) M (σ ++ [y]) H where
  mr := h.mr
  len := by simp [h.len]
  sl := fun j s q => by
    rcases get_snoc q with ⟨hj, q⟩ | ⟨hj, q⟩
    · rw [List.getElem?_append_left (by rw [← h.len]; exact hj)]; exact h.sl j s q
    · subst q; trivial
  dist := fun i j p q b e1 e2 e3 e4 => by
    rcases get_snoc e1 with ⟨hi, e1⟩ | ⟨hi, e1⟩ <;> rcases get_snoc e2 with ⟨hj, e2⟩ | ⟨hj, e2⟩
    · rw [List.getElem?_append_left (by rw [← h.len]; exact hi)] at e3
      rw [List.getElem?_append_left (by rw [← h.len]; exact hj)] at e4
      exact h.dist i j p q b e1 e2 e3 e4
    · cases e2
    · cases e1
    · cases e1
  f0 := h.f0
  new := h.new
  old := h.old
  there := h.there
  md := h.md
  mn := h.mn
section
variable {X : Cx} {C : Gh} {Γ : Kn} {κ : Nat} {c : Cs} {XP : PX}
theorem Okc.var (O : Okc X C Γ κ c XP) {i : Nat} {x : Str} (h : c.var i x = true) : X.N[i]? = some x ∧ Vis X.env.scope x ∧ (x == ("__debug__" : Str)) = false ∧ (x == ("__classdict__" : Str)) = false := by
  unfold Cs.var at h
  simp only [Bool.and_eq_true, decide_eq_true_eq, Bool.not_eq_true'] at h
  obtain ⟨⟨⟨h1, h2⟩, h3⟩, h4⟩ := h
  refine ⟨by rw [O.N]; exact h1, ?_, h3, h4⟩
  unfold Vis
  rw [O.sc]
  split at h2
  · exact .inl (by assumption)
  · exact .inr (.inl (by assumption))
  · exact .inr (.inr (by assumption))
  · cases h2
theorem Okc.glb (O : Okc X C Γ κ c XP) {x : Str} (h : c.glb x = true) : Gl X x ∧ (x == ("__debug__" : Str)) = false := by
  unfold Cs.glb at h
  simp only [Bool.and_eq_true, decide_eq_true_eq, Bool.not_eq_true'] at h
  refine ⟨?_, h.2⟩
  show X.env.scope.names.lookup x = _
  rw [O.sc]
  exact h.1
theorem Okc.loc (O : Okc X C Γ κ c XP) {i : Nat} {x : Str} (h : c.loc i x = true) : X.N[i]? = some x ∧ Loc X.env.scope x ∧ (X.fn x = true ∨ X.env.scope.names.lookup x = some .local) := by
  unfold Cs.loc at h
  simp only [Bool.and_eq_true, decide_eq_true_eq] at h
  obtain ⟨h1, h2⟩ := h
  refine ⟨by rw [O.N]; exact h1, ?_⟩
  split at h2
  · have := O.rl x (by assumption)
    exact ⟨.inl this, .inr this⟩
  · have := O.rc x (by assumption)
    exact ⟨.inr this.1, .inl this.2⟩
  · cases h2
theorem snd_var (O : Okc X C Γ κ c XP) {i : Nat} {x : Str} {pos : Pos} (h : c.var i x = true) : PE X (.Name x pos) (liftE C (wpE Γ XP (.var i))) := by
  obtain ⟨h1, h2, h3, h4⟩ := O.var h
  refine PE.imp (pe_var h1 h2 h3 h4) fun σ H Q ⟨F, ρ, pd, M, pv, P, hr, hl, hw, hk⟩ => ?_
  unfold wpE at hw
  cases w : ρ[i]? with
  | none => rw [w] at hw; exact hw.elim
  | some s =>
    rw [w] at hw
    have hi : i < ρ.length := (List.getElem?_eq_some_iff.mp w).1
    have w' : (ρ ++ pd)[i]? = some s := by rw [List.getElem?_append_left hi]; exact w
    cases s with
    | no => exact hw.elim
    | val d =>
      obtain ⟨v, z1, z2⟩ := hr.slv w'
      rw [List.getElem?_append_left (by omega)] at z1
      exact ⟨v, z1, hk _ _ _ F v H hw (Same.refl _) (RR.val hr hl z2)⟩
    | own o =>
      obtain ⟨a, z1, z2, _⟩ := hr.slo w'
      rw [List.getElem?_append_left (by omega)] at z1
      refine ⟨.ref a, z1, hk _ _ _ F (.ref a) H hw (Same.refl _) ⟨?_, hl, fun j e => by cases e; exact z1⟩⟩
      rw [← List.append_assoc, ← List.append_assoc]
      exact hr.pushN _
/-- the names of a target -/
theorem Okc.tg (O : Okc X C Γ κ c XP) {own : Option (List Nat)} {t : Tg} {py : Expr} (h : chkTg c own t py = true) : PG X py (liftG' C t) := by
  cases t with
  | var i =>
    simp only [chkTg] at h
    split at h
    · simp only [Bool.and_eq_true] at h
      obtain ⟨h1, h2, h3⟩ := O.loc h.1
      exact snd_tgv O h1 h2 h3
    · cases h
  | tup is =>
    simp only [chkTg] at h
    split at h
    · rename_i ps k pos
      simp only [Bool.and_eq_true, decide_eq_true_eq, List.all_eq_true] at h
      obtain ⟨⟨h1, h2⟩, h3⟩ := h
      refine snd_tgt O h1 fun p hp => ?_
      have := h3 p hp
      split at this
      · rename_i x pos' e
        simp only [Bool.and_eq_true] at this
        obtain ⟨g1, g2, g3⟩ := O.loc this.1
        exact ⟨x, pos', e, g1, g2, g3⟩
      · cases this
    · cases h
theorem tg_own {l : List Nat} {t : Tg} {py : Expr} (h : chkTg c (some l) t py = true) : ∀ i, i ∈ t.ix → i ∈ l := by
  cases t with
  | var i =>
    simp only [chkTg] at h
    split at h
    · simp only [Bool.and_eq_true] at h
      intro j hj
      have : j = i := by simpa [Tg.ix] using hj
      subst this
      simpa using h.2
    · cases h
  | tup is =>
    simp only [chkTg] at h
    split at h
    · rename_i ps k pos
      simp only [Bool.and_eq_true, decide_eq_true_eq, List.all_eq_true] at h
      obtain ⟨⟨h1, h2⟩, h3⟩ := h
      intro j hj
      have hj : j ∈ is := hj
      obtain ⟨n, hn, rfl⟩ := List.getElem_of_mem hj
      have hm : (is[n], ps[n]'(by omega)) ∈ is.zip ps := by
        rw [List.mem_iff_getElem]
        exact ⟨n, by simp; omega, by simp⟩
      have := h3 _ hm
      split at this
      · simp only [Bool.and_eq_true] at this
        simpa using this.2
      · cases this
    · cases h
end
end Mi

set_option maxHeartbeats 8000000
/-! Mi14d: {..}.get(key, x), TABLE.get(key, x). -/
namespace Mi
open PySem PySem.Spec PyProof.Rows L2
section
variable {X : Cx} {C : Gh} {Γ : Kn} {κ : Nat} {c : Cs} {XP : PX} {wa wb : WE}
theorem m2_of {o e f : Expr} {apos cpos : Pos} (ho : attributeBase o "get" X.env (eval o X.env) = eval o X.env) (he : okX e = true) (hf : okX f = true) (hl : (apos.endLine == cpos.line) = true) : M2 X o "get" apos e f cpos := by
  refine ⟨ho, ?_, hl, ?_⟩
  · rw [star_okX he, star_okX hf]; rfl
  · rw [star_okX he, star_okX hf]; rfl
/-- the constants' readings -/
def cstV : Dat → V
  | .bl b => .bl b
  | .int i => .int i
  | .str s => .str s
  | _ => .non
theorem cst_pe {d : Dat} {k : Const} {j pos} (h : cstOk d k = true) : PE X (.Constant k j pos) (tC (cstV d)) ∧ ∀ F, Rep C.K C.mg F d (cstV d) := by
  cases d with
  | non => cases k with
    | none => exact ⟨pe_non, fun F => rep_non.mpr rfl⟩
    | _ => cases h
  | bl b => cases k with
    | bool a =>
      have : a = b := eq_of_beq h
      subst this
      exact ⟨pe_bl, fun F => rep_bl.mpr rfl⟩
    | _ => cases h
  | int i => cases k with
    | int i' =>
      have : i = i' := of_decide_eq_true h
      subst this
      exact ⟨pe_int, fun F => rep_int.mpr rfl⟩
    | _ => cases h
  | str s => cases k with
    | str t =>
      simp only [cstOk, Bool.and_eq_true, decide_eq_true_eq] at h
      obtain ⟨rfl, h⟩ := h
      exact ⟨pe_str, fun F => rep_str.mpr ⟨rfl, by rw [sizeLine_eq]; omega⟩⟩
    | _ => cases h
  | _ => cases k <;> cases h
def prK (p : Str × Dat) : Key × V := (.inr p.1, cstV p.2)
theorem pps_of {pos : Pos} : ∀ {ks : List Str} {vs : List Dat} {es : List (Option Expr)} {ps : List Expr}, ks.length = vs.length → keysOk ks es = true → cstsOk vs ps = true →
    PPs X pos es ps ((ks.zip vs).map fun p => (tC (.str p.1), tC (cstV p.2))) ∧ es.all (·.isSome) = true ∧ es.length = ps.length ∧ es.length = ks.length ∧ ∀ p ∈ ks.zip vs, ∀ F, Rep C.K C.mg F p.2 (cstV p.2)
  | [], [], es, ps, _, h1, h2 => by
    cases es with
    | nil => cases ps with
      | nil => exact ⟨pps_nil, rfl, rfl, rfl, fun p hp => by simp at hp⟩
      | cons _ _ => cases h2
    | cons _ _ => cases h1
  | [], _ :: _, _, _, h, _, _ => by simp at h
  | _ :: _, [], _, _, h, _, _ => by simp at h
  | k :: ks, d :: ds, es, ps, hl, h1, h2 => by
    unfold keysOk at h1
    split at h1
    · cases ‹(_ : List Str) = []›
    · rename_i k' ks' s j pp es' e
      cases e
      unfold cstsOk at h2
      split at h2
      · cases ‹(_ : List Dat) = []›
      · rename_i d' ds' kk j2 p2 ps' e
        cases e
        simp only [Bool.and_eq_true, decide_eq_true_eq] at h1 h2
        obtain ⟨rfl, h1⟩ := h1
        obtain ⟨g1, g2, g3, g4, g5⟩ := pps_of (pos := pos) (ks := ks) (vs := ds) (by simpa using hl) h1 h2.2
        have hc := cst_pe (X := X) (C := C) (j := j2) (pos := p2) h2.1
        refine ⟨pps_cons pe_str hc.1 g1, by simpa using g2, by simp [g3], by simp [g4], fun p hp F => ?_⟩
        rcases List.mem_cons.mp (show p ∈ (k, d) :: ks.zip ds from hp) with rfl | hp
        · exact hc.2 F
        · exact g5 p hp F
      · cases h2
    · cases h1
theorem tPairs_cst {σ : St} {H : Hp} {Q : List (V × V) → Hp → Prop} : ∀ {l : List (Str × Dat)}, tPairs (l.map fun p => (tC (.str p.1), tC (cstV p.2))) σ H Q ↔ Q (l.map fun p => (V.str p.1, cstV p.2)) H
  | [] => Iff.rfl
  | p :: l => by
    show tPairs (l.map fun p => (tC (.str p.1), tC (cstV p.2))) σ H (fun ps H3 => Q ((V.str p.1, cstV p.2) :: ps) H3) ↔ _
    rw [tPairs_cst]; rfl
theorem valV_map {s : Str} : ∀ {l : List (Str × Dat)}, valV (l.map prK) (.inr s) = (getS s l).map cstV
  | [] => rfl
  | (k, d) :: l => by
    unfold getS
    by_cases h : s = k
    · subst h; rw [if_pos rfl]; exact valV_pos rfl
    · rw [if_neg h]
      have : ¬ ((prK (k, d)).1 = .inr s) := fun e => h (by cases e; rfl)
      show valV (prK (k, d) :: l.map prK) (.inr s) = _
      rw [valV_neg this]
      exact valV_map
theorem putK_new {kvs : List (Key × V)} {k : Key} {v : V} (h : ∀ p ∈ kvs, p.1 ≠ k) : putK kvs k v = kvs ++ [(k, v)] := by
  unfold putK
  rw [if_neg]
  simp only [List.any_eq_true, not_exists, not_and, decide_eq_true_eq]
  exact h
theorem merge_new : ∀ {l : List (Str × Dat)} {acc : List (Key × V)}, (l.map (·.1)).Nodup → (∀ p ∈ acc, ∀ q ∈ l, p.1 ≠ .inr q.1) → mergeK acc (l.map prK) = acc ++ l.map prK
  | [], acc, _, _ => by simp [mergeK]
  | p :: l, acc, hn, hd => by
    simp only [List.map_cons, List.nodup_cons] at hn
    show mergeK (putK acc (prK p).1 (prK p).2) (l.map prK) = _
    have e0 : putK acc (prK p).1 (prK p).2 = acc ++ [prK p] := putK_new fun q hq => hd q hq p (by simp)
    rw [e0, merge_new hn.2]
    · simp
    · intro q hq r hr
      rcases List.mem_append.mp hq with hq | hq
      · exact hd q hq r (by simp [hr])
      · simp at hq
        subst hq
        intro e
        have : p.1 = r.1 := Sum.inr.inj e
        exact hn.1 (this ▸ List.mem_map_of_mem hr)
theorem getS_mem {s : Str} {d : Dat} : ∀ {l : List (Str × Dat)}, getS s l = some d → ∃ p ∈ l, p.2 = d
  | [], h => by cases h
  | (k, e) :: l, h => by
    unfold getS at h
    split at h
    · cases h; exact ⟨(k, d), by simp, rfl⟩
    · obtain ⟨p, hp, e⟩ := getS_mem h; exact ⟨p, by simp [hp], e⟩
/-- key and default -/
def wGet (get : Str → Option Dat) (wa wb : WE) : WE := fun ρ M P => wa ρ M fun r ρ M => wb ρ M fun q ρ M => oP (escD q ρ) fun p => oP (peek r p.2) fun d => oP (strD d) fun s => P (.val ((get s).getD p.1)) p.2 M
theorem core_get (O : Okc X C Γ κ c XP) {get : Str → Option Dat} {σ : St} {Q : VK} {F0 : Hp} {H : Hp} {T : V → V → Hp → Prop} {ρ pd : Env} {M : MH} {pv : St} {P : PE_} (hr : R C F0 (ρ ++ pd) M (σ ++ pv) H) (hl : ρ.length = σ.length) (hw : wGet get wa wb ρ M P)
    (hk : ∀ r ρ' M' F' x H', P r ρ' M' → Same F0 F' → RR C F' ρ' pd M' σ pv H' r x → Q x H')
    (fin : ∀ s z F' H', Same F0 F' → Same F' H' → (∀ d v, get s = some d → C.rep F' d v → Q v H') → (get s = none → Q z H') → T (.str s) z H') :
    liftE C wa σ H fun y H2 => liftE C wb σ H2 fun z H3 => T y z H3 := by
  refine ⟨F0, ρ, pd, M, pv, _, hr, hl, hw, fun r ρ1 M1 F1 x H1 w1 s1 r1 => ?_⟩
  have l2 := hr.lens hl
  refine ⟨F1, ρ1, pd ++ [pendOf r], M1, pv ++ [some x], _, r1.st, r1.len, w1, fun q ρ2 M2 F2 z H2 w2 s2 r2 => ?_⟩
  obtain ⟨⟨d, ρ3⟩, e1, w3⟩ := oP_of w2
  obtain ⟨kd, e2, w4⟩ := oP_of w3
  obtain ⟨s, e3, w5⟩ := oP_of w4
  obtain ⟨F3, s3, h3, l3, rp⟩ := r2.esc e1
  have h4 : R C F3 (ρ3 ++ (pd ++ ([pendOf r] ++ [.val d]))) M2 (σ ++ (pv ++ ([some x] ++ [some z]))) H2 := by
    rw [List.append_assoc, List.append_assoc (as := pv)] at h3
    exact h3
  have hb : R C F3 (ρ3 ++ pd) M2 (σ ++ pv) H2 := by
    rw [← List.append_assoc, ← List.append_assoc (as := σ)] at h4
    exact h4.prefix_ (by simp [l3, l2])
  have hkd := peek_at (pd2 := [.val d]) (pv2 := [some z]) h4 l3 l2 r1.bor e2
  cases kd with
  | str t =>
    cases e3
    obtain ⟨rfl, _⟩ := repB_str.mp hkd
    refine fin _ z F3 H2 (Same.trans (Same.trans s1 s2) s3) hb.mr.sub (fun d' v e rv => ?_) fun e => ?_
    · rw [e] at w5
      exact hk _ _ _ F3 v H2 w5 (Same.trans (Same.trans s1 s2) s3) (RR.val hb l3 rv)
    · rw [e] at w5
      exact hk _ _ _ F3 z H2 w5 (Same.trans (Same.trans s1 s2) s3) (RR.val hb l3 rp)
  | _ => cases e3
theorem snd_dget (O : Okc X C Γ κ c XP) {ks : List Str} {vs : List Dat} {es : List (Option Expr)} {ps : List Expr} {p q : Expr} {dpos apos pos : Pos} (h1 : keysOk ks es = true) (h2 : cstsOk vs ps = true) (hp : okX p = true) (hq : okX q = true)
    (ha : PE X p (liftE C wa)) (hb : PE X q (liftE C wb)) (hl : (apos.endLine == pos.line) = true) (n1 : ks.length ≤ 15) (n2 : 1 ≤ ks.length) (n3 : ks.length = vs.length) (nd : ks.Nodup) :
    PE X (.Call (.Attribute (.Dict es ps dpos) "get" apos) [p, q] [] pos) (liftE C (wGet (fun s => getS s (ks.zip vs)) wa wb)) := by
  obtain ⟨g1, g2, g3, g4, g5⟩ := pps_of (X := X) (C := C) (pos := dpos) n3 h1 h2
  have hd := pe_disp g1 g2 g3 (by intro e; rw [e] at g4; simp at g4; omega) (by omega)
  refine PE.imp (pe_dget2 (by have := O.un; omega) hd ha hb (m2_of rfl hp hq hl)) fun σ H Q ⟨F, ρ, pd, M, pv, P, hr, hlen, hw, hk⟩ => ?_
  intro D hD
  rw [tPairs_cst]
  refine ⟨upd_same, (ks.zip vs).map prK, by rw [List.map_map]; rfl, by simp; omega, ?_⟩
  have e0 : upd (upd H D (.dK [])) D (.dK (mergeK [] ((ks.zip vs).map prK))) = upd H D (.dK ((ks.zip vs).map prK)) := by
    rw [merge_new (by rw [List.map_fst_zip (by omega)]; exact nd) (fun p hp => by simp at hp), List.nil_append]
    funext b
    unfold upd
    split <;> rfl
  rw [e0]
  refine ⟨D, rfl, .inl ⟨_, .of upd_same⟩, ?_⟩
  have hf := hr.froz (u := .dK ((ks.zip vs).map prK)) hD
  have sF := same_upd (u := HO.dK ((ks.zip vs).map prK)) (hr.fresh0 hD).1
  refine core_get (Q := Q) O hf hlen hw (fun r ρ' M' F' x H' a b c => hk r ρ' M' F' x H' a (Same.trans sF b) c) fun s z F' H' s1 s2 k1 k2 => ?_
  refine ⟨_, .inl ⟨_, .inr s, .of (s2 _ _ (s1 _ _ upd_same)), rfl, rfl⟩, ?_⟩
  rw [valV_map]
  cases e : getS s (ks.zip vs) with
  | none => exact k2 e
  | some d =>
    obtain ⟨pr, hm, rfl⟩ := getS_mem e
    exact k1 _ _ e (g5 pr hm F')
def tGGet (K : PySem.W.Frag) (w : World) (a : Addr) (ty tx : TE) : TE := fun σ H Q => ty σ H fun y H2 => tx σ H2 fun z H3 => ∃ s o, y = .str s ∧ ((∃ u v, PySem.W.nsIn K a s = some (some u) ∧ RelV v u ∧ o = some v) ∨ (PySem.W.nsIn K a s = some none ∧ o = none)) ∧ Q (o.getD z) H3
theorem pe_gget {t : Str} {a : Addr} {es : Array DictEntry} {n : Nat} {e f : Expr} {p apos cpos : Pos} {ty tx : TE} (hg : Gl X t) (hdb : (t == ("__debug__" : Str)) = false) (hm : X.mg t = some (.ref a)) (D : KDict X.K X.w a es n) (he : PE X e ty) (hf : PE X f tx) (m : M2 X (.Name t p) "get" apos e f cpos) :
    PE X (.Call (.Attribute (.Name t p) "get" apos) [e, f] [] cpos) (tGGet X.K X.w a ty tx) := by
  refine ⟨fun pins s σ H Q I h => ?_⟩
  refine wpAny_Call_method m.base m.few m.line PySem.F.plainAttrs_dict PySem.F.slot_dict_get PySem.F.type_dict_get (thn ((pe_glob (v := V.ref a) hg hm rfl hdb).run pins s σ H (fun v H1 => v = .ref a ∧ H1 = H) I ⟨rfl, rfl⟩) fun u s1 ⟨x, H1, I1, rx, ex, eh⟩ => ?_)
  subst ex eh
  obtain rfl : u = Value.ref a := rx
  refine ⟨(PySem.W.mapOf_K (prog := X.prog) (w := X.w) I1.kIn D.at_ D.lit).typeIs, fun b q => ?_, ?_⟩
  · cases q
    exact ⟨_, I1.kIn _ _ D.at_, rfl⟩
  rw [m.trees]
  refine Calls.callWith_builtin rfl (Calls.evalArgs_plain (Calls.spliced_cons (thn (he.run pins s1 σ H1 _ I1 h) fun iv s2 ⟨y, H2, I2, ry, q2⟩ =>
    Calls.spliced_cons (thn (hf.run pins s2 σ H2 _ I2 q2) fun fv s3 ⟨z, H3, I3, rz, k, o, ey, ho, q3⟩ => Calls.spliced_nil ?_))))
  subst ey
  obtain ⟨tk, rfl⟩ := ry
  have hmap := PySem.W.mapOf_K (prog := X.prog) (w := X.w) I3.kIn D.at_ D.lit
  refine call_meetsIn PySem.F.slot_dict_get hmap.typeIs PySem.F.entry_dict_get (PySem.F.args_dict_get_3 _ _ _) (meets_dict_get_default (PySem.strKind X.prog X.w) a (PySem.strKind_is X.prog X.w k tk) D.low fv) ⟨_, hmap, ?_⟩
  rcases ho with ⟨u, v, e, r, rfl⟩ | ⟨e, rfl⟩
  · rw [PySem.W.find_K D.at_ e]
    exact ⟨v, H3, I3.tok _, r, q3⟩
  · rw [PySem.W.find_K D.at_ e]
    exact ⟨z, H3, I3.tok _, rz, q3⟩
theorem snd_gget (O : Okc X C Γ κ c XP) {t : Str} {p q : Expr} {npos apos pos : Pos} (ht : c.glb t = true) (hp : okX p = true) (hq : okX q = true) (ha : PE X p (liftE C wa)) (hb : PE X q (liftE C wb)) (hl : (apos.endLine == pos.line) = true) :
    PE X (.Call (.Attribute (.Name t npos) "get" apos) [p, q] [] pos) (liftE C fun ρ M P => oP (Γ.tab t) fun tab => wGet (fun s => getS s tab) wa wb ρ M P) := by
  refine ⟨fun pins s σ H Q I ⟨F, ρ, pd, M, pv, P, hr, hlen, hw, hk⟩ => ?_⟩
  obtain ⟨tab, e1, hw⟩ := oP_of hw
  obtain ⟨a, es, n, g1, g2, g3⟩ := O.tb t tab e1
  obtain ⟨hg, hd⟩ := O.glb ht
  refine (pe_gget hg hd g1 g2 ha hb (m2_of rfl hp hq hl)).run pins s σ H Q I ?_
  refine core_get (Q := Q) O hr hlen hw hk fun s z F' H' s1 s2 k1 k2 => ?_
  have := g3 s
  cases e : getS s tab with
  | none =>
    rw [e] at this
    exact ⟨s, none, rfl, .inr ⟨this, rfl⟩, k2 e⟩
  | some d =>
    rw [e] at this
    obtain ⟨u, v, q1, q2, q3⟩ := this
    exact ⟨s, some v, rfl, .inl ⟨u, v, q1, q2, rfl⟩, k1 d v e (O.rep (q3.mono fun b o z => by simp at z))⟩
end
end Mi

set_option maxHeartbeats 2000000
/-! Mi2c: an object that no data are made of (a dict being made) is changed. -/
namespace Mi
open PySem PySem.Spec PyProof.Rows L2
/-- no list, no tuple -/
def NoSq (u : HO) : Prop := (∀ xs, u ≠ .lst xs) ∧ (∀ xs, u ≠ .tup xs) ∧ (∀ o w, u ≠ .frz o w) ∧ (∀ ps, u ≠ .tbl ps) ∧ (∀ x, u ≠ .own x) ∧ (∀ C dx gs, u ≠ .ins C dx gs) ∧ ∀ c q, u ≠ LamX.CodeO c q
theorem noSq_dK (k : List (Key × V)) : NoSq (.dK k) := by
  refine ⟨?_, ?_, ?_, ?_, ?_, ?_, ?_⟩
  · intro _ z; cases z
  · intro _ z; cases z
  · intro _ _ z; cases z
  · intro _ z; cases z
  · intro _ z; cases z
  · intro _ _ _ z; cases z
  · intro _ _ z; unfold LamX.CodeO at z; cases z
section
variable {K : PySem.W.Frag} {mg : Str → Option Value} {F : Hp} {D : Addr} {u u' : HO}
theorem at_no {o : HO} {a : Addr} (hF : F D = some u) (h : F a = some o) (n : o ≠ u) : upd F D u' a = some o := by
  rw [upd_ne (fun z => by rw [z, hF] at h; exact n (Option.some.inj h).symm)]; exact h
theorem sqL_chg {a : Addr} {xs : List V} (hF : F D = some u) (n : NoSq u) (h : SqL K F a xs) : SqL K (upd F D u') a xs := by
  rcases h with (h | ⟨o, h⟩) | h
  · exact .inl (.inl (at_no hF h (fun z => n.1 _ z.symm)))
  · exact .inl (.inr ⟨o, at_no hF h (fun z => n.2.2.1 _ _ z.symm)⟩)
  · exact .inr h
theorem sqT_chg {a : Addr} {xs : List V} (hF : F D = some u) (n : NoSq u) (h : SqT K F a xs) : SqT K (upd F D u') a xs := by
  rcases h with (h | ⟨o, h⟩) | h
  · exact .inl (.inl (at_no hF h (fun z => n.2.1 _ z.symm)))
  · exact .inl (.inr ⟨o, at_no hF h (fun z => n.2.2.1 _ _ z.symm)⟩)
  · exact .inr h
mutual
theorem Rep.chg (hF : F D = some u) (n : NoSq u) : ∀ {d : Dat} {v : V}, Rep K mg F d v → Rep K mg (upd F D u') d v
  | .non, _, h => by unfold Rep at h ⊢; exact h
  | .bl _, _, h => by unfold Rep at h ⊢; exact h
  | .int _, _, h => by unfold Rep at h ⊢; exact h
  | .str _, _, h => by unfold Rep at h ⊢; exact h
  | .tup ds, _, h => by
    unfold Rep at h ⊢
    obtain ⟨a, xs, e1, h1, h2⟩ := h
    exact ⟨a, xs, e1, sqT_chg hF n h1, Reps.chg hF n h2⟩
  | .lst ds, _, h => by
    unfold Rep at h ⊢
    obtain ⟨a, xs, e1, h1, h2⟩ := h
    exact ⟨a, xs, e1, at_no hF h1 (fun z => n.1 _ z.symm), Reps.chg hF n h2⟩
  | .scr ns, _, h => by
    unfold Rep at h ⊢
    obtain ⟨a, e1, h1⟩ := h
    exact ⟨a, e1, sqL_chg hF n h1⟩
  | .fn _, _, h => by unfold Rep at h ⊢; exact h
  | .ref _, _, h => by unfold Rep at h ⊢; exact h
  | .ty _, _, h => by unfold Rep at h ⊢; exact h
theorem Reps.chg (hF : F D = some u) (n : NoSq u) : ∀ {ds : List Dat} {xs : List V}, Reps K mg F ds xs → Reps K mg (upd F D u') ds xs
  | [], _, h => by unfold Reps at h ⊢; exact h
  | d :: ds, _, h => by
    unfold Reps at h ⊢
    obtain ⟨x, r, e1, h1, h2⟩ := h
    exact ⟨x, r, e1, Rep.chg hF n h1, Reps.chg hF n h2⟩
end
end
section
variable {C : Gh} {F : Hp} {ρ : Env} {M : MH} {σ : St} {H : Hp} {D : Addr} {u u' : HO}
theorem R.chg (h : R C F ρ M σ H) (hF : F D = some u) (n : NoSq u) (hF0 : C.F0 D = none) (hH0 : C.H0 D = none) : R C (upd F D u') ρ M σ (upd H D u') := by
  have hH : H D = some u := h.mr.sub _ _ hF
  have ne : ∀ {a : Addr} {o : HO}, H a = some o → o ≠ u → upd H D u' a = some o := fun e z => at_no hH e z
  have nF : ∀ {a : Addr}, F a = none → a ≠ D := fun e z => by rw [z, hF] at e; cases e
  exact {
    mr := ⟨fun a o q => by
        by_cases ha : a = D
        · subst ha; rw [upd_same] at q ⊢; exact q
        · rw [upd_ne ha] at q ⊢; exact h.mr.sub _ _ q,
      fun a o q => by
        have z := h.mr.mh a o q
        cases o with
        | lst ds => obtain ⟨xs, h1, h2⟩ := z; exact ⟨xs, ne h1 (fun z => n.1 _ z.symm), h2.chg hF n⟩
        | ins cc fs =>
          obtain ⟨E, dx, gs, h0, h1, h2, h4⟩ := z
          exact ⟨E, dx, gs, h0, ne h1 (fun z => n.2.2.2.2.2.1 _ _ _ z.symm), Paired.mapP h2 fun _ _ z => ⟨z.1, z.2.chg hF n⟩, ne h4 (fun z => n.2.2.2.2.1 _ z.symm)⟩,
      fun a q => by
        have z := h.mr.fm a q
        rw [upd_ne (nF z)]; exact z,
      fun p hp => by
        obtain ⟨ps, h1, h2, h3⟩ := h.mr.tb p hp
        refine ⟨ps, ne h1 (fun z => n.2.2.2.1 _ z.symm), h2, fun pos cv hc => ?_⟩
        obtain ⟨c, e1, e2⟩ := h3 pos cv hc
        exact ⟨c, e1, ne e2 (fun z => n.2.2.2.2.2.2 _ _ z.symm)⟩,
      fun p hp => by
        have z := h.mr.ft p hp
        rw [upd_ne (nF z)]; exact z⟩
    len := h.len
    sl := fun j s q => by
      have z := h.sl j s q
      cases s with
      | no => trivial
      | val d => obtain ⟨v, e1, e2⟩ := z; exact ⟨v, e1, e2.chg hF n⟩
      | own o =>
        obtain ⟨b, e1, e2, e3, e4, e5⟩ := z
        refine ⟨b, e1, ?_, by rw [upd_ne (nF e3)]; exact e3, e4, e5⟩
        cases o with
        | lst ds => obtain ⟨xs, g1, g2⟩ := e2; exact ⟨xs, ne g1 (fun z => n.1 _ z.symm), g2.chg hF n⟩
    dist := h.dist
    f0 := fun a o q => by
      rw [upd_ne (fun z => by rw [z, hF0] at q; cases q)]; exact h.f0 _ _ q
    new := fun a q m => by
      have hb : a ≠ D := fun z => q (by rw [z]; exact hH0)
      rw [upd_ne hb]; exact h.new a q m
    old := fun a o q m k => by
      rw [upd_ne (fun z => by rw [z, hH0] at q; cases q)]; exact h.old a o q m k
    there := fun a q => by
      by_cases ha : a = D
      · subst ha; rw [upd_same]; exact fun z => nomatch z
      · rw [upd_ne ha]; exact h.there a q
    md := h.md
    mn := h.mn }
end
end Mi

set_option maxHeartbeats 8000000
/-! Mi14g: {..: e, ..}.get(key, x), the values expressions. -/
namespace Mi
open PySem PySem.Spec PyProof.Rows L2
section
variable {X : Cx} {C : Gh} {Γ : Kn} {κ : Nat} {c : Cs} {XP : PX} {wa wb : WE}
/-- the pairs' readings -/
def pairT (C : Gh) (Γ : Kn) (XP : PX) : List Str → Es → List (TE × TE)
  | k :: ks, .cons e es => (tC (.str k), liftE C (wpE Γ XP e)) :: pairT C Γ XP ks es
  | _, _ => []
theorem core_pairs {σ : St} {pd : Env} {pv : St} : ∀ (vs : Es) {ks : List Str} {F : Hp} {ρ : Env} {M : MH} {H : Hp} {P : PA_} {Q : List (V × V) → Hp → Prop}, vs.len = ks.length → R C F (ρ ++ pd) M (σ ++ pv) H → ρ.length = σ.length → wpEs Γ XP vs ρ M P →
    (∀ ds ρ' M' F' xs H', P ds ρ' M' → Same F F' → R C F' (ρ' ++ pd) M' (σ ++ pv) H' → ρ'.length = σ.length → C.reps F' ds xs → ds.length = ks.length → Q ((ks.zip xs).map fun p => (V.str p.1, p.2)) H') → tPairs (pairT C Γ XP ks vs) σ H Q
  | .nil, ks, F, ρ, M, H, P, Q, hn, hr, hl, hw, hk => by
    unfold wpEs at hw
    cases ks with
    | nil => exact hk [] ρ M F [] H hw (Same.refl _) hr hl Reps.nil rfl
    | cons k ks => simp [Es.len] at hn
  | .cons e es, ks, F, ρ, M, H, P, Q, hn, hr, hl, hw, hk => by
    unfold wpEs at hw
    cases ks with
    | nil => simp [Es.len] at hn
    | cons k ks =>
      refine ⟨F, ρ, pd, M, pv, _, hr, hl, hw, fun r ρ1 M1 F1 x H1 w1 s1 r1 => ?_⟩
      obtain ⟨⟨d, ρ2⟩, e1, w2⟩ := oP_of w1
      obtain ⟨F2, s2, h2, l2, rp⟩ := r1.esc e1
      rw [← List.append_assoc, ← List.append_assoc] at h2
      refine core_pairs es (by simp [Es.len] at hn; omega) h2.pop_ l2 w2 fun ds ρ3 M3 F3 xs H3 w3 s3 r3 l3 rps hlen => ?_
      exact hk (d :: ds) ρ3 M3 F3 (x :: xs) H3 w3 (Same.trans (Same.trans s1 s2) s3) r3 l3 (Reps.cons (Rep.mono s3 rp) rps) (by simp [hlen])
def prV (p : Str × V) : Key × V := (.inr p.1, p.2)
theorem merge_newV : ∀ {l : List (Str × V)} {acc : List (Key × V)}, (l.map (·.1)).Nodup → (∀ p ∈ acc, ∀ q ∈ l, p.1 ≠ .inr q.1) → mergeK acc (l.map prV) = acc ++ l.map prV
  | [], acc, _, _ => by simp [mergeK]
  | p :: l, acc, hn, hd => by
    simp only [List.map_cons, List.nodup_cons] at hn
    show mergeK (putK acc (prV p).1 (prV p).2) (l.map prV) = _
    have e0 : putK acc (prV p).1 (prV p).2 = acc ++ [prV p] := putK_new fun q hq => hd q hq p (by simp)
    rw [e0, merge_newV hn.2]
    · simp
    · intro q hq r hr
      rcases List.mem_append.mp hq with hq | hq
      · exact hd q hq r (by simp [hr])
      · simp at hq
        subst hq
        intro e
        have : p.1 = r.1 := Sum.inr.inj e
        exact hn.1 (this ▸ List.mem_map_of_mem hr)
theorem valV_reps {K : PySem.W.Frag} {mg : Str → Option Value} {F : Hp} {s : Str} : ∀ {ks : List Str} {ds : List Dat} {xs : List V}, Reps K mg F ds xs → ds.length = ks.length →
    (∀ d, getS s (ks.zip ds) = some d → ∃ x, valV ((ks.zip xs).map prV) (.inr s) = some x ∧ Rep K mg F d x) ∧ (getS s (ks.zip ds) = none → valV ((ks.zip xs).map prV) (.inr s) = none)
  | [], ds, xs, h, hl => by
    cases ds with
    | nil => exact ⟨(fun d e => nomatch (show (none : Option Dat) = some d from e)), fun _ => rfl⟩
    | cons d ds => simp at hl
  | k :: ks, ds, xs, h, hl => by
    cases ds with
    | nil => simp at hl
    | cons d ds =>
      unfold Reps at h
      obtain ⟨x, r, rfl, h1, h2⟩ := h
      obtain ⟨i1, i2⟩ := valV_reps (s := s) (ks := ks) h2 (by simpa using hl)
      simp only [List.zip_cons_cons, List.map_cons]
      unfold getS
      by_cases e : s = k
      · subst e
        rw [if_pos rfl]
        exact ⟨fun d' z => by cases z; exact ⟨x, valV_pos rfl, h1⟩, fun z => nomatch z⟩
      · rw [if_neg e, valV_neg (fun z => e (by cases z; rfl))]
        exact ⟨i1, i2⟩
/-- {k: e, ..}.get(key, x) -/
def wGetE (Γ : Kn) (XP : PX) (ks : List Str) (vs : Es) (wa wb : WE) : WE := fun ρ M P => wpEs Γ XP vs ρ M fun ds ρ M => wGet (fun s => getS s (ks.zip ds)) wa wb ρ M P
theorem snd_dgetE (O : Okc X C Γ κ c XP) {ks : List Str} {vs : Es} {es : List (Option Expr)} {ps : List Expr} {p q : Expr} {dpos apos pos : Pos} (g1 : PPs X dpos es ps (pairT C Γ XP ks vs)) (g2 : es.all (·.isSome) = true) (g3 : es.length = ps.length) (g4 : es.length = ks.length) (hp : okX p = true) (hq : okX q = true)
    (ha : PE X p (liftE C wa)) (hb : PE X q (liftE C wb)) (hl : (apos.endLine == pos.line) = true) (n1 : ks.length ≤ 15) (n2 : 1 ≤ ks.length) (n3 : vs.len = ks.length) (nd : ks.Nodup) :
    PE X (.Call (.Attribute (.Dict es ps dpos) "get" apos) [p, q] [] pos) (liftE C (wGetE Γ XP ks vs wa wb)) := by
  have hd := pe_disp g1 g2 g3 (by intro e; rw [e] at g4; simp at g4; omega) (by omega)
  refine PE.imp (pe_dget2 (by have := O.un; omega) hd ha hb (m2_of rfl hp hq hl)) fun σ H Q ⟨F, ρ, pd, M, pv, P, hr, hlen, hw, hk⟩ => ?_
  intro D hD
  obtain ⟨f1, f2, f3⟩ := hr.fresh0 hD
  have f0 : C.F0 D = none := by
    cases w : C.F0 D with
    | none => rfl
    | some o => have := hr.f0 _ _ w; rw [f1] at this; cases this
  have hf := hr.froz (u := .dK []) hD
  refine core_pairs vs n3 hf hlen hw fun ds ρ1 M1 F1 xs H1 w1 s1 r1 l1 rps hn => ?_
  have hF1 : F1 D = some (.dK []) := s1 _ _ upd_same
  have lx := rps.length
  refine ⟨r1.mr.sub _ _ hF1, (ks.zip xs).map prV, by rw [List.map_map]; rfl, by simp; omega, ?_⟩
  rw [merge_newV (by rw [List.map_fst_zip (by omega)]; exact nd) (fun p hp => by simp at hp), List.nil_append]
  refine ⟨D, rfl, .inl ⟨_, .of upd_same⟩, ?_⟩
  have r2 := r1.chg (u' := .dK ((ks.zip xs).map prV)) hF1 (noSq_dK []) f0 f2
  have sF : Same F (upd F1 D (.dK ((ks.zip xs).map prV))) := fun a o e => by
    have na : a ≠ D := fun z => by rw [z, f1] at e; cases e
    rw [upd_ne na]; exact s1 _ _ (by rw [upd_ne na]; exact e)
  refine core_get (Q := Q) O r2 l1 w1 (fun r ρ' M' F' x H' a b c => hk r ρ' M' F' x H' a (Same.trans sF b) c) fun s z F' H' t1 t2 k1 k2 => ?_
  refine ⟨_, .inl ⟨_, .inr s, .of (t2 _ _ (t1 _ _ upd_same)), rfl, rfl⟩, ?_⟩
  obtain ⟨i1, i2⟩ := valV_reps (s := s) (Reps.chg (u' := .dK ((ks.zip xs).map prV)) hF1 (noSq_dK []) rps) hn
  cases e : getS s (ks.zip ds) with
  | none => rw [i2 e]; exact k2 e
  | some d =>
    obtain ⟨x, e2, rx⟩ := i1 d e
    rw [e2]
    exact k1 _ _ e (Rep.mono t1 rx)
end
end Mi

set_option maxHeartbeats 4000000
/-! Mi2s: sum(xs, t) of tuples. -/
namespace Mi
open PySem PySem.Spec PyProof.Rows L2
theorem args_sum2 (a b : Value) : argsOk "sum" ⟨[a, b], []⟩ := by unfold argsOk; kernel_rfl
theorem sub_tuple_bytearray : isSubtype (.type "tuple") (.type "bytearray") = pure false := by rw [isSubtype_type]; kernel_rfl
section
variable {prog : Program} {w : World} {A : Around} {R : Result → Shared → Prop} {I : Addr} {fp wr : List Addr} {G : Array GenState → Array GenState → Prop} {n : Nat} {P : Nat → Value → Prop} {St : Nat → Shared → Prop}
theorem codeAny_sumT (W : WalksS prog w A.in1 I fp wr G n P St) (H0 : Heap) (its cat : Nat → List Value) (hcat : ∀ i, i < n → cat (i + 1) = cat i ++ its i) (hz : ∀ i, i ≤ n → (cat i).length ≤ sizeLine) (Old : Nat → Addr → Prop)
    (hval : ∀ i v, i < n → P i v → ∃ b, v = .ref b ∧ IsTup H0 b (its i).toArray ∧ (cat i = [] → Old (i + 1) b)) (hold : ∀ i r, i < n → Old i r → its i = [] → Old (i + 1) r)
    (hwt : ∀ i s b xs, St i s → b ∈ wr → ¬ IsTup s.heap b xs) (S : Addr) (hSf : S ∉ fp) (hS0 : H0.get? S = none) (hSz : H0.objs.size ≤ S) (hw0 : ∀ b ∈ wr, H0.get? b = none) :
    ∀ (k i : Nat) (s : Shared) (r : Addr) (c : Nat), n - i = k → i ≤ n → St i s → (∀ b o, H0.get? b = some o → s.heap.get? b = some o) →
      s.heap.get? S = some { cls := .type "list", dict := none, data := .seq #[.ref r] c, slots := #[] } → IsTup s.heap r (cat i).toArray → (Old i r ∨ H0.objs.size ≤ r) →
    (∀ s' r', Moved (S :: wr) G s s' → (∀ b o, H0.get? b = some o → s'.heap.get? b = some o) → IsTup s'.heap r' (cat n).toArray → (Old n r' ∨ H0.objs.size ≤ r') → R (.ok (.ret (.ref r'))) s') →
    codeAny (model prog w) A (.builtin "sum.loop" ⟨[.ref I, .ref S, rawInt 2, rawInt 0], []⟩) R s := by
  have hSw : S ∉ wr := fun h => hSf (W.sub _ h)
  have hsub : ∀ b ∈ wr, b ∈ S :: wr := fun b hb => List.mem_cons_of_mem _ hb
  intro k
  induction k with
  | zero =>
    intro i s r c hk hi hst hk0 hS hr ho hR
    have hin : i = n := by omega
    subst hin
    refine codeAny_builtin F.entry_sum_loop ?_
    rw [Around.under_plainId F.plain_sum_loop _]
    show wpAny _ A.in1 (seqItems? (.ref S) >>= _) _ _ s
    refine wpAny_bind (wpAny_seqItems hS rfl ?_)
    show wpAny _ A.in1 (tryCatch (pyNext (.ref I)) _ >>= _) _ _ s
    refine wpAny_bind (wpAny_tryCatch (W.done s _ _ hst fun s' hm => ?_))
    have hr2 : IsTup s'.heap r (cat i).toArray := by
      obtain ⟨o, h1, h2⟩ := hr
      exact ⟨o, hm.heap r o (fun hb => hwt _ _ _ _ hst hb ⟨o, h1, h2⟩) h1, h2⟩
    exact wpAny_pure (hR s' r (hm.mono hsub) (fun b o e => hm.heap b o (fun hb => by rw [hw0 b hb] at e; cases e) (hk0 b o e)) hr2 ho)
  | succ k ih =>
    intro i s r c hk hi hst hk0 hS hr ho hR
    have hlt : i < n := by omega
    refine codeAny_builtin F.entry_sum_loop ?_
    rw [Around.under_plainId F.plain_sum_loop _]
    show wpAny _ A.in1 (seqItems? (.ref S) >>= _) _ _ s
    refine wpAny_bind (wpAny_seqItems hS rfl ?_)
    show wpAny _ A.in1 (tryCatch (pyNext (.ref I)) _ >>= _) _ _ s
    refine wpAny_bind (wpAny_tryCatch (W.item i s _ _ hlt hst fun v s' hP hst' hm => ?_))
    obtain ⟨b, rfl, hb, hbo⟩ := hval i v hlt hP
    have hS' := hm.heap S _ hSw hS
    have hk1 : ∀ b o, H0.get? b = some o → s'.heap.get? b = some o := fun b o e => hm.heap b o (fun hb => by rw [hw0 b hb] at e; cases e) (hk0 b o e)
    have hr1 : IsTup s'.heap r (cat i).toArray := by
      obtain ⟨o, h1, h2⟩ := hr
      exact ⟨o, hm.heap r o (fun hb => hwt _ _ _ _ hst hb ⟨o, h1, h2⟩) h1, h2⟩
    have hb1 : IsTup s'.heap b (its i).toArray := by
      obtain ⟨o, h1, h2⟩ := hb
      exact ⟨o, hk1 _ _ h1, h2⟩
    have hlen := hz (i + 1) (by omega)
    have hci := hcat i hlt
    rw [hci, List.length_append] at hlen
    have add : ∀ (A' : Around) (Q : Value → Shared → Prop) (E : Value → Shared → Prop), (∀ r' h2, (∀ a o, s'.heap.get? a = some o → h2.get? a = some o) → IsTup h2 r' (cat (i + 1)).toArray → (Old (i + 1) r' ∨ H0.objs.size ≤ r') → Q (.ref r') { s' with heap := h2 }) →
        wpAny (model prog w) A' (binaryOp .Add (.ref r) (.ref b)) Q E s' := by
      intro A' Q E q
      by_cases c0 : cat i = []
      · rw [c0] at hr1
        refine cat_tup0 hr1 hb1 (q b s'.heap (fun _ _ z => z) ?_ (.inl (hbo c0)))
        rw [hci, c0, List.nil_append]; exact hb1
      · refine HT.cat_tup hr1 hb1 c0 (fun e => q r s'.heap (fun _ _ z => z) ?_ ?_) (fun _ => q s'.heap.objs.size _ (fun _ _ e => Heap.get?_push_of_some _ e) ?_ (.inr ?_)) hlen
        · rw [hci, e, List.append_nil]; exact hr1
        · rcases ho with h | h
          · exact .inl (hold i r hlt h e)
          · exact .inr h
        · rw [hci]; exact IsTup.new _ _
        · exact Nat.le_trans hSz (Nat.le_of_lt (Heap.lt_size hS'))
    show wpAny _ A.in1 ((holding [Value.ref b] (binaryOp .Add (.ref r) (.ref b))).attempt >>= _) _ _ _
    refine wpAny_bind (wpAny_attempt (wpAny_holding (add _ _ _ fun r' h2 hk2 hr2 ho2 => ?_)))
    have hS2 := hk2 _ _ hS'
    show wpAny _ A.in1 (updateSeq S (fun _ => #[.ref r']) >>= _) _ _ _
    refine wpAny_bind (wpAny_updateSeq hS2 rfl ?_)
    have hS3 := Heap.get?_update_self (Obj.mapSeq fun _ => #[Value.ref r']) hS2 rfl
    have hSr : S ≠ r' := by
      rintro rfl
      obtain ⟨o, h1, h3, _⟩ := hr2
      rw [hS2] at h1; cases h1; injection h3 with h3; exact absurd h3 (by decide)
    have kS : ∀ a o, a ≠ S → h2.get? a = some o → ∀ u, (h2.update S u).get? a = some o := fun a o ha e u => (Heap.get?_update_other _ _ (fun h : S = a => ha h.symm)).trans e
    refine wpAny_bind (wpAny_letGo ?_)
    refine wpAny_bind (wpAny_updateSeq hS3 rfl (wpAny_pure ⟨plainId_quiet F.plain_sum_loop _, ih (i + 1) _ r' _ (by omega) hlt (W.frame _ s' _ _ hst' (by first | exact Nat.le_refl _ | exact Nat.le_succ _ | omega) fun b hb o e => ?_) (fun a o e => ?_) (Heap.get?_update_self _ hS3 rfl) ?_ ho2 fun s'' r'' hm'' => ?_⟩))
    · exact (Heap.get?_update_other _ _ (fun h : S = b => hSf (by rw [h]; exact hb))).trans ((Heap.get?_update_other _ _ (fun h : S = b => hSf (by rw [h]; exact hb))).trans (hk2 _ _ e))
    · have ha : S ≠ a := by rintro rfl; rw [hS0] at e; cases e
      exact (Heap.get?_update_other _ _ ha).trans ((Heap.get?_update_other _ _ ha).trans (hk2 _ _ (hk1 _ _ e)))
    · obtain ⟨o, h1, h3⟩ := hr2
      exact ⟨o, (Heap.get?_update_other _ _ hSr).trans ((Heap.get?_update_other _ _ hSr).trans h1), h3⟩
    · refine hR s'' r'' (Moved.trans W.gtrans ((hm.mono hsub).then_heap (by first | exact Nat.le_refl _ | exact Nat.le_succ _ | omega) fun b o hb e => ?_) hm'')
      have ha : S ≠ b := fun h => hb (by rw [h]; exact List.mem_cons_self)
      exact (Heap.get?_update_other _ _ ha).trans ((Heap.get?_update_other _ _ ha).trans (hk2 _ _ e))
theorem call_sumT {E : Value → Shared → Prop} {s : Shared} {x : Value} {t0 : Addr} {Q : Value → Shared → Prop} {z0 : List Value} (hz0 : IsTup s.heap t0 z0.toArray)
    (h : wpAny (model prog w) A.in1 (pyIter x) (fun it s₂ => ∃ I fp wr G n P St, ∃ (its cat : Nat → List Value) (Old : Nat → Addr → Prop), it = .ref I ∧ WalksS prog w A.in1 I fp wr G n P St ∧ St 0 s₂ ∧ (∀ b ∈ fp, b < s₂.heap.objs.size) ∧
      (∀ b o, s.heap.get? b = some o → s₂.heap.get? b = some o) ∧ cat 0 = z0 ∧ (∀ i, i < n → cat (i + 1) = cat i ++ its i) ∧ (∀ i, i ≤ n → (cat i).length ≤ sizeLine) ∧
      (∀ i v, i < n → P i v → ∃ b, v = .ref b ∧ IsTup s.heap b (its i).toArray ∧ (cat i = [] → Old (i + 1) b)) ∧ (∀ i r, i < n → Old i r → its i = [] → Old (i + 1) r) ∧
      (∀ i s b xs, St i s → b ∈ wr → ¬ IsTup s.heap b xs) ∧ (∀ b ∈ wr, s.heap.get? b = none) ∧ s.heap.objs.size ≤ s₂.heap.objs.size ∧ Old 0 t0 ∧
      ∀ s' r, (∀ b o, s.heap.get? b = some o → s'.heap.get? b = some o) → Moved wr G s₂ s' → IsTup s'.heap r (cat n).toArray → (Old n r ∨ s.heap.objs.size ≤ r) → Q (.ref r) s') E s) :
    wpAny (model prog w) A (call (.builtin "sum") [x, .ref t0]) Q E s := by
  refine call_function_tree F.kind_sum F.plain_sum F.entry_sum (args_sum2 _ _) ?_
  unfold Builtin.«sum»
  simp only [List.length_cons, List.length_nil]
  rw [if_neg (by decide)]
  refine wpAny_bind (wpAny_of_eq (show Builtin.Builtins.bindParams "sum" ["start"] 0 { pos := [Value.ref t0] } = pure [some (Value.ref t0)] from rfl) ?_)
  refine wpAny_bind (wpAny_mono h (fun it s₂ h₂ => ?_) fun _ _ e => e)
  obtain ⟨I, fp, wr, G, n, P, St, its, cat, Old, rfl, W, hst, hfp, hk, hc0, hcat, hz, hval, hold, hwt, hw0, hsz, ho0, hQ⟩ := h₂
  have ht2 : IsTup s₂.heap t0 z0.toArray := by obtain ⟨o, h1, h2⟩ := hz0; exact ⟨o, hk _ _ h1, h2⟩
  have hT : s₂.TypeIs (.ref t0) "tuple" := ht2.typeIs
  refine wpAny_bind (wpAny_pure ?_)
  simp only [List.forIn_cons, List.forIn_nil]
  refine wpAny_bind (wpAny_bind (wpAny_bind (wpAny_isInstance (T := "tuple") (b := false) hT F.sub_tuple_str ?_)))
  simp only [Bool.false_eq_true, if_false]
  refine wpAny_pure (wpAny_bind (wpAny_bind (wpAny_isInstance (T := "tuple") (b := false) hT F.sub_tuple_bytes ?_)))
  simp only [Bool.false_eq_true, if_false]
  refine wpAny_pure (wpAny_bind (wpAny_bind (wpAny_isInstance (T := "tuple") (b := false) hT sub_tuple_bytearray ?_)))
  simp only [Bool.false_eq_true, if_false]
  refine wpAny_pure (wpAny_pure ?_)
  refine wpAny_bind (wpAny_newObj_type ?_)
  have hSf : s₂.heap.objs.size ∉ fp := fun hm => Nat.lt_irrefl _ (hfp _ hm)
  have hS0 : s.heap.get? s₂.heap.objs.size = none := by
    cases e : s.heap.get? s₂.heap.objs.size with
    | none => rfl
    | some o => exact absurd (Heap.lt_size (hk _ _ e)) (Nat.lt_irrefl _)
  refine wpAny_pure ⟨plainId_quiet F.plain_sum_loop _, codeAny_sumT W s.heap its cat hcat hz Old hval hold hwt s₂.heap.objs.size hSf hS0 hsz hw0 n 0 _ t0 0 rfl (Nat.zero_le _)
    (W.frame 0 s₂ _ _ hst (by first | exact Nat.le_refl _ | exact Nat.le_succ _ | omega) fun b _ o e => Heap.get?_push_of_some _ e) (fun b o e => Heap.get?_push_of_some _ (hk _ _ e)) (Heap.get?_push_size _ rfl) ?_ (.inl ho0) fun s' r' hm hk' hr ho => ?_⟩
  · obtain ⟨o, h1, h2⟩ := ht2
    rw [hc0]
    exact ⟨o, Heap.get?_push_of_some _ h1, h2⟩
  · exact hQ s' r' hk' (hm.drop_new (by first | exact Nat.le_refl _ | exact Nat.le_succ _ | omega)) hr ho
end
section
variable {X : Cx}
/-- what stands at a place is a list or a tuple of tuples -/
def AllT (K : PySem.W.Frag) (H : Hp) (xs : List V) (yss : List (List V)) : Prop := Paired (fun x ys => ∃ c, x = V.ref c ∧ SqT K H c ys) xs yss
/-- sum(xs, t) of tuples -/
def rSumT (K : PySem.W.Frag) : List V → Hp → VK → Prop := fun vs H Q => ∃ F a b xs zs yss, vs = [.ref a, .ref b] ∧ (SqL K H a xs ∨ SqT K H a xs) ∧ Same F H ∧ SqT K F b zs ∧ AllT K F xs yss ∧ zs.length + yss.flatten.length ≤ sizeLine ∧
  (∀ r, SqT K F r (zs ++ yss.flatten) → Q (.ref r) H) ∧ ∀ p, H p = none → Q (.ref p) (upd H p (.tup (zs ++ yss.flatten)))
theorem paired_get {α β : Type} {F : α → β → Prop} : ∀ {l : List α} {m : List β} {i : Nat} {a : α}, Paired F l m → l[i]? = some a → ∃ b, m[i]? = some b ∧ F a b
  | _, _, _, _, .nil, e => by simp at e
  | _, _, 0, _, .cons r _, e => by simp at e; subst e; exact ⟨_, rfl, r⟩
  | _, _, i + 1, a, .cons _ t, e => by
    obtain ⟨b, h1, h2⟩ := paired_get (i := i) t (by simpa using e)
    exact ⟨b, by simpa using h1, h2⟩
theorem take_flat {α : Type} (l : List (List α)) {i : Nat} (h : i < l.length) : (l.take (i + 1)).flatten = (l.take i).flatten ++ (l[i]?).getD [] := by
  rw [List.take_succ, List.flatten_append, List.getElem?_eq_getElem h]
  simp
theorem flat_le {α : Type} (l : List (List α)) (i : Nat) : (l.take i).flatten.length ≤ l.flatten.length := by
  conv => rhs; rw [← List.take_append_drop i l]
  rw [List.flatten_append, List.length_append]
  omega
/-- the values at tuples -/
theorem vals_of {pins : List (Addr × Obj)} {σ : St} {F H : Hp} {s : Shared} (I : Inv X pins σ H s) (sub : Same F H) : ∀ {xs : List V} {yss : List (List V)} {us : List Value}, AllT X.K F xs yss → Vals xs us →
    ∃ iss : List (List Value), Paired (fun u is => ∃ b, u = Value.ref b ∧ IsTup s.heap b is.toArray) us iss ∧ Paired Vals yss iss
  | _, _, _, .nil, .nil => ⟨[], .nil, .nil⟩
  | _, _, _, .cons ⟨c, rfl, h⟩ t, .cons r t2 => by
    obtain ⟨iss, p, q⟩ := vals_of I sub t t2
    obtain ⟨is, rv, ht, _⟩ := I.tuple (sqT_same sub h)
    cases r
    exact ⟨is :: iss, .cons ⟨c, rfl, ht⟩ p, .cons rv q⟩
theorem vals_flat : ∀ {yss : List (List V)} {iss : List (List Value)}, Paired Vals yss iss → Vals yss.flatten iss.flatten
  | _, _, .nil => .nil
  | _, _, .cons r t => by
    simp only [List.flatten_cons]
    exact Vals.append r (vals_flat t)
theorem paired_take {α β : Type} {F : α → β → Prop} : ∀ {l : List α} {m : List β} (i : Nat), Paired F l m → Paired F (l.take i) (m.take i)
  | _, _, 0, _ => .nil
  | _, _, _ + 1, .nil => .nil
  | _, _, i + 1, .cons r t => .cons r (paired_take i t)
theorem cr_sumT (hc : X.calm = true) : CallR X (.builtin "sum") (rSumT X.K) := by
  intro pins s σ H vs us Q I rv h
  obtain ⟨F, a, b, xs, zs, yss, rfl, ha, sub, hb, hall, hz, q1, q2⟩ := h
  obtain ⟨u1, us1, rfl, r1, rest⟩ : ∃ u1 us1, us = u1 :: us1 ∧ RelV (.ref a) u1 ∧ Vals [.ref b] us1 := by cases rv with | cons r t => exact ⟨_, _, rfl, r, t⟩
  obtain ⟨u2, rfl, r2⟩ := vals1 rest
  cases r1
  cases r2
  obtain ⟨z0, rz, hz0, _⟩ := I.tuple (sqT_same sub hb)
  have hh : X.A.in1.handled = none := I.ok.hd hc
  have hJ : s.heap.get? s.heap.objs.size = none := by
    cases e : s.heap.get? s.heap.objs.size with
    | none => rfl
    | some o => exact absurd (Heap.lt_size e) (Nat.lt_irrefl _)
  -- what is left to be told of the walk
  have main : ∀ (its : List Value) (iss : List (List Value)), Vals xs its → Paired (fun u is => ∃ b, u = Value.ref b ∧ IsTup s.heap b is.toArray) its iss → Paired Vals yss iss →
      ∃ (its' cat : Nat → List Value) (Old : Nat → Addr → Prop), cat 0 = z0 ∧ (∀ i, i < its.length → cat (i + 1) = cat i ++ its' i) ∧ (∀ i, i ≤ its.length → (cat i).length ≤ sizeLine) ∧
        (∀ i v, i < its.length → its.toArray[i]? = some v → ∃ b, v = .ref b ∧ IsTup s.heap b (its' i).toArray ∧ (cat i = [] → Old (i + 1) b)) ∧ (∀ i r, i < its.length → Old i r → its' i = [] → Old (i + 1) r) ∧ Old 0 b ∧
        ∀ (s' : Shared) (r : Addr), (∀ b o, s.heap.get? b = some o → s'.heap.get? b = some o) → s'.gens = s.gens → s'.drawn = s.drawn → s'.os = s.os → IsTup s'.heap r (cat its.length).toArray → (Old its.length r ∨ s.heap.objs.size ≤ r) → EP X pins σ Q (.ref r) s' := by
    intro its iss rv2 p1 p2
    have n1 := rv2.length
    have n2 := Paired.length p1
    have n3 := Paired.length p2
    have nz := rz.length
    have fl : ∀ i, (yss.take i).flatten.length = (iss.take i).flatten.length := fun i => (vals_flat (paired_take i p2)).length
    refine ⟨fun i => (iss[i]?).getD [], fun i => z0 ++ (iss.take i).flatten, fun i r => SqT X.K F r (zs ++ (yss.take i).flatten), by simp, fun i hi => ?_, fun i hi => ?_, fun i v hi e => ?_, fun i r hi ho e => ?_, by simpa using hb, fun s' r hk g1 g2 g3 hr ho => ?_⟩
    · show z0 ++ (iss.take (i + 1)).flatten = _
      rw [take_flat iss (by omega), List.append_assoc]
    · show (z0 ++ (iss.take i).flatten).length ≤ sizeLine
      have := flat_le yss i
      have := fl i
      rw [List.length_append]; omega
    · have e : its[i]? = some v := by simpa using e
      obtain ⟨is, e1, bb, rfl, ht⟩ := paired_get p1 e
      refine ⟨bb, rfl, by show IsTup s.heap bb ((iss[i]?).getD []).toArray; rw [e1]; exact ht, fun hc => ?_⟩
      have hx : ∃ x, xs[i]? = some x := ⟨xs[i]'(by omega), List.getElem?_eq_getElem (by omega)⟩
      obtain ⟨x, hx⟩ := hx
      obtain ⟨u, e2, ru⟩ := rv2.get hx
      rw [e] at e2
      cases e2
      obtain ⟨ys, e3, c, rfl, hs⟩ := paired_get hall hx
      injection ru with ru
      subst ru
      have hc : z0 ++ (iss.take i).flatten = [] := hc
      have hl := congrArg List.length hc
      rw [List.length_append] at hl
      have z1 : zs = [] := List.eq_nil_of_length_eq_zero (by simp only [List.length_nil] at hl; omega)
      have z2 : (yss.take i).flatten = [] := List.eq_nil_of_length_eq_zero (by have := fl i; simp only [List.length_nil] at hl; omega)
      show SqT X.K F bb (zs ++ (yss.take (i + 1)).flatten)
      rw [take_flat yss (by omega), z1, z2, e3]
      exact hs
    · have e : (iss[i]?).getD [] = [] := e
      show SqT X.K F r (zs ++ (yss.take (i + 1)).flatten)
      have hy : (yss[i]?).getD [] = [] := by
        have h1 : yss[i]? = some (yss[i]'(by omega)) := List.getElem?_eq_getElem (by omega)
        obtain ⟨is, h2, h3⟩ := paired_get p2 h1
        rw [h2] at e
        have e : is = [] := e
        subst e
        rw [h1]
        exact List.eq_nil_of_length_eq_zero h3.length
      rw [take_flat yss (by omega), hy, List.append_nil]
      exact ho
    · have t1 : yss.take its.length = yss := List.take_of_length_le (by omega)
      have t2 : iss.take its.length = iss := List.take_of_length_le (by omega)
      have hr : IsTup s'.heap r (z0 ++ (iss.take its.length).flatten).toArray := hr
      have ho : SqT X.K F r (zs ++ (yss.take its.length).flatten) ∨ _ := ho
      rw [t1] at ho
      rw [t2] at hr
      obtain ⟨h', g', d', tk', os'⟩ := s'
      subst g1 g2 g3
      rcases ho with ho | ho
      · exact ⟨.ref r, H, I.kept hk, rfl, q1 r ho⟩
      · exact ⟨.ref r, _, I.laid (o := .tup (zs ++ yss.flatten)) hk ho ⟨by rw [List.length_append]; exact hz, _, rz.append (vals_flat p2), hr⟩, rfl, q2 r (I.hok.fresh ho)⟩
  rcases ha with ha | ha
  · obtain ⟨its, rv2, hl, _⟩ := I.list ha
    obtain ⟨iss, p1, p2⟩ := vals_of I sub hall rv2
    obtain ⟨its', cat, Old, h1, h2, h3, h4, h5, h6, h7⟩ := main its iss rv2 p1 p2
    obtain ⟨o, ho, _⟩ := id hl.isList
    have hne : a ≠ s.heap.objs.size := Nat.ne_of_lt (Heap.lt_size ho)
    have W := (Walks.list (prog := X.prog) (w := X.w) (A := X.A.in1) hh s.heap.objs.size a hne its.toArray).toS
    rw [List.size_toArray] at W
    refine call_sumT hz0 (wpAny_pyIter_list hl.isList ?_)
    refine ⟨s.heap.objs.size, _, _, _, _, _, _, its', cat, Old, rfl, W, ⟨⟨_, Heap.get?_push_size _ rfl, rfl, rfl⟩, hl.isList.at fun o e => Heap.get?_push_of_some _ e⟩, fun c hc => ?_, fun c o e => Heap.get?_push_of_some _ e, h1, h2, h3, h4, h5, ?_, ?_, (by rw [Heap.size_push]; omega), h6, fun s' r hk hm hr ho => h7 s' r hk hm.gens hm.drawn hm.os hr ho⟩
    · rcases List.mem_cons.mp hc with rfl | hc
      · exact Heap.lt_size (Heap.get?_push_size _ rfl)
      · obtain rfl := List.mem_singleton.mp hc
        exact Heap.lt_size (Heap.get?_push_of_some _ ho)
    · rintro i s2 c ys ⟨⟨o2, e2, c2, _⟩, _⟩ hc ⟨o3, e3, c3, _⟩
      obtain rfl := List.mem_singleton.mp hc
      rw [e2] at e3; cases e3
      rw [c2] at c3
      exact absurd c3 (by decide)
    · intro c hc
      rw [List.mem_singleton.mp hc]; exact hJ
  · obtain ⟨its, rv2, ht, _⟩ := I.tuple ha
    obtain ⟨iss, p1, p2⟩ := vals_of I sub hall rv2
    obtain ⟨its', cat, Old, h1, h2, h3, h4, h5, h6, h7⟩ := main its iss rv2 p1 p2
    obtain ⟨o, ho, _⟩ := id ht
    have ht' : s.heap.IsTuple a its.toArray := ht
    have hne : a ≠ s.heap.objs.size := Nat.ne_of_lt (Heap.lt_size ho)
    have W := (Walks.tuple (prog := X.prog) (w := X.w) (A := X.A.in1) hh s.heap.objs.size a hne its.toArray).toS
    rw [List.size_toArray] at W
    refine call_sumT hz0 (wpAny_pyIter_tuple ht' ?_)
    refine ⟨s.heap.objs.size, _, _, _, _, _, _, its', cat, Old, rfl, W, ⟨⟨_, Heap.get?_push_size _ rfl, rfl, rfl⟩, ht'.at fun o e => Heap.get?_push_of_some _ e⟩, fun c hc => ?_, fun c o e => Heap.get?_push_of_some _ e, h1, h2, h3, h4, h5, ?_, ?_, (by rw [Heap.size_push]; omega), h6, fun s' r hk hm hr ho => h7 s' r hk hm.gens hm.drawn hm.os hr ho⟩
    · rcases List.mem_cons.mp hc with rfl | hc
      · exact Heap.lt_size (Heap.get?_push_size _ rfl)
      · obtain rfl := List.mem_singleton.mp hc
        exact Heap.lt_size (Heap.get?_push_of_some _ ho)
    · rintro i s2 c ys ⟨⟨o2, e2, c2, _⟩, _⟩ hc ⟨o3, e3, c3, _⟩
      obtain rfl := List.mem_singleton.mp hc
      rw [e2] at e3; cases e3
      rw [c2] at c3
      exact absurd c3 (by decide)
    · intro c hc
      rw [List.mem_singleton.mp hc]; exact hJ
end
end Mi

set_option maxHeartbeats 4000000
/-! Mi14o: sum of tuples, join, split, index. -/
namespace Mi
open PySem PySem.Spec PyProof.Rows L2
section
variable {X : Cx} {K : PySem.W.Frag} {mg : Str → Option Value} {F H : Hp}
theorem reps_tups : ∀ {ds : List Dat} {yss : List (List Dat)} {xs : List V}, Reps K mg F ds xs → tupsD ds = some yss → ∃ vss, AllT K F xs vss ∧ Reps K mg F yss.flatten vss.flatten
  | [], yss, xs, h, e => by
    unfold Reps at h; subst h
    cases e
    exact ⟨[], .nil, Reps.nil⟩
  | d :: ds, yss, xs, h, e => by
    unfold Reps at h
    obtain ⟨x, r, rfl, h1, h2⟩ := h
    cases d with
    | tup l =>
      simp only [tupsD] at e
      cases e2 : tupsD ds with
      | none => rw [e2] at e; cases e
      | some ys =>
        rw [e2] at e
        cases e
        obtain ⟨vss, g1, g2⟩ := reps_tups h2 e2
        obtain ⟨c, vs, rfl, g3, g4⟩ := rep_tup.mp h1
        exact ⟨vs :: vss, .cons ⟨c, rfl, g3⟩ g1, by simp only [List.flatten_cons]; exact g4.append g2⟩
    | _ => cases e
theorem reps_strs : ∀ {ds : List Dat} {ys : List Str} {xs : List V}, Reps K mg F ds xs → strsD ds = some ys → xs = ys.map V.str
  | [], ys, xs, h, e => by
    unfold Reps at h; subst h
    cases e; rfl
  | d :: ds, ys, xs, h, e => by
    unfold Reps at h
    obtain ⟨x, r, rfl, h1, h2⟩ := h
    cases d with
    | str l =>
      simp only [strsD] at e
      cases e2 : strsD ds with
      | none => rw [e2] at e; cases e
      | some zs =>
        rw [e2] at e
        cases e
        rw [reps_strs h2 e2, (rep_str.mp h1).1]; rfl
    | _ => cases e
theorem strs_reps : ∀ {ys : List Str}, (∀ s ∈ ys, s.length ≤ sizeLine) → Reps K mg F (ys.map Dat.str) (ys.map V.str)
  | [], _ => Reps.nil
  | y :: ys, h => Reps.cons (rep_str.mpr ⟨rfl, h y (by simp)⟩) (strs_reps fun s hs => h s (by simp [hs]))
/-- the arguments of an operation, by values -/
def rC2o (X : Cx) (o : Op2) : List V → Hp → VK → Prop := fun vs H Q => ∃ F d e z x y, vs = [x, y] ∧ Same F H ∧ RB X F H d x ∧ RB X F H e y ∧ op2D o d e = some z ∧ RQ X F H z Q
def rM2o (X : Cx) (o : Op2) : V → List V → Hp → VK → Prop := fun x xs H Q => ∃ F d e z y, xs = [y] ∧ Same F H ∧ RB X F H d x ∧ RB X F H e y ∧ op2D o d e = some z ∧ RQ X F H z Q
theorem vcall_sumT (hc : X.calm = true) : CallR X (.builtin "sum") (rC2o X .sumT) := by
  intro pins s σ H vs us Q I rv ⟨F, d, e, z, x, y, e0, sub, hd, he, hz, hq⟩
  subst e0
  have hz : sumTD d e = some z := hz
  cases e with
  | tup zs =>
    obtain ⟨b, zv, rfl, hb, rz⟩ := repB_tup.mp he
    have main : ∀ ds, itemsD d = some ds → (∃ a xs, x = .ref a ∧ (SqL X.K H a xs ∨ SqT X.K H a xs) ∧ Reps X.K X.mg F ds xs) → wpAny (model X.prog X.w) X.A (call (.builtin "sum") us) (EP X pins σ Q) X.xe s := by
      rintro ds e1 ⟨a, xs, rfl, ha, rd⟩
      unfold sumTD at hz
      rw [e1] at hz
      have hz : (tupsD ds).bind (fun yss => if zs.length + yss.flatten.length ≤ sizeLine then some (Rv.val (.tup (zs ++ yss.flatten))) else none) = some z := hz
      cases e2 : tupsD ds with
      | none => rw [e2] at hz; cases hz
      | some yss =>
        rw [e2] at hz
        have hz : (if zs.length + yss.flatten.length ≤ sizeLine then some (Rv.val (.tup (zs ++ yss.flatten))) else none) = some z := hz
        split at hz
        · rename_i hl
          cases hz
          obtain ⟨vss, g1, g2⟩ := reps_tups rd e2
          have l1 := rz.length
          have l2 := g2.length
          exact cr_sumT hc pins s σ H _ us Q I rv ⟨F, a, b, xs, zv, vss, rfl, ha, sub, hb, g1, by omega, fun r hr => hq.val (rep_tup.mpr ⟨r, _, rfl, hr, rz.append g2⟩), fun p hp => hq.tup sub hp (rz.append g2)⟩
        · cases hz
    cases d with
    | tup ds =>
      obtain ⟨a, xs, rfl, h1, h2⟩ := repB_tup.mp hd
      exact main ds rfl ⟨a, xs, rfl, .inr (sqT_same sub h1), h2⟩
    | lst ds =>
      obtain ⟨a, xs, rfl, h1, h2⟩ := hd
      exact main ds rfl ⟨a, xs, rfl, .inl (.inl (.inl h1)), h2⟩
    | _ => cases hz
  | _ => cases d <;> cases hz
theorem vmt_join : MtR X "str.join" (rM2o X .join) := by
  intro pins s σ H x xs v us Q I rx rs ⟨F, d, e, z, y, e0, sub, hd, he, hz, hq⟩
  subst e0
  have hz : joinD d e = some z := hz
  cases d with
  | str a =>
    obtain ⟨rfl, _⟩ := repB_str.mp hd
    have main : ∀ ds, itemsD e = some ds → (∃ p zs, y = .ref p ∧ (SqL X.K H p zs ∨ SqT X.K H p zs) ∧ Reps X.K X.mg F ds zs) → wpAny (model X.prog X.w) X.A (call (.builtin "str.join") (v :: us)) (EP X pins σ Q) X.xe s := by
      rintro ds e1 ⟨p, zs, rfl, hp, rd⟩
      unfold joinD at hz
      rw [e1] at hz
      have hz : (strsD ds).bind (fun ys => if (ys.map (·.length)).sum + ys.length * a.length ≤ sizeLine then some (Rv.val (.str (Txt.join a ys))) else none) = some z := hz
      cases e2 : strsD ds with
      | none => rw [e2] at hz; cases hz
      | some ys =>
        rw [e2] at hz
        have hz : (if (ys.map (·.length)).sum + ys.length * a.length ≤ sizeLine then some (Rv.val (.str (Txt.join a ys))) else none) = some z := hz
        split at hz
        · rename_i hl
          cases hz
          obtain rfl := reps_strs rd e2
          refine mt_join pins s σ H _ _ v us Q I rx rs ⟨a, p, ys, rfl, rfl, hp, by rw [sizeLine_eq] at hl; omega, hq.val (rep_str.mpr ⟨rfl, ?_⟩)⟩
          show (Builtin.Str.glued a ys).length ≤ sizeLine
          rw [StrLaws.glued_eq_join]
          exact Nat.le_trans (StrLaws.join_length_le a ys) hl
        · cases hz
    cases e with
    | tup ds =>
      obtain ⟨p, zs, rfl, h1, h2⟩ := repB_tup.mp he
      exact main ds rfl ⟨p, zs, rfl, .inr (sqT_same sub h1), h2⟩
    | lst ds =>
      obtain ⟨p, zs, rfl, h1, h2⟩ := he
      exact main ds rfl ⟨p, zs, rfl, .inl (.inl (.inl h1)), h2⟩
    | _ => cases hz
  | _ => cases hz
theorem vmt_split : MtR X "str.split" (rM2o X .split) := by
  intro pins s σ H x xs v us Q I rx rs ⟨F, d, e, z, y, e0, sub, hd, he, hz, hq⟩
  subst e0
  have hz : splitD d e = some z := hz
  cases d with
  | str a =>
    cases e with
    | str b =>
      obtain ⟨rfl, _⟩ := repB_str.mp hd
      obtain ⟨rfl, _⟩ := repB_str.mp he
      simp only [splitD] at hz
      split at hz
      · rename_i hl
        cases hz
        exact mt_split pins s σ H _ _ v us Q I rx rs ⟨a, b, rfl, rfl, by have := hl.1; simp; omega, hl.2.1, fun p hp => hq.own hp (strs_reps hl.2.2)⟩
      · cases hz
    | _ => cases hz
  | _ => cases hz
theorem pyAll_get {ds : List Dat} {j : Nat} {z : PyData} (h : (pyAll ds)[j]? = some z) : ∃ d, ds[j]? = some d ∧ z = d.py := by
  induction ds generalizing j with
  | nil => simp [pyAll] at h
  | cons d ds ih =>
    cases j with
    | zero => simp [pyAll] at h; exact ⟨d, rfl, h.symm⟩
    | succ j =>
      simp only [pyAll, List.getElem?_cons_succ] at h
      obtain ⟨d', h1, h2⟩ := ih h
      exact ⟨d', by simpa using h1, h2⟩
theorem pyAll_at : ∀ {ds : List Dat} {j : Nat} {d : Dat}, ds[j]? = some d → (pyAll ds)[j]? = some d.py
  | [], _, _, h => by simp at h
  | e :: ds, 0, d, h => by simp at h; subst h; simp [pyAll]
  | e :: ds, j + 1, d, h => by
    simp only [pyAll, List.getElem?_cons_succ] at h ⊢
    exact pyAll_at h
theorem plainAll_at : ∀ {ds : List Dat} {j : Nat} {d : Dat}, plainAll ds = true → ds[j]? = some d → d.plain = true
  | [], _, _, _, h => by simp at h
  | e :: ds, 0, d, p, h => by
    simp only [plainAll, Bool.and_eq_true] at p
    simp at h; subst h; exact p.1
  | e :: ds, j + 1, d, p, h => by
    simp only [plainAll, Bool.and_eq_true] at p
    exact plainAll_at p.2 (by simpa using h)
theorem vmt_index (hu : X.A.units + 65 < cLine) : MtR X "list.index" (rM2o X .index) := by
  intro pins s σ H x xs v us Q I rx rs ⟨F, d, e, z, y, e0, sub, hd, he, hz, hq⟩
  subst e0
  have hz : indexD d e = some z := hz
  cases d with
  | lst ds =>
    simp only [indexD] at hz
    split at hz
    · rename_i hc
      simp only [okIx, Bool.and_eq_true] at hc
      obtain ⟨⟨c1, c2⟩, c3, c4⟩ := hc
      cases e1 : ds.findIdx? fun y => eqv y e with
      | none => rw [e1] at hz; cases hz
      | some j =>
        rw [e1] at hz
        cases hz
        have hx := hd
        obtain ⟨a, vs, rfl, h1, h2⟩ := hd
        have dl := repB_dp (mg := X.mg) sub hx c1
        have de := repB_dp (mg := X.mg) sub he c3
        simp only [Dat.py] at dl c2
        have hp : plainAll ds = true := by simpa [Dat.plain] using c1
        rw [List.findIdx?_eq_some_iff_getElem] at e1
        obtain ⟨hj, hj1, hj2⟩ := e1
        have g := List.getElem?_eq_getElem hj
        refine mt_indexD hu pins s σ H _ _ v us Q I rx rs ⟨a, y, e.py, pyAll ds, j, ds[j].py, rfl, rfl, dl, de, c2, c4, pyAll_at g, ?_, fun m z' hm hz' => ?_, hq.val (rep_int.mpr rfl)⟩
        · rw [py_eqv _ _ (plainAll_at hp g) c3]; exact hj1
        · obtain ⟨d', g1, rfl⟩ := pyAll_get hz'
          rw [py_eqv _ _ (plainAll_at hp g1) c3]
          have := hj2 m hm
          have hmj : m < ds.length := by omega
          rw [List.getElem?_eq_getElem hmj] at g1
          cases g1
          simpa using this
    · cases hz
  | _ => cases hz
end
section
variable {X : Cx} {C : Gh} {Γ : Kn} {κ : Nat} {c : Cs} {XP : PX} {wa wb : WE}
def wOp2 (o : Op2) (wa wb : WE) : WE := fun ρ M P => wa ρ M fun r ρ M => oP (peek r ρ) fun d0 => recB o d0 = true ∧ wb ρ M fun q ρ M => oP (peek r ρ) fun d => oP (peek q ρ) fun e => oP (op2D o d e) fun z => P z ρ M
theorem op2D_nb {o : Op2} {d e : Dat} {z : Rv} (h : op2D o d e = some z) : ∀ i, z ≠ .bor i := by
  rintro i rfl
  cases o with
  | sumT =>
    have h : sumTD d e = some (.bor i) := h
    unfold sumTD at h
    split at h
    · rename_i ds zs _ _
      cases e2 : tupsD ds with
      | none => rw [e2] at h; cases h
      | some yss => rw [e2] at h; simp only [Option.bind_some] at h; split at h <;> cases h
    · cases h
  | join =>
    have h : joinD d e = some (.bor i) := h
    unfold joinD at h
    split at h
    · rename_i ds _ _
      cases e2 : strsD ds with
      | none => rw [e2] at h; cases h
      | some yss => rw [e2] at h; simp only [Option.bind_some] at h; split at h <;> cases h
    · cases h
  | split =>
    have h : splitD d e = some (.bor i) := h
    unfold splitD at h
    split at h
    · split at h <;> cases h
    · cases h
  | index =>
    have h : indexD d e = some (.bor i) := h
    unfold indexD at h
    split at h
    · split at h
      · simp at h
      · cases h
    · cases h
/-- two arguments one behind the other, the first looked at between -/
theorem lift2O {o : Op2} {σ : St} {H : Hp} {Q : VK} {ty : V → Hp → Prop} {T : V → V → Hp → Prop} (O : Okc X C Γ κ c XP) (h : liftE C (wOp2 o wa wb) σ H Q)
    (hty : ∀ F H d x, Same F H → RB X F H d x → recB o d = true → ty x H)
    (fin : ∀ F H d e z x y, Same F H → RB X F H d x → RB X F H e y → op2D o d e = some z → RQ X F H z Q → T x y H) :
    liftE C wa σ H fun x H1 => ty x H1 ∧ liftE C wb σ H1 fun y H2 => T x y H2 := by
  obtain ⟨F, ρ, pd, M, pv, P, hr, hl, hw, hk⟩ := h
  refine ⟨F, ρ, pd, M, pv, _, hr, hl, hw, fun r ρ1 M1 F1 x H1 w1 s1 r1 => ?_⟩
  obtain ⟨d0, e0, w1⟩ := oP_of w1
  have l2 := hr.lens hl
  refine ⟨hty F1 H1 d0 x r1.sub (O.rb (r1.peek e0)) w1.1, F1, ρ1, pd ++ [pendOf r], M1, pv ++ [some x], _, r1.st, r1.len, w1.2, fun q ρ2 M2 F2 y H2 w2 s2 r2 => ?_⟩
  have e1 := r2.st
  rw [List.append_assoc, List.append_assoc (as := pv)] at e1
  have rr : RR2 C F2 ρ2 pd M2 σ pv H2 r q x y := ⟨e1, r2.len, l2, r1.bor, r2.bor⟩
  obtain ⟨d, e2, w2⟩ := oP_of w2
  obtain ⟨e, e3, w2⟩ := oP_of w2
  obtain ⟨z, e4, w2⟩ := oP_of w2
  exact fin F2 H2 d e z x y rr.st.mr.sub (O.rb (rr.peek1 e2)) (O.rb (rr.peek2 e3)) e4 (O.rq (res_of rr.base rr.len (op2D_nb e4) fun F' x' H' s r' => hk z ρ2 M2 F' x' H' w2 (Same.trans (Same.trans s1 s2) s) r'))
theorem snd_sumT (O : Okc X C Γ κ c XP) {e e2 : Expr} {p pos : Pos} (hg : Gl X "sum") (hm : X.mg "sum" = none) (hx : okX e = true) (hy : okX e2 = true) (ha : PE X e (liftE C wa)) (hb : PE X e2 (liftE C wb)) :
    PE X (.Call (.Name "sum" p) [e, e2] [] pos) (liftE C (wOp2 .sumT wa wb)) := by
  have hs := star_okX hx [e2] X.env
  have hp : (backTo pos (starEach [e2] X.env)).any (·.1) = false := any_star fun p hp => by simp at hp; exact hp ▸ hy
  refine PE.imp (pe_callB (vcall_sumT O.calm) hg hm (by decide +kernel) (two_args hx hy ha hb) (by decide +kernel) (by decide +kernel) hs hp) fun σ H Q h => ?_
  refine liftE_mono (lift2O (ty := fun _ _ => True) (T := fun x y H2 => rC2o X .sumT [x, y] H2 Q) O h (fun _ _ _ _ _ _ _ => trivial) fun F H d e z x y s h1 h2 h3 h4 => ⟨F, d, e, z, x, y, rfl, s, h1, h2, h3, h4⟩) fun x H1 h => ?_
  exact h.2
theorem attr_strX {p : Expr} (h : strX p = true) (m : Str) : attributeBase p m X.env (eval p X.env) = eval p X.env := by
  cases p <;> first | rfl | cases h
theorem snd_meth {o : Op2} {name : Str} {T id : String} (O : Okc X C Γ κ c XP) (pa : PlainAttrs T) (slot : Slot T name id) (hty : typeOf (.builtin id) = pure (.type "method_descriptor")) (hm : MtR X id (rM2o X o))
    (ht : ∀ F H d x, Same F H → RB X F H d x → recB o d = true → tyV X.K T x H)
    {p q : Expr} {apos cpos : Pos} (hx : okX q = true) (hl : (apos.endLine == cpos.line) = true) (hp : strX p = true) (ha : PE X p (liftE C wa)) (hb : PE X q (liftE C wb)) :
    PE X (.Call (.Attribute p name apos) [q] [] cpos) (liftE C (wOp2 o wa wb)) := by
  have h0 := pe_bm (cpos := cpos) (apos := apos) pa slot hty hm ha (one_arg hx hb) (attr_strX hp name) (by rw [star_okX hx]; rfl) hl (star_okX hx _ _) rfl
  refine PE.imp h0 fun σ H Q h => ?_
  refine liftE_mono (lift2O (T := fun x y H2 => rM2o X o x [y] H2 Q) O h ht fun F H d e z x y s h1 h2 h3 h4 => ⟨F, d, e, z, y, rfl, s, h1, h2, h3, h4⟩) fun x H1 h => ?_
  exact ⟨h.1, h.2⟩
theorem ty_str {o : Op2} (ho : o = .join ∨ o = .split) : ∀ (F H : Hp) (d : Dat) (x : V), Same F H → RB X F H d x → recB o d = true → tyV X.K "str" x H := by
  intro F H d x _ h hr
  cases d with
  | str s => obtain ⟨rfl, _⟩ := repB_str.mp h; rfl
  | _ => rcases ho with rfl | rfl <;> cases hr
theorem ty_lst : ∀ (F H : Hp) (d : Dat) (x : V), Same F H → RB X F H d x → recB .index d = true → tyV X.K "list" x H := by
  intro F H d x _ h hr
  cases d with
  | lst s => obtain ⟨a, xs, rfl, h1, _⟩ := h; exact .inl ⟨rfl, xs, .inl (.inl h1)⟩
  | _ => cases hr
theorem snd_join (O : Okc X C Γ κ c XP) {p q : Expr} {apos cpos : Pos} (hx : okX q = true) (hl : (apos.endLine == cpos.line) = true) (hp : strX p = true) (ha : PE X p (liftE C wa)) (hb : PE X q (liftE C wb)) :
    PE X (.Call (.Attribute p "join" apos) [q] [] cpos) (liftE C (wOp2 .join wa wb)) := snd_meth O PySem.F.plainAttrs_str PySem.F.slot_str_join PySem.F.type_str_join vmt_join (ty_str (.inl rfl)) hx hl hp ha hb
theorem snd_split (O : Okc X C Γ κ c XP) {p q : Expr} {apos cpos : Pos} (hx : okX q = true) (hl : (apos.endLine == cpos.line) = true) (hp : strX p = true) (ha : PE X p (liftE C wa)) (hb : PE X q (liftE C wb)) :
    PE X (.Call (.Attribute p "split" apos) [q] [] cpos) (liftE C (wOp2 .split wa wb)) := snd_meth O PySem.F.plainAttrs_str PySem.F.slot_str_split PySem.F.type_str_split vmt_split (ty_str (.inr rfl)) hx hl hp ha hb
theorem snd_index (O : Okc X C Γ κ c XP) {p q : Expr} {apos cpos : Pos} (hx : okX q = true) (hl : (apos.endLine == cpos.line) = true) (hp : strX p = true) (ha : PE X p (liftE C wa)) (hb : PE X q (liftE C wb)) :
    PE X (.Call (.Attribute p "index" apos) [q] [] cpos) (liftE C (wOp2 .index wa wb)) := snd_meth O PySem.F.plainAttrs_list PySem.F.slot_list_index PySem.F.type_list_index (vmt_index (by have := O.room.un; omega)) ty_lst hx hl hp ha hb
end
end Mi

set_option maxHeartbeats 8000000
/-! Mi14l: _law_call(lambda: e). -/
namespace Mi
open PySem PySem.Spec PyProof.Rows L2 LamX
section
variable {C : Gh} {F : Hp} {ρ pd : Env} {M : MH} {σ pv : St} {H H1 : Hp}
theorem R.extT (h : R C F ρ M σ H) (e : ExtT C.T H H1) (t : Tabs C.T H1) : R C F ρ M σ H1 := by
  have nt : ∀ b o, H b = some o → (∀ ps, o ≠ .tbl ps) → b ∉ C.T.map (·.1) := fun b o e1 n m => by
    obtain ⟨p, hp, rfl⟩ := List.mem_map.mp m
    obtain ⟨ps, e2⟩ := tabs_at h.mr.tb hp
    rw [e1] at e2
    exact n ps (Option.some.inj e2)
  have k : ∀ b o, H b = some o → (∀ ps, o ≠ .tbl ps) → H1 b = some o := fun b o e1 n => e b o e1 (nt b o e1 n)
  have nf : ∀ b o, F b = some o → b ∉ C.T.map (·.1) := fun b o e1 m => by
    obtain ⟨p, hp, rfl⟩ := List.mem_map.mp m
    rw [h.mr.ft p hp] at e1; cases e1
  exact {
    mr := ⟨fun b o q => e b o (h.mr.sub b o q) (nf b o q), fun b o q => by
      have z := h.mr.mh b o q
      cases o with
      | lst ds => obtain ⟨xs, h1, h2⟩ := z; exact ⟨xs, k _ _ h1 (fun _ z => nomatch z), h2⟩
      | ins cc fs => obtain ⟨D, dx, gs, h0, h1, h2, h4⟩ := z; exact ⟨D, dx, gs, h0, k _ _ h1 (fun _ z => nomatch z), h2, k _ _ h4 (fun _ z => nomatch z)⟩, h.mr.fm, t, h.mr.ft⟩
    len := h.len
    sl := fun j s q => by
      have z := h.sl j s q
      cases s with
      | no => trivial
      | val d => exact z
      | own o =>
        obtain ⟨b, e1, e2, e3, e4, e5⟩ := z
        refine ⟨b, e1, ?_, e3, e4, e5⟩
        cases o with
        | lst ds => obtain ⟨xs, g1, g2⟩ := e2; exact ⟨xs, k _ _ g1 (fun _ z => nomatch z), g2⟩
    dist := h.dist
    f0 := h.f0
    new := h.new
    old := fun b o q n m => k b o (h.old b o q n m) m
    there := fun b q => by
      by_cases m : b ∈ C.T.map (·.1)
      · obtain ⟨p, hp, rfl⟩ := List.mem_map.mp m
        obtain ⟨ps, e2⟩ := tabs_at t hp
        rw [e2]; exact fun z => nomatch z
      · have z := h.there b q
        cases w : H b with
        | none => exact absurd w z
        | some o => rw [e b o w m]; exact fun z => nomatch z
    md := h.md
    mn := h.mn }
theorem R.frzE : ∀ (is : List Nat) {F : Hp} {ρ : Env}, R C F (ρ ++ pd) M (σ ++ pv) H → ρ.length = σ.length → ∃ F1, Same F F1 ∧ R C F1 (frzE ρ is ++ pd) M (σ ++ pv) H ∧ (frzE ρ is).length = σ.length
  | [], F, ρ, h, l => ⟨F, Same.refl _, h, l⟩
  | i :: is, F, ρ, h, l => by
    unfold Mi.frzE
    cases w : ρ[i]? with
    | none => exact R.frzE is h l
    | some s => cases s with
      | no => exact R.frzE is h l
      | val d => exact R.frzE is h l
      | own o =>
        have hi : i < ρ.length := (List.getElem?_eq_some_iff.mp w).1
        obtain ⟨F', v, f1, f2, f3, f4⟩ := h.frz (i := i) (o := o) (by rw [List.getElem?_append_left hi]; exact w)
        rw [List.set_append_left _ _ hi] at f4
        obtain ⟨F2, g1, g2, g3⟩ := R.frzE is f4 (by simp [l])
        exact ⟨F2, Same.trans f1 g1, g2, g3⟩
theorem lamE_get {i : Nat} {s : Sl} (h : (lamE ρ)[i]? = some s) : s = .no ∨ ∃ d, s = .val d ∧ ρ[i]? = some (.val d) := by
  unfold lamE at h
  rw [List.getElem?_map] at h
  cases w : ρ[i]? with
  | none => rw [w] at h; cases h
  | some t =>
    rw [w] at h
    cases t with
    | no => cases h; exact .inl rfl
    | val d => cases h; exact .inr ⟨d, rfl, rfl⟩
    | own o => cases h; exact .inl rfl
/-- the lambda's start -/
theorem R.lam (h : R C F (ρ ++ pd) M (σ ++ pv) H) (l : ρ.length = σ.length) : R ⟨C.K, C.mg, C.T, H, F, M⟩ F (lamE ρ) M σ H where
  mr := h.mr
  len := by unfold lamE; rw [List.length_map]; exact l
  sl := fun j s q => by
    rcases lamE_get q with rfl | ⟨d, rfl, e⟩
    · trivial
    · have hj := (List.getElem?_eq_some_iff.mp e).1
      obtain ⟨v, z1, z2⟩ := h.slv (i := j) (d := d) (by rw [List.getElem?_append_left hj]; exact e)
      rw [List.getElem?_append_left (by omega)] at z1
      exact ⟨v, z1, z2⟩
  dist := fun j k o p a e1 => by rcases lamE_get e1 with z | ⟨d, z, _⟩ <;> cases z
  f0 := Same.refl _
  new := fun _ _ z => z
  old := fun _ _ z _ _ => z
  there := fun _ z => z
  md := fun _ z => z
  mn := fun _ z w => absurd w z
end
section
variable {X : Cx} {C : Gh} {Γ : Kn} {κ : Nat} {c : Cs} {XP : PX}
/-- the body's reading -/
def tLamE (C : Gh) (Γ : Kn) (e : E) : XK → TE := fun Ek σ H Q => ∃ F ρ M XP' P, R ⟨C.K, C.mg, C.T, H, F, M⟩ F ρ M σ H ∧ wpE Γ XP' e ρ M P ∧ (∀ cls d H', xE ⟨C.K, C.mg, C.T, H, F, M⟩ XP' cls d H' → Ek cls d H') ∧
  ∀ r ρ' M' F' x H', P r ρ' M' → Same F F' → RR ⟨C.K, C.mg, C.T, H, F, M⟩ F' ρ' [] M' σ [] H' r x → Q x H'
theorem snd_lcall (O : Okc X C Γ κ c XP) (hlm : c.lm = true) (hg : c.glb "_law_call" = true) {scope : Scope} (hL : lamSB c.sc scope = true) {fz : List Nat} {e : E} {body : Expr} {p lpos pos : Pos}
    (hbody : ∀ (X' : Cx) (κ' : Nat) (C' : Gh) (XP' : PX), Okc X' C' Γ κ' ⟨c.N, scope, scope, false⟩ XP' → PE X' body (liftE C' (wpE Γ XP' e))) :
    PE X (.Call (.Name "_law_call" p) [.Lambda ⟨[], [], none, [], [], none, []⟩ body scope lpos] [] pos) (liftE C (wpE Γ XP (.lcall fz e))) := by
  obtain ⟨κ', lo, fn', ex', kl⟩ := O.lk hlm
  have hL' : LamS X.env.scope scope := lamS_by (by rw [O.sc]; exact hL)
  refine Mi.PE.imp (lo (t := tLamE C Γ e) (O.glb hg).1 hL' (fun A outer s H E f c' hroom => ?_)) fun σ H Q h => ?_
  · refine ⟨fun pins s' σ H' Q I ⟨F, ρ, M, XP', P, hr, hw, hx, hk⟩ => ?_⟩
    have O' : Okc (lamN X A outer s H E scope f c') ⟨C.K, C.mg, C.T, H', F, M⟩ Γ κ' ⟨c.N, scope, scope, false⟩ XP' :=
      { K := O.K, mg := O.mg, N := O.N, sc := rfl, nd := O.nd, calm := rfl, room := hroom, fn := fn', gl := O.gl, bt := O.bt, tb := O.tb, ex := ex'
        xp := lamN_takes.imp fun cls d _ H' z => hx cls d H' z
        lk := fun z => nomatch z
        rl := fun x h => h
        rc := fun x h => absurd rfl ((hL'.own _ (PySem.mem_of_lookup h)).2) }
    exact (hbody _ _ _ _ O').run pins s' σ H' Q I ⟨F, ρ, [], M, [], P, by rw [List.append_nil, List.append_nil]; exact hr, hr.len, hw, hk⟩
  · obtain ⟨F, ρ, pd, M, pv, P, hr, hl, hw, hk⟩ := h
    unfold wpE at hw
    obtain ⟨P0, w1, h2⟩ := hw
    obtain ⟨F1, s1, hr1, hl1⟩ := R.frzE fz hr hl
    refine ⟨hr1.mr.tb, fun H1 e1 t1 => ?_⟩
    have r1 := hr1.extT e1 t1
    refine ⟨F1, lamE (frzE ρ fz), M, _, _, r1.lam hl1, w1, ?_, ?_⟩
    · rintro cls d H' ⟨x, F2, M2, ce, ⟨D, hD, rfl, hat⟩, hx⟩
      obtain ⟨dd, e2, p0⟩ := oP_of hx
      have r2 : R C F2 (frzE ρ fz ++ pd) M2 (σ ++ pv) H' := r1.call ce
      unfold toldX at e2
      split at e2
      · rename_i t g1 g2
        cases e2
        rw [g2] at hat
        refine ⟨x.cls, D, t, none, by rw [← O.mg]; exact hD, rfl, g1, hat, fun H2 sm b hb => ?_⟩
        refine hk _ _ _ _ _ _ (h2 _ _ p0) (Same.trans (Same.trans s1 ce.f) (same_upd2 (Same.refl _) ?_)) (RR.val ((r2.ext sm).froz (u := .tup [.str t]) hb) hl1 (rep_tup.mpr ⟨b, _, rfl, SqT.of upd_same, Reps.cons (rep_str.mpr ⟨rfl, kl _ _ _ g1⟩) Reps.nil⟩))
        exact ((r2.ext sm).fresh0 hb).1
      · rename_i t n m v g1 g2
        split at e2
        · rename_i e3
          subst e3
          cases e2
          rw [g2] at hat
          obtain ⟨dx, u, rfl, hd, rp⟩ := hat
          refine ⟨x.cls, D, t, some n, by rw [← O.mg]; exact hD, rfl, g1, dx, u, rfl, hd, fun H2 sm b hb => ?_⟩
          have f2 := ((r2.ext sm).fresh0 hb).1
          refine hk _ _ _ _ _ _ (h2 _ _ p0) (Same.trans (Same.trans s1 ce.f) (same_upd2 (Same.refl _) f2)) (RR.val ((r2.ext sm).froz (u := .tup [.str t, u]) hb) hl1 (rep_tup.mpr ⟨b, _, rfl, SqT.of upd_same, Reps.cons (rep_str.mpr ⟨rfl, kl _ _ _ g1⟩) (Reps.cons (rp.mono (same_upd f2)) Reps.nil)⟩))
        · cases e2
      · cases e2
    · intro r ρ' M' F' x H' hp sm rr b hb
      obtain ⟨q, e2, p0⟩ := oP_of hp
      obtain ⟨F2, g1, g2, g3, g4⟩ := rr.esc e2
      have ce : CallEnd C.K C.mg C.T F1 M H1 F2 M' H' := g2.end_
      have r2 : R C F2 (frzE ρ fz ++ pd) M' (σ ++ pv) H' := r1.call ce
      have f2 := (r2.fresh0 hb).1
      exact hk _ _ _ _ _ _ (h2 _ _ p0) (Same.trans (Same.trans s1 ce.f) (same_upd2 (Same.refl _) f2)) (RR.val (r2.froz (u := .tup [.str "told", x]) hb) hl1 (rep_tup.mpr ⟨b, _, rfl, SqT.of upd_same, Reps.cons (rep_str.mpr ⟨rfl, by rw [sizeLine_eq]; decide⟩) (Reps.cons (Rep.mono (same_upd f2) g4) Reps.nil)⟩))
end
end Mi

set_option maxHeartbeats 8000000
/-! Mi15: a checked expression does what its wp says. -/
namespace Mi
open PySem PySem.Spec PyProof.Rows L2

/-- an expression's readings: as a value, as a test, its value stored under a name -/
structure Snd (X : Cx) (C : Gh) (py : Expr) (w : WE) : Prop where
  pe : PE X py (liftE C w)
  pt : PT X py (liftT C w)
  st : ∀ (i : Nat) (y : Str) (pp spos : Pos), X.N[i]? = some y → Loc X.env.scope y → (X.fn y = true ∨ X.env.scope.names.lookup y = some .local) → PS X (.Assign [.Name y pp] py spos) (tAsg (liftE C w) (gName i))
def noComp : Expr → Bool
  | .ListComp .. => false
  | .SetComp .. => false
  | .DictComp .. => false
  | _ => true
theorem swaps_no {e : Expr} (h : noComp e = true) (t : Expr) (l : Nat) (env : PySem.Env) : swapsWith e (some t) l env = pure false := by
  cases e <;> first | rfl | cases h
theorem swaps_none {e : Expr} (h : noComp e = true) (l : Nat) (env : PySem.Env) : swapsWith e none l env = pure false := by
  cases e <;> first | rfl | cases h
section
variable {X : Cx} {C : Gh} {Γ : Kn} {κ : Nat} {c : Cs} {XP : PX}
theorem Snd.of (O : Okc X C Γ κ c XP) {py : Expr} {w : WE} (h : PE X py (liftE C w)) (ht : PT X py (liftT C w)) (n : noComp py = true) : Snd X C py w :=
  ⟨h, ht, fun i y pp spos h1 h2 h3 => ps_set O.nd h1 h2 h (swaps_no n _ _ _) h3⟩
theorem Snd.pl (O : Okc X C Γ κ c XP) {py : Expr} {w : WE} (h : PE X py (liftE C w)) (n : noComp py = true) (p : plainT py = true) : Snd X C py w := .of O h (pt_plain O h p) n
theorem folded_okX {e : Expr} (h : okX e = true) (env : PySem.Env) (x : Value) : foldedSetIterable e env x = pure x := by
  cases e <;> first | rfl | cases h
def swB (scope : Scope) (y : Str) (pp pos : Pos) (env : PySem.Env) : Bool := env.blockKind == .function && env.kindOf y == some .local && pp.line == pos.line && !(scope.names.any fun (n, k) => n == y && (k == .local || k == .cell))
theorem swB_eq {elt : Expr} {gs : List Comprehension} {scope : Scope} {pos pp : Pos} {y : Str} {l : Nat} {env : PySem.Env} : swapsWith (.ListComp elt gs scope pos) (some (.Name y pp)) l env = pure (swB scope y pp pos env) := by
  unfold swapsWith
  simp only [Expr.pos]
  rfl
theorem swB_loc {scope : Scope} {y : Str} {pp pos : Pos} {env : PySem.Env} (h : swB scope y pp pos env = true) : env.scope.names.lookup y = some .local := by
  unfold swB at h
  simp only [Bool.and_eq_true] at h
  have := h.1.1.2
  show env.kindOf y = _
  exact eq_of_beq this
theorem own_map (N : List Str) (own : List Nat) : (ownOk N own).map (·.2) = own := by
  unfold ownOk
  rw [List.map_map]
  exact List.map_id' own
theorem snd_lc1 (O : Okc X C Γ κ c XP) {own : List Nat} {scope : Scope} {t : Tg} {wit : WA} {wif : WI} {wel : WE} {tg iter elt : Expr} {ifs : List Expr} {pos : Pos}
    (hb : blkC c.N c.sc scope (ownOk c.N own) = true) (hx : okX iter = true) (hown : ∀ i, i ∈ t.ix → i ∈ own)
    (hi : PI X tg iter (liftI C wit)) (hg : ∀ X', Okc X' C Γ κ ⟨c.N, relS scope c.sc, scope, false⟩ (fun _ _ => False) → PG X' tg (liftG' C t)) (ht : ∀ X', Okc X' C Γ κ ⟨c.N, relS scope c.sc, scope, false⟩ (fun _ _ => False) → PTs X' ifs (liftTs C wif))
    (he : ∀ X', Okc X' C Γ κ ⟨c.N, relS scope c.sc, scope, false⟩ (fun _ _ => False) → PE X' elt (liftE C wel)) :
    Snd X C (.ListComp elt [⟨tg, iter, ifs, 0⟩] scope pos) (fun ρ M P => lcW t own wit wif (eltW wel) ρ [] M fun acc M => P (.own (.lst acc)) ρ M) := by
  have ok : BlkOk X.N X.env.scope scope (ownOk c.N own) := by rw [O.N, O.sc]; exact blkOk_by hb
  have hs := folded_okX hx X.env
  have e1 := pe_lc (pos := pos) O.calm O.nd hi ok (fun s H C' cl fp => hg _ (O.blk s H scope C' cl fp)) (fun s H C' cl fp => ht _ (O.blk s H scope C' cl fp)) (fun s H C' cl fp => he _ (O.blk s H scope C' cl fp)) hs
  rw [own_map] at e1
  have e2 : PE X (.ListComp elt [⟨tg, iter, ifs, 0⟩] scope pos) (liftE C (fun ρ M P => lcW t own wit wif (eltW wel) ρ [] M fun acc M => P (.own (.lst acc)) ρ M)) := PE.imp e1 fun σ H Q h => core_lc hown h
  refine ⟨e2, pt_plain O e2 rfl, fun i y pp spos h1 h2 h3 => ?_⟩
  cases hw : swB scope y pp pos X.env with
  | false => exact ps_set O.nd h1 h2 e2 (by rw [swB_eq, hw]) h3
  | true =>
    have e3 := ps_setLc (spos := spos) (py := pp) O.calm O.nd h1 (swB_loc hw) (by rw [swB_eq, hw]) hi ok (fun s H C' cl fp => hg _ (O.blk s H scope C' cl fp)) (fun s H C' cl fp => ht _ (O.blk s H scope C' cl fp)) (fun s H C' cl fp => he _ (O.blk s H scope C' cl fp)) hs
    rw [own_map] at e3
    exact ⟨fun pins s σ H D I h => e3.run pins s σ H D I (core_lc hown h)⟩
theorem snd_lc2 (O : Okc X C Γ κ c XP) {own : List Nat} {scope : Scope} {t t1 : Tg} {wit wit1 : WA} {wif wif1 : WI} {wel : WE} {tg iter tg1 iter1 elt : Expr} {ifs ifs1 : List Expr} {pos : Pos}
    (hb : blkC c.N c.sc scope (ownOk c.N own) = true) (hx : okX iter = true) (hx1 : okX iter1 = true) (hown : ∀ i, i ∈ t.ix → i ∈ own) (hown1 : ∀ i, i ∈ t1.ix → i ∈ own)
    (hi : PI X tg iter (liftI C wit)) (hg : ∀ X', Okc X' C Γ κ ⟨c.N, relS scope c.sc, scope, false⟩ (fun _ _ => False) → PG X' tg (liftG' C t)) (ht : ∀ X', Okc X' C Γ κ ⟨c.N, relS scope c.sc, scope, false⟩ (fun _ _ => False) → PTs X' ifs (liftTs C wif))
    (hi1 : ∀ X', Okc X' C Γ κ ⟨c.N, relS scope c.sc, scope, false⟩ (fun _ _ => False) → PI X' tg1 iter1 (liftI C wit1)) (hg1 : ∀ X', Okc X' C Γ κ ⟨c.N, relS scope c.sc, scope, false⟩ (fun _ _ => False) → PG X' tg1 (liftG' C t1)) (ht1 : ∀ X', Okc X' C Γ κ ⟨c.N, relS scope c.sc, scope, false⟩ (fun _ _ => False) → PTs X' ifs1 (liftTs C wif1))
    (he : ∀ X', Okc X' C Γ κ ⟨c.N, relS scope c.sc, scope, false⟩ (fun _ _ => False) → PE X' elt (liftE C wel)) :
    Snd X C (.ListComp elt [⟨tg, iter, ifs, 0⟩, ⟨tg1, iter1, ifs1, 0⟩] scope pos) (fun ρ M P => lcW t own wit wif (lcW t1 t1.ix wit1 wif1 (eltW wel)) ρ [] M fun acc M => P (.own (.lst acc)) ρ M) := by
  have ok : BlkOk X.N X.env.scope scope (ownOk c.N own) := by rw [O.N, O.sc]; exact blkOk_by hb
  have hs := folded_okX hx X.env
  have hs1 := fun env x => folded_okX hx1 env x
  have hv : ∀ i ∈ t1.ix, i ∈ (ownOk c.N own).map (·.2) := by rw [own_map]; exact hown1
  have e1 := pe_lc2 (pos := pos) O.calm O.nd hi ok hv (fun s H C' cl fp => hg _ (O.blk s H scope C' cl fp)) (fun s H C' cl fp => ht _ (O.blk s H scope C' cl fp)) (fun s H C' cl fp => hi1 _ (O.blk s H scope C' cl fp)) (fun s H C' cl fp => hg1 _ (O.blk s H scope C' cl fp)) (fun s H C' cl fp => ht1 _ (O.blk s H scope C' cl fp)) (fun s H C' cl fp => he _ (O.blk s H scope C' cl fp)) hs hs1
  rw [own_map] at e1
  have e2 : PE X (.ListComp elt [⟨tg, iter, ifs, 0⟩, ⟨tg1, iter1, ifs1, 0⟩] scope pos) (liftE C (fun ρ M P => lcW t own wit wif (lcW t1 t1.ix wit1 wif1 (eltW wel)) ρ [] M fun acc M => P (.own (.lst acc)) ρ M)) := PE.imp e1 fun σ H Q h => core_lc2 hown h
  refine ⟨e2, pt_plain O e2 rfl, fun i y pp spos h1 h2 h3 => ?_⟩
  cases hw : swB scope y pp pos X.env with
  | false => exact ps_set O.nd h1 h2 e2 (by rw [swB_eq, hw]) h3
  | true =>
    have e3 := ps_setLc2 (spos := spos) (py := pp) O.calm O.nd h1 (swB_loc hw) (by rw [swB_eq, hw]) hi ok hv (fun s H C' cl fp => hg _ (O.blk s H scope C' cl fp)) (fun s H C' cl fp => ht _ (O.blk s H scope C' cl fp)) (fun s H C' cl fp => hi1 _ (O.blk s H scope C' cl fp)) (fun s H C' cl fp => hg1 _ (O.blk s H scope C' cl fp)) (fun s H C' cl fp => ht1 _ (O.blk s H scope C' cl fp)) (fun s H C' cl fp => he _ (O.blk s H scope C' cl fp)) hs hs1
    rw [own_map] at e3
    exact ⟨fun pins s σ H D I h => e3.run pins s σ H D I (core_lc2 hown h)⟩
theorem snd_ts0 : PTs X [] (liftTs C fun ρ M P => P true ρ M) := ⟨fun pins s σ H Q I ⟨F, ρ, pd, M, pv, P, hr, hl, hw, hk⟩ => pts_nil.run pins s σ H Q I (hk _ _ _ _ _ hw (Same.refl _) hr hl)⟩
theorem snd_ts1 {e : Expr} {wa : WE} (h : PT X e (liftT C wa)) : PTs X [e] (liftTs C fun ρ M P => wa ρ M fun r ρ M => oP (peek r ρ) fun d => oP (truD d) fun z => match z with
    | true => P true ρ M
    | false => P false ρ M) := by
  refine ⟨fun pins s σ H Q I ⟨F, ρ, pd, M, pv, P, hr, hl, hw, hk⟩ => (pts_one h).run pins s σ H Q I ?_⟩
  refine ⟨F, ρ, pd, M, pv, _, hr, hl, hw, fun r ρ' M' F' x H' w s rr => ?_⟩
  obtain ⟨d, e1, w⟩ := oP_of w
  obtain ⟨z, e2, w⟩ := oP_of w
  refine ⟨d, z, e1, e2, ?_⟩
  cases z with
  | true => exact hk _ _ _ _ _ w s rr.base rr.len
  | false => exact hk _ _ _ _ _ w s rr.base rr.len
theorem snd_glb (O : Okc X C Γ κ c XP) {x : Str} {pos : Pos} (h : c.glb x = true) : PE X (.Name x pos) (liftE C fun ρ M P => oP (Γ.gl x) fun d => P (.val d) ρ M) := by
  refine ⟨fun pins s σ H Q I ⟨F, ρ, pd, M, pv, P, hr, hl, hw, hk⟩ => ?_⟩
  obtain ⟨d, e1, hw⟩ := oP_of hw
  obtain ⟨u, v, g1, g2, g3⟩ := O.gl x d e1
  obtain ⟨h1, h2⟩ := O.glb h
  refine (pe_glob h1 g1 g2 h2).run pins s σ H Q I ?_
  exact hk _ _ _ F v H hw (Same.refl _) (RR.val hr hl (O.rep (g3.mono fun b o z => by simp at z)))
theorem snd_gfn (O : Okc X C Γ κ c XP) {x : Str} {pos : Pos} (h : c.glb x = true) : PE X (.Name x pos) (liftE C fun ρ M P => oP (Γ.fn x) fun _ => P (.val (.fn x)) ρ M) := by
  refine ⟨fun pins s σ H Q I ⟨F, ρ, pd, M, pv, P, hr, hl, hw, hk⟩ => ?_⟩
  obtain ⟨S, e1, hw⟩ := oP_of hw
  obtain ⟨k, a, fd, qs, hk', hpre, hm, hkeep, hb, hF⟩ := O.fn x S e1
  obtain ⟨h1, h2⟩ := O.glb h
  refine (pe_glob (v := V.ref a) h1 hm rfl h2).run pins s σ H Q I ?_
  exact hk _ _ _ F (.ref a) H hw (Same.refl _) (RR.val hr hl (O.rep (rep_fn.mpr ⟨a, hm, rfl⟩)))
theorem snd_cst (O : Okc X C Γ κ c XP) {d : Dat} {k : Const} {j pos} (h : cstOk d k = true) : PE X (.Constant k j pos) (liftE C fun ρ M P => P (.val d) ρ M) := by
  cases d with
  | non => cases k with
    | none => exact snd_val pe_non fun F => rep_non.mpr rfl
    | _ => cases h
  | bl b => cases k with
    | bool a =>
      have : a = b := eq_of_beq h
      subst this
      exact snd_val pe_bl fun F => rep_bl.mpr rfl
    | _ => cases h
  | int i => cases k with
    | int i' =>
      have : i = i' := of_decide_eq_true h
      subst this
      exact snd_val pe_int fun F => rep_int.mpr rfl
    | _ => cases h
  | str s => cases k with
    | str t =>
      simp only [cstOk, Bool.and_eq_true, decide_eq_true_eq] at h
      obtain ⟨rfl, h⟩ := h
      exact snd_val pe_str fun F => rep_str.mpr ⟨rfl, by rw [sizeLine_eq]; omega⟩
    | _ => cases h
  | _ => cases k <;> cases h
theorem pe_false {py : Expr} {w : WE} (h : ∀ ρ M P, ¬ w ρ M P) : PE X py (liftE C w) := ⟨fun pins s σ H Q I ⟨F, ρ, pd, M, pv, P, hr, hl, hw, hk⟩ => (h _ _ _ hw).elim⟩
theorem pw_false {py : Expr} {w : WE} (h : ∀ ρ M P, ¬ w ρ M P) : PW X py (liftT C w) := ⟨fun wh pins s σ H Q I ⟨F, ρ, pd, M, pv, P, hr, hl, hw, hk⟩ => (h _ _ _ hw).elim⟩
end

variable {Γ : Kn}
mutual
theorem sndE : ∀ (e : E) {X : Cx} {C : Gh} {κ : Nat} {c : Cs} {XP : PX} {py : Expr}, Okc X C Γ κ c XP → chkE c e py = true → Snd X C py (wpE Γ XP e)
  | .var i, X, C, κ, c, XP, py, O, h => by
    unfold chkE at h
    split at h
    · exact .pl O (snd_var O h) rfl rfl
    · cases h
  | .cst d, X, C, κ, c, XP, py, O, h => by
    unfold chkE at h
    split at h
    · exact .pl O (snd_cst O h) rfl rfl
    · cases h
  | .glb x, X, C, κ, c, XP, py, O, h => by
    unfold chkE at h
    split at h
    · simp only [Bool.and_eq_true, decide_eq_true_eq] at h
      obtain ⟨rfl, h⟩ := h
      exact .pl O (snd_glb O h) rfl rfl
    · cases h
  | .gfn x, X, C, κ, c, XP, py, O, h => by
    unfold chkE at h
    split at h
    · simp only [Bool.and_eq_true, decide_eq_true_eq] at h
      obtain ⟨rfl, h⟩ := h
      exact .pl O (snd_gfn O h) rfl rfl
    · cases h
  | .tup es, X, C, κ, c, XP, py, O, h => by
    unfold chkE at h
    split at h
    · simp only [Bool.and_eq_true, decide_eq_true_eq] at h
      exact .pl O (snd_tup O (by rw [chkEs_len h.1]; exact h.2) (sndEs es O h.1)) rfl rfl
    · cases h
  | .lst es, X, C, κ, c, XP, py, O, h => by
    unfold chkE at h
    split at h
    · simp only [Bool.and_eq_true, decide_eq_true_eq] at h
      exact .pl O (snd_lst O (by rw [chkEs_len h.1]; exact h.2) (sndEs es O h.1)) rfl rfl
    · cases h
  | .bag es, X, C, κ, c, XP, py, O, h => by
    unfold chkE at h
    split at h
    · simp only [Bool.and_eq_true, decide_eq_true_eq] at h
      exact .pl O (snd_bag O (by rw [chkEs_len h.1]; exact h.2) (sndEs es O h.1)) rfl rfl
    · cases h
  | .bin op a b, X, C, κ, c, XP, py, O, h => by
    unfold chkE at h
    split at h
    · simp only [Bool.and_eq_true, decide_eq_true_eq] at h
      obtain ⟨⟨rfl, h1⟩, h2⟩ := h
      exact .pl O (snd_bin O.K O.mg (sndE a O h1).pe (sndE b O h2).pe) rfl rfl
    · cases h
  | .neg a, X, C, κ, c, XP, py, O, h => by
    unfold chkE at h
    split at h
    · exact .pl O (snd_neg O (sndE a O h).pe) rfl rfl
    · cases h
  | .cmp op a b, X, C, κ, c, XP, py, O, h => by
    unfold chkE at h
    split at h
    · simp only [Bool.and_eq_true, decide_eq_true_eq] at h
      obtain ⟨⟨⟨rfl, h0⟩, h1⟩, h2⟩ := h
      have := snd_cmp O (op := by assumption) (pos := by assumption) h0 (sndE a O h1).pe (sndE b O h2).pe
      exact .of O this.1 this.2 rfl
    · cases h
  | .isn a, X, C, κ, c, XP, py, O, h => by
    unfold chkE at h
    split at h
    · have := fun j p pos => snd_isn O (j := j) (p := p) (pos := pos) (sndE a O h).pe
      exact .of O (this _ _ _).1 (this _ _ _).2 rfl
    · cases h
  | .isnn a, X, C, κ, c, XP, py, O, h => by
    unfold chkE at h
    split at h
    · have := fun j p pos => snd_isnn O (j := j) (p := p) (pos := pos) (sndE a O h).pe
      exact .of O (this _ _ _).1 (this _ _ _).2 rfl
    · cases h
  | .chn op1 op2 a b d, X, C, κ, c, XP, py, O, h => by
    unfold chkE at h
    split at h
    · simp only [Bool.and_eq_true, decide_eq_true_eq] at h
      obtain ⟨⟨⟨⟨⟨⟨rfl, rfl⟩, h3⟩, h4⟩, h0⟩, h1⟩, h2⟩ := h
      have := fun (o1 o2 : CmpOp) (pos : Pos) => snd_chn O (op1 := o1) (op2 := o2) (pos := pos) h3 h4 (sndE a O h0).pe (sndE b O h1).pe (sndE d O h2).pe
      exact .of O (this _ _ _).1 (this _ _ _).2 rfl
    · cases h
  | .bop op es, X, C, κ, c, XP, py, O, h => by
    unfold chkE at h
    split at h
    · simp only [Bool.and_eq_true, decide_eq_true_eq] at h
      obtain ⟨rfl, h⟩ := h
      have := fun (o : PySem.BoolOp) (pos : Pos) => sndB o es (pos := pos) O h
      exact .of O (this _ _).1 (this _ _).2.pt rfl
    · cases h
  | .not a, X, C, κ, c, XP, py, O, h => by
    unfold chkE at h
    split at h
    · have := fun (pos : Pos) => snd_not O (pos := pos) (sndE a O h).pe (sndE a O h).pt
      exact .of O (this _).1 (this _).2 rfl
    · cases h
  | .ite d a b, X, C, κ, c, XP, py, O, h => by
    unfold chkE at h
    split at h
    · simp only [Bool.and_eq_true] at h
      obtain ⟨⟨h0, h1⟩, h2⟩ := h
      have ha := sndE a O h1
      have hb := sndE b O h2
      have := fun (pos : Pos) => snd_ite (pos := pos) (sndE d O h0).pt ⟨ha.pe, ha.pt⟩ ⟨hb.pe, hb.pt⟩
      exact .of O (this _).1 (this _).2 rfl
    · cases h
  | .idx a b, X, C, κ, c, XP, py, O, h => by
    unfold chkE at h
    split at h
    · simp only [Bool.and_eq_true] at h
      obtain ⟨⟨h0, h1⟩, h2⟩ := h
      exact .pl O (snd_idx O h0 (sndE a O h1).pe (sndE b O h2).pe) rfl rfl
    · cases h
  | .slc a lo hi, X, C, κ, c, XP, py, O, h => by
    unfold chkE at h
    split at h
    · simp only [Bool.and_eq_true] at h
      obtain ⟨⟨h0, h1⟩, h2⟩ := h
      exact .pl O (snd_slc O (sndE a O h0).pe (sndO lo O h1) (sndO hi O h2)) rfl rfl
    · cases h
  | .rev a, X, C, κ, c, XP, py, O, h => by
    unfold chkE at h
    split at h
    · simp only [Bool.and_eq_true, decide_eq_true_eq] at h
      obtain ⟨rfl, h⟩ := h
      exact .pl O (snd_rev O (sndE a O h).pe) rfl rfl
    · cases h
  | .call f es, X, C, κ, c, XP, py, O, h => by
    unfold chkE at h
    split at h
    · simp only [Bool.and_eq_true, decide_eq_true_eq] at h
      obtain ⟨⟨rfl, h1⟩, h2⟩ := h
      obtain ⟨g1, g2⟩ := O.glb h1
      exact .pl O (snd_call O g1 g2 (chkEs_ok h2) (sndEs es O h2) (chkEs_len h2)) rfl rfl
    · cases h
  | .callv i es, X, C, κ, c, XP, py, O, h => by
    unfold chkE at h
    split at h
    · simp only [Bool.and_eq_true, decide_eq_true_eq] at h
      obtain ⟨h1, h2⟩ := h
      obtain ⟨g1, g2, g3, g4⟩ := O.var h1.1
      have hne := h1.2
      split at hne
      · exact .pl O (snd_callv O g1 g2 g3 g4 (chkEs_ok h2) (sndEs es O h2)) rfl rfl
      · cases hne
    · cases h
  | .bf f a, X, C, κ, c, XP, py, O, h => by
    unfold chkE at h
    split at h
    · simp only [Bool.and_eq_true, decide_eq_true_eq] at h
      obtain ⟨⟨⟨rfl, h1⟩, h2⟩, h3⟩ := h
      exact .pl O (snd_bf O (O.glb h1).1 (O.bt _ (by cases f <;> decide)) h2 (sndE a O h3).pe) rfl rfl
    · cases h
  | .bf2 f a b, X, C, κ, c, XP, py, O, h => by
    unfold chkE at h
    split at h
    · simp only [Bool.and_eq_true, decide_eq_true_eq] at h
      obtain ⟨⟨⟨⟨⟨rfl, h1⟩, h2⟩, h3⟩, h4⟩, h5⟩ := h
      exact .pl O (snd_bf2 O (O.glb h1).1 (O.bt _ (by cases f <;> decide)) h2 h3 (sndE a O h4).pe (sndE b O h5).pe) rfl rfl
    · cases h
  | .op2 o a b, X, C, κ, c, XP, py, O, h => by
    unfold chkE at h
    split at h
    · simp only [Bool.and_eq_true, decide_eq_true_eq] at h
      obtain ⟨⟨⟨⟨⟨rfl, h1⟩, h2⟩, h3⟩, h4⟩, h5⟩ := h
      exact .pl O (snd_sumT O (O.glb h1).1 (O.bt _ (by decide)) h2 h3 (sndE a O h4).pe (sndE b O h5).pe) rfl rfl
    · simp only [Bool.and_eq_true, decide_eq_true_eq] at h
      obtain ⟨⟨⟨⟨⟨rfl, h1⟩, h2⟩, h3⟩, h4⟩, h5⟩ := h
      exact .pl O (snd_join O h1 h4 h5 (sndE a O h2).pe (sndE b O h3).pe) rfl rfl
    · simp only [Bool.and_eq_true, decide_eq_true_eq] at h
      obtain ⟨⟨⟨⟨⟨rfl, h1⟩, h2⟩, h3⟩, h4⟩, h5⟩ := h
      exact .pl O (snd_split O h1 h4 h5 (sndE a O h2).pe (sndE b O h3).pe) rfl rfl
    · simp only [Bool.and_eq_true, decide_eq_true_eq] at h
      obtain ⟨⟨⟨⟨⟨rfl, h1⟩, h2⟩, h3⟩, h4⟩, h5⟩ := h
      exact .pl O (snd_index O h1 h4 h5 (sndE a O h2).pe (sndE b O h3).pe) rfl rfl
    · cases h
  | .isi a t, X, C, κ, c, XP, py, O, h => by
    unfold chkE at h
    split at h
    · simp only [Bool.and_eq_true, decide_eq_true_eq] at h
      obtain ⟨⟨⟨⟨⟨rfl, h1⟩, rfl⟩, h2⟩, h3⟩, h4⟩ := h
      exact .pl O (snd_isi O (O.glb h1).1 (O.bt _ (by decide)) (O.glb h2).1 (O.bt _ (by cases t <;> decide)) h3 (sndE a O h4).pe) rfl rfl
    · cases h
  | .dget ks vs key x, X, C, κ, c, XP, py, O, h => by
    unfold chkE at h
    split at h
    · simp only [Bool.and_eq_true, decide_eq_true_eq] at h
      obtain ⟨⟨⟨⟨⟨⟨⟨⟨⟨⟨⟨rfl, h1⟩, h2⟩, h3⟩, h4⟩, h5⟩, h6⟩, h7⟩, h8⟩, h9⟩, h10⟩, h11⟩ := h
      exact .pl O (snd_dget O h1 h2 h3 h4 (sndE key O h5).pe (sndE x O h6).pe h7 h8 h9 h10 h11) rfl rfl
    · cases h
  | .gget t key x, X, C, κ, c, XP, py, O, h => by
    unfold chkE at h
    split at h
    · simp only [Bool.and_eq_true, decide_eq_true_eq] at h
      obtain ⟨⟨⟨⟨⟨⟨⟨rfl, rfl⟩, h1⟩, h3⟩, h4⟩, h5⟩, h6⟩, h7⟩ := h
      exact .pl O (snd_gget O h1 h3 h4 (sndE key O h5).pe (sndE x O h6).pe h7) rfl rfl
    · cases h
  | .lc elt .nil own, X, C, κ, c, XP, py, O, h => by
    unfold chkE at h
    split at h
    · simp only [Bool.and_eq_true] at h
      have := h.1.2
      unfold chkG at this
      split at this <;> cases this
    · cases h
  | .lc elt (.cons t it ifs .nil) own, X, C, κ, c, XP, py, O, h => by
    unfold chkE at h
    split at h
    · rename_i e ps scope pos
      simp only [Bool.and_eq_true, decide_eq_true_eq] at h
      obtain ⟨⟨⟨h1, h2⟩, h3⟩, h4⟩ := h
      unfold chkG at h3
      split at h3
      · rename_i tg iter fs n ps'
        simp only [Bool.and_eq_true, decide_eq_true_eq, if_true] at h3
        obtain ⟨⟨⟨⟨⟨⟨rfl, g1⟩, g2⟩, g3⟩, g4⟩, g5⟩, g6⟩ := h3
        unfold chkG at g6
        split at g6
        · exact snd_lc1 O h1 g1 (tg_own g2) (sndItI it O.weak g3) (fun X' O' => O'.tg g2) (fun X' O' => sndIf ifs O' g4 g5) fun X' O' => (sndE elt O' h4).pe
        · cases g6
      · cases h3
    · cases h
  | .lc elt (.cons t it ifs (.cons t1 it1 ifs1 .nil)) own, X, C, κ, c, XP, py, O, h => by
    unfold chkE at h
    split at h
    · rename_i e ps scope pos
      simp only [Bool.and_eq_true, decide_eq_true_eq] at h
      obtain ⟨⟨⟨h1, h2⟩, h3⟩, h4⟩ := h
      unfold chkG at h3
      split at h3
      · rename_i tg iter fs n ps'
        simp only [Bool.and_eq_true, decide_eq_true_eq, if_true] at h3
        obtain ⟨⟨⟨⟨⟨⟨rfl, g1⟩, g2⟩, g3⟩, g4⟩, g5⟩, g6⟩ := h3
        unfold chkG at g6
        split at g6
        · rename_i tg1 iter1 fs1 n1 ps1
          simp only [Bool.and_eq_true, decide_eq_true_eq, Bool.false_eq_true, if_false] at g6
          obtain ⟨⟨⟨⟨⟨⟨rfl, k1⟩, k2⟩, k3⟩, k4⟩, k5⟩, k6⟩ := g6
          unfold chkG at k6
          split at k6
          · exact snd_lc2 O h1 g1 k1 (tg_own g2) (tg_own k2) (sndItI it O.weak g3) (fun X' O' => O'.tg g2) (fun X' O' => sndIf ifs O' g4 g5) (fun X' O' => sndItI it1 O' k3) (fun X' O' => O'.tg k2) (fun X' O' => sndIf ifs1 O' k4 k5) fun X' O' => (sndE elt O' h4).pe
          · cases k6
        · cases g6
      · cases h3
    · cases h
  | .lc elt (.cons t it ifs (.cons t1 it1 ifs1 (.cons t2 it2 ifs2 gs))) own, X, C, κ, c, XP, py, O, h => by
    unfold chkE at h
    split at h
    · rename_i e ps scope pos
      simp only [Bool.and_eq_true, decide_eq_true_eq] at h
      have := h.1.2
      simp [chkG] at this
    · cases h
  | .dgetE ks vs key x, X, C, κ, c, XP, py, O, h => by
    unfold chkE at h
    split at h
    · simp only [Bool.and_eq_true, decide_eq_true_eq] at h
      obtain ⟨⟨⟨⟨⟨⟨⟨⟨⟨⟨⟨rfl, h1⟩, h2⟩, h3⟩, h4⟩, h5⟩, h6⟩, h7⟩, h8⟩, h9⟩, h10⟩, h11⟩ := h
      have g := fun pos => sndPs vs (pos := pos) O h1 h2 h10
      exact .pl O (snd_dgetE O (g _).1 (g ⟨0, 0, 0, 0⟩).2.1 (g ⟨0, 0, 0, 0⟩).2.2.1 (g ⟨0, 0, 0, 0⟩).2.2.2.1 h3 h4 (sndE key O h5).pe (sndE x O h6).pe h7 h8 h9 (g ⟨0, 0, 0, 0⟩).2.2.2.2 h11) rfl rfl
    · cases h
  | .lcall fz e, X, C, κ, c, XP, py, O, h => by
    unfold chkE at h
    split at h
    · simp only [Bool.and_eq_true, decide_eq_true_eq] at h
      obtain ⟨⟨⟨⟨h1, rfl⟩, h2⟩, h3⟩, h4⟩ := h
      exact .pl O (snd_lcall O h1 h2 h3 fun X' κ' C' XP' O' => (sndE e O' h4).pe) rfl rfl
    · cases h
theorem sndPs : ∀ (vs : Es) {ks : List Str} {es : List (Option Expr)} {ps : List Expr} {X : Cx} {C : Gh} {κ : Nat} {c : Cs} {XP : PX} {pos : Pos}, Okc X C Γ κ c XP → keysOk ks es = true → chkEs c vs ps = true → ks.length = ps.length →
    PPs X pos es ps (pairT C Γ XP ks vs) ∧ es.all (·.isSome) = true ∧ es.length = ps.length ∧ es.length = ks.length ∧ vs.len = ks.length
  | .nil, ks, es, ps, X, C, κ, c, XP, pos, O, h1, h2, h3 => by
    cases ps with
    | cons _ _ => unfold chkEs at h2; cases h2
    | nil => cases ks with
      | cons _ _ => simp at h3
      | nil => cases es with
        | cons _ _ => cases h1
        | nil => exact ⟨pps_nil, rfl, rfl, rfl, rfl⟩
  | .cons e vs, ks, es, ps, X, C, κ, c, XP, pos, O, h1, h2, h3 => by
    cases ps with
    | nil => unfold chkEs at h2; cases h2
    | cons p ps => cases ks with
      | nil => simp at h3
      | cons k ks =>
        unfold keysOk at h1
        split at h1
        · cases ‹(_ : List Str) = []›
        · rename_i k' ks' s j pp es' ee
          cases ee
          unfold chkEs at h2
          simp only [Bool.and_eq_true, decide_eq_true_eq] at h1 h2
          obtain ⟨rfl, h1⟩ := h1
          obtain ⟨g1, g2, g3, g4, g5⟩ := sndPs vs (pos := pos) O h1 h2.2 (by simpa using h3)
          exact ⟨pps_cons pe_str (sndE e O h2.1.2).pe g1, by simpa using g2, by simp [g3], by simp [g4], by simp [Es.len, g5]⟩
        · cases h1
theorem sndEs : ∀ (es : Es) {X : Cx} {C : Gh} {κ : Nat} {c : Cs} {XP : PX} {ps : List Expr}, Okc X C Γ κ c XP → chkEs c es ps = true → PA X ps (liftA C (wpEs Γ XP es))
  | .nil, X, C, κ, c, XP, ps, O, h => by
    unfold chkEs at h
    split at h
    · exact snd_nil
    · cases h
  | .cons e es, X, C, κ, c, XP, ps, O, h => by
    unfold chkEs at h
    split at h
    · simp only [Bool.and_eq_true] at h
      exact snd_cons h.1.1 (sndE e O h.1.2).pe (sndEs es O h.2)
    · cases h
theorem sndB (op : PySem.BoolOp) : ∀ (es : Es) {X : Cx} {C : Gh} {κ : Nat} {c : Cs} {XP : PX} {ps : List Expr} {pos : Pos}, Okc X C Γ κ c XP → chkEs c es ps = true → PE X (.BoolOp op ps pos) (liftE C (wpB Γ XP op es)) ∧ PW X (.BoolOp op ps pos) (liftT C (wpB Γ XP op es))
  | .nil, X, C, κ, c, XP, ps, pos, O, h => ⟨pe_false fun _ _ _ z => by unfold wpB at z; exact z, pw_false fun _ _ _ z => by unfold wpB at z; exact z⟩
  | .cons e .nil, X, C, κ, c, XP, ps, pos, O, h => by
    unfold chkEs at h
    split at h
    · simp only [Bool.and_eq_true] at h
      have h2 := h.2
      unfold chkEs at h2
      split at h2
      · have := sndE e O h.1.2
        exact snd_one ⟨this.pe, this.pt⟩
      · cases h2
    · cases h
  | .cons e (.cons e2 es), X, C, κ, c, XP, ps, pos, O, h => by
    unfold chkEs at h
    split at h
    · rename_i p ps
      simp only [Bool.and_eq_true] at h
      have ha := sndE e O h.1.2
      have hb := sndB op (.cons e2 es) (pos := pos) O h.2
      have h2 := h.2
      unfold chkEs at h2
      split at h2
      · cases op with
        | And => exact snd_and O ⟨ha.pe, ha.pt⟩ hb
        | Or => exact snd_or O ⟨ha.pe, ha.pt⟩ hb
      · cases h2
    · cases h
theorem sndO : ∀ (es : Es) {X : Cx} {C : Gh} {κ : Nat} {c : Cs} {XP : PX} {p : Option Expr}, Okc X C Γ κ c XP → chkO c es p = true → PO X p (liftO C (wpEs Γ XP es))
  | .nil, X, C, κ, c, XP, p, O, h => by
    unfold chkO at h
    split at h
    · exact snd_none
    · cases h
  | .cons e .nil, X, C, κ, c, XP, p, O, h => by
    unfold chkO at h
    split at h
    · exact snd_some (sndE e O h).pe
    · cases h
  | .cons e (.cons e2 es), X, C, κ, c, XP, p, O, h => by
    unfold chkO at h
    split at h
    · rename_i z; cases z
    · cases h
theorem sndItI : ∀ (it : It) {X : Cx} {C : Gh} {κ : Nat} {c : Cs} {XP : PX} {tg p : Expr}, Okc X C Γ κ c XP → tgOk it tg = true ∧ chkIt c it p = true → PI X tg p (liftI C (wpIt Γ XP false it))
  | .seq e, X, C, κ, c, XP, tg, p, O, h => by
    replace h : chkIt c (.seq e) p = true := h.2
    unfold chkIt at h
    exact snd_seqI O (sndE e O h).pe
  | .rng es, X, C, κ, c, XP, tg, p, O, h => by
    replace h : chkIt c (.rng es) p = true := h.2
    unfold chkIt at h
    split at h
    · rename_i x p' ps pos
      simp only [Bool.and_eq_true, decide_eq_true_eq] at h
      obtain ⟨⟨⟨rfl, h1⟩, h2⟩, h3⟩ := h
      have g1 := (O.glb h1).1
      have g2 := O.bt _ (show ("range" : Str) ∈ btNames by decide)
      have g3 := chkEs_ok h2
      have g4 := sndEs es O h2
      cases ps with
      | nil => cases h3
      | cons e ps => exact snd_rngI g1 g2 g3 g4
    · cases h
  | .zip es, X, C, κ, c, XP, tg, p, O, h => by
    cases tg with
    | Tuple elts kk tpos =>
      replace h : chkIt c (.zip es) p = true := h.2
      unfold chkIt at h
      split at h
      · rename_i x p' e e2 pos
        simp only [Bool.and_eq_true, decide_eq_true_eq] at h
        obtain ⟨⟨rfl, h1⟩, h2⟩ := h
        have g3 := chkEs_ok h2
        exact snd_zipI O (O.glb h1).1 (O.bt _ (show ("zip" : Str) ∈ btNames by decide)) (g3 e (by simp)) (g3 e2 (by simp)) (sndEs es O h2)
      · cases h
    | _ => cases h.1
theorem sndItF : ∀ (it : It) {X : Cx} {C : Gh} {κ : Nat} {c : Cs} {XP : PX} {tg p : Expr}, Okc X C Γ κ c XP → tgOk it tg = true ∧ chkIt c it p = true → PI X tg p (liftF C (wpIt Γ XP true it))
  | .seq e, X, C, κ, c, XP, tg, p, O, h => by
    replace h : chkIt c (.seq e) p = true := h.2
    unfold chkIt at h
    exact snd_seqF O (sndE e O h).pe
  | .rng es, X, C, κ, c, XP, tg, p, O, h => by
    replace h : chkIt c (.rng es) p = true := h.2
    unfold chkIt at h
    split at h
    · rename_i x p' ps pos
      simp only [Bool.and_eq_true, decide_eq_true_eq] at h
      obtain ⟨⟨⟨rfl, h1⟩, h2⟩, h3⟩ := h
      have g1 := (O.glb h1).1
      have g2 := O.bt _ (show ("range" : Str) ∈ btNames by decide)
      have g3 := chkEs_ok h2
      have g4 := sndEs es O h2
      cases ps with
      | nil => cases h3
      | cons e ps => exact snd_rngF g1 g2 g3 g4
    · cases h
  | .zip es, X, C, κ, c, XP, tg, p, O, h => by
    cases tg with
    | Tuple elts kk tpos =>
      replace h : chkIt c (.zip es) p = true := h.2
      unfold chkIt at h
      split at h
      · rename_i x p' e e2 pos
        simp only [Bool.and_eq_true, decide_eq_true_eq] at h
        obtain ⟨⟨rfl, h1⟩, h2⟩ := h
        have g3 := chkEs_ok h2
        exact snd_zipF O (O.glb h1).1 (O.bt _ (show ("zip" : Str) ∈ btNames by decide)) (g3 e (by simp)) (g3 e2 (by simp)) (sndEs es O h2)
      · cases h
    | _ => cases h.1
theorem sndIf : ∀ (es : Es) {X : Cx} {C : Gh} {κ : Nat} {c : Cs} {XP : PX} {ps : List Expr}, Okc X C Γ κ c XP → chkEs c es ps = true → ps.length ≤ 1 → PTs X ps (liftTs C (wpIf Γ XP es))
  | .nil, X, C, κ, c, XP, ps, O, h, hl => by
    unfold chkEs at h
    split at h
    · exact snd_ts0
    · cases h
  | .cons e .nil, X, C, κ, c, XP, ps, O, h, hl => by
    unfold chkEs at h
    split at h
    · simp only [Bool.and_eq_true] at h
      have h2 := h.2
      unfold chkEs at h2
      split at h2
      · exact snd_ts1 (sndE e O h.1.2).pt
      · cases h2
    · cases h
  | .cons e (.cons e2 es), X, C, κ, c, XP, ps, O, h, hl => by
    have := chkEs_len h
    simp [Es.len] at this
    omega
end
end Mi

set_option maxHeartbeats 4000000
/-! Mi15n: an own error class is made; its context is None. -/
namespace Mi
open PySem PySem.Spec PyProof.Rows L2
section
variable {X : Cx} {e : Expr} {es : List Expr} {ta : TA} {p pos : Pos}
theorem pmk_oexN {CX : CXT} {x : Str} {C fI : Addr} {k : Nat} {fd : FuncData} {ps : List Str} {sp : Sp} {ds : List Value} {dvs : List V} (T : OexC X.K C) (iC : PySem.W.findIn X.K (.ref C) "__init__" = some (some (.ref fI))) (tI : PySem.W.typeIn X.K (.ref fI) = some (.type "function")) (F1 : FnOk X.prog X.w X.K X.mg X.base CX k fI fd ps sp) (hr : Room (k + 1) X.A) (hb : Binds X.K fd ps ds) (hd : Vals dvs ds)
    (hx : Passes CX X (fun _ _ _ => False)) (hg : Gl X x) (hm : X.mg x = some (.ref C)) (ha : PA X (e :: es) ta) (hdb : (x == ("__debug__" : Str)) = false := by decide) (he : starEach (e :: es) X.env = (false, eval e X.env) :: starEach es X.env := by rfl) (hpl : (backTo pos (starEach es X.env)).any (·.1) = false := by rfl) : L2N.PMk X (.Call (.Name x p) (e :: es) [] pos) (tMkO C sp dvs ta) := by
  intro pins s σ H Q I h; obtain ⟨nm, q, N, bs, bm, sn, sub, ab, col, dd, k0, k1, k2, k3, k5, hC, hbm⟩ := T.cls
  refine wpAny_Call_Name_kw (ld_glob I hg hm ?_ hdb); refine PySem.W.callWith_K (h₀ := X.base) I.ok.mod.kin T.kC (thn (ha.run pos pins s σ H _ I h) fun us s1 ⟨vs, H1, I1, r1, hz, q1⟩ => ⟨I1.kIn, ?_⟩) he hpl
  show wpAny _ _ (call (.ref C) us) _ _ _; obtain ⟨hp, g, dr, tk, os⟩ := s1
  have hsz : hp.objs.size ≤ hp.objs.size + 1 := Nat.le_succ _; have hq := q1 (hp.objs.size + 1) (I1.hok.fresh hsz)
  have kk : ∀ b o, hp.get? b = some o → ((hp.push (PySem.W.kdv_tup us)).push (PySem.HandSPX.excO C hp.objs.size)).get? b = some o := fun b o e => Heap.get?_push_of_some _ (Heap.get?_push_of_some _ e)
  have hget : ((hp.push (PySem.W.kdv_tup us)).push (PySem.HandSPX.excO C hp.objs.size)).get? (hp.objs.size + 1) = some (PySem.HandSPX.excO C hp.objs.size) := by heap_get
  have I2 := I1.laid (t' := tk) (a := hp.objs.size + 1) (o := exo (hp.objs.size + 1) C none) (h' := (hp.push (PySem.W.kdv_tup us)).push (PySem.HandSPX.excO C hp.objs.size)) kk hsz (exo_ok hget)
  have r2 : Vals (V.ref (hp.objs.size + 1) :: (vs ++ dvs)) (Value.ref (hp.objs.size + 1) :: (us ++ ds)) := .cons rfl (r1.append hd)
  have hl : (Value.ref (hp.objs.size + 1) :: us ++ ds).length = ps.length := by have e := r2.length; rw [F1.len _ _ _ _ hq] at e; exact e.symm
  have hus : us.length ≤ sizeLine := by rw [← Paired.length r1, sizeLine_eq]; omega
  refine wpAny_call (PySem.HandSPX.call_own F.excBase_ValueError (fun Y => PySem.HandSPX.refsVE_contains Y bm hbm) (I1.kIn _ _ hC) (PySem.W.looks_findIn I1.kIn iC) (fun self => PySem.W.bind_fn I1.kIn self tI) hus (codeAny_mono (F1.run _ X.stack _ _ ⟨Value.ref (hp.objs.size + 1) :: us, []⟩ (Value.ref (hp.objs.size + 1) :: (us ++ ds)) _ _ (fun _ _ _ => False) (hr.make C us []) (I2.env0.make C us []) (hb _ (Value.ref (hp.objs.size + 1) :: us) I2.kIn hl) r2 hq) fun r s' hq' => ?_))
  cases r with
  | error er => exact hx pins σ _ _ er s' I2 hq'
  | ok fl =>
    cases fl with
    | ret u =>
      obtain ⟨v, H2, os2, bare2, un2, hok2, rv, ev, d, fs, ea, ed, hd1, q2⟩ := hq'; subst ev; obtain ⟨h2, g2, d2, t2, os'⟩ := s'
      obtain ⟨t0, G, J, kG, ge, hoe, na⟩ := mk_end0 (d2 := d2) (t2 := t2) I1 hsz kk un2 hok2 os2 bare2 ea ed hd1
      exact ⟨rv, hp.objs.size + 1, _, _, ⟨G, g2, d2, t2, os'⟩, _, .ref C, some d, rfl, J, kG, ge, hoe, ⟨rfl, rfl, fun vs hv => by cases hv; rfl⟩, rfl, rfl, na, rfl, bare2, raises_own T.exC T.tyC, q2⟩
    | next => exact False.elim hq'
    | brk => exact False.elim hq'
    | cont => exact False.elim hq'
end
end Mi

set_option maxHeartbeats 8000000
/-! Mi16: statements. -/
namespace Mi
open PySem PySem.Spec PyProof.Rows L2

/-! ### the check -/
def isLoc (sc : Scope) (x : Str) : Bool := decide (sc.names.lookup x = some .local)
def kindFn (sc : Scope) : Bool := match sc.kind with | .function => true | _ => false
def parOk (c : Cs) (is : List Nat) (ts vs : List Expr) : Bool := kindFn c.sc && !vs.all (foldedForSure 8) && !vs.all (constantsAlone 8) && match is, ts, vs with
  | [i, j], [.Name x px, .Name y py], [_, _] => decide (i ≠ j) && decide (x ≠ y) && decide (px.line = py.line) && decide (c.N[i]? = some x) && decide (c.N[j]? = some y) && isLoc c.sc x && isLoc c.sc y
  | [i, j, l], [.Name x px, .Name y py, .Name z pz], [_, _, _] => decide (i ≠ j) && decide (i ≠ l) && decide (j ≠ l) && decide (x ≠ y) && decide (x ≠ z) && decide (y ≠ z) && decide (px.line = py.line) && decide (px.line = pz.line) && decide (c.N[i]? = some x) && decide (c.N[j]? = some y) && decide (c.N[l]? = some z) && isLoc c.sc x && isLoc c.sc y && isLoc c.sc z
  | _, _, _ => false
/-- no stores in the other order -/
def noSw : Expr → Bool
  | .Tuple vs _ _ => vs.all (foldedForSure 8)
  | _ => true
/-- a target that is no plain local name -/
def nonLoc (sc : Scope) (ts : List Expr) : Bool := ts.any fun t => match t with
  | .Name x _ => !isLoc sc x
  | _ => true
mutual
def chkS (c : Cs) : S → Stmt → Bool
  | .asg i e, st => match st with | .Assign [.Name x _] v _ => c.loc i x && chkE c e v | _ => false
  | .asgL is es, st => match st with | .Assign [.Tuple ts _ _] (.Tuple vs _ _) _ => parOk c is ts vs && chkEs c es vs | _ => false
  | .asgU is e, st => match st with | .Assign [.Tuple ts k p] v _ => chkTg c none (.tup is) (.Tuple ts k p) && (noSw v || nonLoc c.sc ts) && chkE c e v | _ => false
  | .asgIx i k e, st => match st with | .Assign [.Subscript (.Name x _) k' _] v _ => c.var i x && okX k' && chkE c k k' && chkE c e v | _ => false
  | .asgI2 i k l e, st => match st with | .Assign [.Tuple [.Subscript (.Name x _) k' _, .Subscript (.Name y _) l' _] _ _] v _ => c.var i x && c.var i y && okX k' && okX l' && chkE c k k' && chkE c l l' && chkE c e v && noComp v | _ => false
  | .ext i e, st => match st with | .Expr (.Call (.Attribute (.Name x _) m apos) [p] [] pos) _ => decide (m = "extend") && c.var i x && okX p && chkE c e p && (apos.endLine == pos.line) | _ => false
  | .app i e, st => match st with | .Expr (.Call (.Attribute (.Name x _) m apos) [p] [] pos) _ => decide (m = "append") && c.var i x && okX p && chkE c e p && (apos.endLine == pos.line) | _ => false
  | .exp e, st => match st with | .Expr v _ => noComp v && chkE c e v | _ => false
  | .ife d a b, st => match st with | .If t x y _ => chkE c d t && chkSs c a x && chkSs c b y | _ => false
  | .for_ t it b, st => match st with | .For tg iter body [] _ => chkTg c none t tg && okX iter && (tgOk it tg && chkIt c it iter) && chkSs c b body | _ => false
  | .whl d b, st => match st with | .While t body [] _ => chkE c d t && chkSs c b body | _ => false
  | .ret e, st => match st with | .Return (some v) _ => chkE c e v | _ => false
  | .retN, st => match st with | .Return none _ => true | _ => false
  | .rai x es, st => match st with | .Raise (some (.Call (.Name y _) [p] [] _)) none _ => decide (y = x) && c.glb y && okX p && chkEs c es [p] | _ => false
  | .pas, st => match st with | .Pass _ => true | .Expr (.Constant (.str _) _ _) _ => true | _ => false
  | .nev, _ => true
def chkSs (c : Cs) : Ss → List Stmt → Bool
  | .nil, ss => match ss with | [] => true | _ => false
  | .cons s ss, sts => match sts with | st :: rest => chkS c s st && chkSs c ss rest | _ => false
end

/-! ### readings -/
structure DR (C : Gh) (F : Hp) (D : Dm) (E : Ends) : Prop where
  nx : ∀ ρ M F' σ H, D.nx ρ M → Same F F' → R C F' ρ M σ H → E.nx σ H
  rt : ∀ q M F' x H, D.rt q M → CallEnd C.K C.mg C.T C.F0 C.M0 C.H0 F' M H → RetR C.K C.mg C.H0 F' M H q x → E.rt x H
  bk : ∀ ρ M F' σ H, D.bk ρ M → Same F F' → R C F' ρ M σ H → E.bk σ H
  ct : ∀ ρ M F' σ H, D.ct ρ M → Same F F' → R C F' ρ M σ H → E.ct σ H
theorem DR.mono {C : Gh} {F F1 : Hp} {D : Dm} {E : Ends} (h : DR C F D E) (s : Same F F1) : DR C F1 D E :=
  ⟨fun ρ M F' σ H a b c => h.nx ρ M F' σ H a (Same.trans s b) c, h.rt, fun ρ M F' σ H a b c => h.bk ρ M F' σ H a (Same.trans s b) c, fun ρ M F' σ H a b c => h.ct ρ M F' σ H a (Same.trans s b) c⟩
abbrev WS := Env → MH → Dm → Prop
def liftS (C : Gh) (w : WS) : TS := fun E σ H => ∃ F ρ M D, R C F ρ M σ H ∧ w ρ M D ∧ DR C F D E
theorem PS.imp {X : Cx} {st : Stmt} {t t' : TS} (h : PS X st t) (k : ∀ D σ H, t' D σ H → t D σ H) : PS X st t' := ⟨fun pins s σ H D I q => h.run pins s σ H D I (k D σ H q)⟩
theorem PSs.imp {X : Cx} {st : List Stmt} {t t' : TS} (h : PSs X st t) (k : ∀ D σ H, t' D σ H → t D σ H) : PSs X st t' := ⟨fun pins s σ H D I q => h.run pins s σ H D I (k D σ H q)⟩

section
variable {C : Gh} {F F' : Hp} {ρ ρ' pd : Env} {M M' : MH} {σ pv : St} {H H' : Hp} {r q : Rv} {x y : V} {d : Dat} {s : Sl}
theorem RR.take (h : RR C F ρ pd M σ pv H r x) (e : takeD r ρ = some (s, ρ')) : ∃ F', Same F F' ∧ R C F' (ρ' ++ (pd ++ [s])) M (σ ++ (pv ++ [some x])) H ∧ ρ'.length = σ.length := by
  have gen : ∀ d, escD r ρ = some (d, ρ') → s = .val d → ∃ F', Same F F' ∧ R C F' (ρ' ++ (pd ++ [s])) M (σ ++ (pv ++ [some x])) H ∧ ρ'.length = σ.length := by
    intro d e1 e2
    subst e2
    obtain ⟨F2, s2, h2, l2, _⟩ := h.esc e1
    exact ⟨F2, s2, h2, l2⟩
  cases r with
  | own o =>
    have e : some (Sl.own o, ρ) = some (s, ρ') := e
    cases e
    exact ⟨F, Same.refl _, h.st, h.len⟩
  | val c =>
    have e : some (Sl.val c, ρ) = some (s, ρ') := e
    cases e
    exact gen c rfl rfl
  | bor i =>
    cases w : escD (.bor i) ρ with
    | none => simp [takeD, w] at e
    | some p =>
      obtain ⟨d, ρ2⟩ := p
      simp only [takeD, w, Option.some.injEq, Prod.mk.injEq] at e
      obtain ⟨rfl, rfl⟩ := e
      exact gen d w rfl
theorem RR.ret (h : RR C F ρ [] M σ [] H r x) (e : takeR r ρ = some q) : RetR C.K C.mg C.H0 F M H q x := by
  have l := h.len
  have hst := h.st
  simp only [List.nil_append] at hst
  have e1 : ∀ s : Sl, (ρ ++ [s])[ρ.length]? = some s := fun s => by simp
  have e2 : (σ ++ [some x])[ρ.length]? = some (some x) := by rw [l]; simp
  have base := h.base
  simp only [List.append_nil] at base
  cases r with
  | val d =>
    cases e
    obtain ⟨v, z1, z2⟩ := hst.slv (e1 _)
    rw [e2] at z1; cases z1
    exact z2
  | own o =>
    cases e
    obtain ⟨a, z1, z2, z3, z4, z5⟩ := hst.slo (e1 _)
    rw [e2] at z1; cases z1
    exact ⟨a, rfl, z2, z3, z4, z5⟩
  | bor i =>
    have es := h.bor i rfl
    have e : (match ρ[i]? with | some (.own o) => some (Rv.own o) | some (.val d) => some (.val d) | _ => none) = some q := e
    cases w : ρ[i]? with
    | none => rw [w] at e; cases e
    | some s =>
      rw [w] at e
      cases s with
      | no => cases e
      | val d =>
        cases e
        obtain ⟨v, z1, z2⟩ := base.slv w
        rw [es] at z1; cases z1
        exact z2
      | own o =>
        cases e
        obtain ⟨a, z1, z2, z3, z4, z5⟩ := base.slo w
        rw [es] at z1; cases z1
        exact ⟨a, rfl, z2, z3, z4, z5⟩
/-- from a statement's state to an expression's -/
theorem R.nil (h : R C F ρ M σ H) : R C F (ρ ++ []) M (σ ++ []) H := by simpa using h
theorem R.unnil (h : R C F (ρ ++ []) M (σ ++ []) H) : R C F ρ M σ H := by simpa using h
end

section
variable {X : Cx} {C : Gh} {Γ : Kn} {κ : Nat} {c : Cs} {XP : PX} {wa : WE}

theorem snd_asg {i : Nat} {y : Str} {pp spos : Pos} {py : Expr} (h : PS X (.Assign [.Name y pp] py spos) (tAsg (liftE C wa) (gName i))) :
    PS X (.Assign [.Name y pp] py spos) (liftS C fun ρ M D => wa ρ M fun r ρ M => oP (takeD r ρ) fun p => D.nx (p.2.set i p.1) M) := by
  refine PS.imp h fun E σ H ⟨F, ρ, M, D, hr, hw, hd⟩ => ?_
  refine ⟨F, ρ, [], M, [], _, hr.nil, hr.len, hw, fun r ρ1 M1 F1 x H1 w1 s1 r1 => ?_⟩
  obtain ⟨⟨s, ρ2⟩, e1, w1⟩ := oP_of w1
  obtain ⟨F2, s2, h2, l2⟩ := r1.take e1
  simp only [List.nil_append] at h2
  exact hd.nx _ _ F2 _ _ w1 (Same.trans s1 s2) h2.move
theorem snd_exp {py : Expr} {pos : Pos} (h : PE X py (liftE C wa)) (n : noComp py = true) : PS X (.Expr py pos) (liftS C fun ρ M D => wa ρ M fun _ ρ M => D.nx ρ M) := by
  refine PS.imp (ps_expr h (swaps_none n _ _)) fun E σ H ⟨F, ρ, M, D, hr, hw, hd⟩ => ?_
  exact ⟨F, ρ, [], M, [], _, hr.nil, hr.len, hw, fun r ρ1 M1 F1 x H1 w1 s1 r1 => hd.nx _ _ F1 _ _ w1 s1 r1.base.unnil⟩
theorem snd_ret {py : Expr} {pos : Pos} (h : PE X py (liftE C wa)) : PS X (.Return (some py) pos) (liftS C fun ρ M D => wa ρ M fun r ρ M => oP (takeR r ρ) fun q => D.rt q M) := by
  refine PS.imp (ps_ret h) fun E σ H ⟨F, ρ, M, D, hr, hw, hd⟩ => ?_
  refine ⟨F, ρ, [], M, [], _, hr.nil, hr.len, hw, fun r ρ1 M1 F1 x H1 w1 s1 r1 => ?_⟩
  obtain ⟨q, e1, w1⟩ := oP_of w1
  exact hd.rt q M1 F1 x H1 w1 r1.base.unnil.end_ (r1.ret e1)
theorem snd_retN {pos : Pos} : PS X (.Return none pos) (liftS C fun _ M D => D.rt (.val .non) M) := by
  refine PS.imp ps_retN fun E σ H ⟨F, ρ, M, D, hr, hw, hd⟩ => ?_
  exact hd.rt _ M F .non H hw hr.end_ ((rep_non (K := C.K) (mg := C.mg) (F := F)).mpr rfl)
theorem snd_pas {st : Stmt} (h : PS X st tNext) : PS X st (liftS C fun ρ M D => D.nx ρ M) := PS.imp h fun E σ H ⟨F, ρ, M, D, hr, hw, hd⟩ => hd.nx _ _ F _ _ hw (Same.refl _) hr
theorem snd_nev {st : Stmt} : PS X st (liftS C fun _ _ _ => False) := ⟨fun pins s σ H D I ⟨_, _, _, _, _, z, _⟩ => z.elim⟩
theorem snd_ife {t : Expr} {a b : List Stmt} {pos : Pos} {w1 w2 : WS} (h : PT X t (liftT C wa)) (ha : PSs X a (liftS C w1)) (hb : PSs X b (liftS C w2)) :
    PS X (.If t a b pos) (liftS C fun ρ M D => wa ρ M fun r ρ M => oP (peek r ρ) fun d => oP (truD d) fun z => match z with
      | true => w1 ρ M D
      | false => w2 ρ M D) := by
  refine PS.imp (ps_if h ha hb) fun E σ H ⟨F, ρ, M, D, hr, hw, hd⟩ => ?_
  refine ⟨F, ρ, [], M, [], _, hr.nil, hr.len, hw, fun r ρ1 M1 F1 x H1 w s1 r1 => ?_⟩
  obtain ⟨d, e1, w⟩ := oP_of w
  obtain ⟨z, e2, w⟩ := oP_of w
  refine ⟨d, z, e1, e2, ?_⟩
  cases z with
  | true => rw [if_pos rfl]; exact ⟨F1, ρ1, M1, D, r1.base.unnil, w, hd.mono s1⟩
  | false => rw [if_neg Bool.false_ne_true]; exact ⟨F1, ρ1, M1, D, r1.base.unnil, w, hd.mono s1⟩
theorem snd_asgU {is : List Nat} {ts : List Expr} {k : Nat} {p pos : Pos} {v : Expr} (hg : PG X (.Tuple ts k p) (liftG' C (.tup is))) (h : PE X v (liftE C wa)) (hw : swappedStores [.Tuple ts k p] v X.env = pure none) :
    PS X (.Assign [.Tuple ts k p] v pos) (liftS C fun ρ M D => wa ρ M fun r ρ M => oP (peek r ρ) fun d => oP (tgtF (.tup is) d ρ) fun ρ => D.nx ρ M) := by
  have hs : swapsWithSole [.Tuple ts k p] v pos.line X.env = pure false := by cases v <;> rfl
  refine PS.imp (ps_asg h hg hs hw) fun E σ H ⟨F, ρ, M, D, hr, hw, hd⟩ => ?_
  refine ⟨F, ρ, [], M, [], _, hr.nil, hr.len, hw, fun r ρ1 M1 F1 x H1 w s1 r1 => ?_⟩
  obtain ⟨d, e1, w⟩ := oP_of w
  obtain ⟨ρ2, e2, w9⟩ := oP_of w
  cases d with
  | tup ds => exact ⟨F1, ρ1, [], M1, [], .tup ds, r1.base, r1.len, r1.peek e1, ρ2, e2, fun σ' l h3 _ => hd.nx _ _ F1 _ _ w9 s1 h3.unnil⟩
  | _ => cases e2
/-- over a for's source -/
theorem snd_for (O : Okc X C Γ κ c XP) (po : PassesOwn (model X.prog X.w) X.A X.env X.xe) {t : Tg} {tg iter : Expr} {body : List Stmt} {pos : Pos} {wit : WA} {wb : WS} (hx : okX iter = true) (hg : PG X tg (liftG' C t)) (hi : PI X tg iter (liftF C wit)) (hb : PSs X body (liftS C wb)) :
    PS X (.For tg iter body [] pos) (liftS C fun ρ M D => wit ρ M fun ds ρ M => forLoop (fun d ρ M D => oP (tgtF t d ρ) fun ρ => wb ρ M D) ds ρ M D) := by
  refine PS.imp (ps_for po O.calm hi hg hb (folded_okX hx X.env)) fun E σ H ⟨F, ρ, M, D, hr, hw, hd⟩ => ?_
  refine ⟨F, ρ, [], M, [], _, hr.nil, hr.len, hw, fun ds ρ1 M1 F1 H1 J w1 s1 r1 l1 wk => ?_⟩
  refine ⟨fun i m σ H => m = ds.length - i ∧ i ≤ ds.length ∧ ∃ F' ρ' M', Same F1 F' ∧ R C F' ρ' M' σ H ∧ forLoop (fun d ρ M D => oP (tgtF t d ρ) fun ρ => wb ρ M D) (ds.drop i) ρ' M' D, ⟨ds.length, rfl, Nat.zero_le _, F1, ρ1, M1, Same.refl _, r1.unnil, w1⟩, ?_⟩
  rintro i m σ H ⟨rfl, hle, F2, ρ2, M2, s2, r2, w2⟩
  by_cases hlt : i < ds.length
  · refine .inr ?_
    obtain ⟨g1, g2⟩ := wk.go F2 H i ds[i] s2 r2.mr.sub (List.getElem?_eq_getElem hlt)
    refine ⟨g1, fun σ' H' => ∃ F' ρ' M', Same F1 F' ∧ R C F' ρ' M' σ' H' ∧ forLoop (fun d ρ M D => oP (tgtF t d ρ) fun ρ => wb ρ M D) (ds.drop (i + 1)) ρ' M' D, fun σ' H' n => ⟨ds.length - (i + 1), by omega, rfl, by omega, n⟩, fun x H' hy => ?_⟩
    obtain ⟨F3, fz, rp⟩ := g2 x H' hy
    obtain ⟨s3, h3⟩ := fz.R r2
    rw [List.drop_eq_getElem_cons hlt] at w2
    have w2 : oP (tgtF t ds[i] ρ2) fun ρ => wb ρ M2 { D with nx := fun ρ M => forLoop (fun d ρ M D => oP (tgtF t d ρ) fun ρ => wb ρ M D) (ds.drop (i + 1)) ρ M D, ct := fun ρ M => forLoop (fun d ρ M D => oP (tgtF t d ρ) fun ρ => wb ρ M D) (ds.drop (i + 1)) ρ M D, bk := D.nx } := w2
    obtain ⟨ρ3, e3, w3⟩ := oP_of w2
    refine ⟨F3, ρ2, [], M2, [], ds[i], h3.nil, h3.len, rp, ρ3, e3, fun σ' l h4 _ => ?_⟩
    refine ⟨F3, ρ3, M2, _, h4.unnil, w3, ?_, hd.rt, ?_, ?_⟩
    · exact fun ρ4 M4 F4 σ4 H4 w4 s4 r4 => ⟨F4, ρ4, M4, Same.trans (Same.trans s2 s3) s4, r4, w4⟩
    · exact fun ρ4 M4 F4 σ4 H4 w4 s4 r4 => hd.nx _ _ F4 _ _ w4 (Same.trans (Same.trans (Same.trans s1 s2) s3) s4) r4
    · exact fun ρ4 M4 F4 σ4 H4 w4 s4 r4 => ⟨F4, ρ4, M4, Same.trans (Same.trans s2 s3) s4, r4, w4⟩
  · have e : i = ds.length := by omega
    subst e
    rw [List.drop_length] at w2
    exact .inl ⟨wk.stop F2 H s2 r2.mr.sub, hd.nx _ _ F2 _ _ w2 (Same.trans s1 s2) r2⟩
theorem snd_whl (po : PassesOwn (model X.prog X.w) X.A X.env X.xe) {t : Expr} {body : List Stmt} {pos : Pos} {wb : WS} (h : PT X t (liftT C wa)) (hb : PSs X body (liftS C wb)) :
    PS X (.While t body [] pos) (liftS C fun ρ M D => ∃ I : Nat → Env → MH → Prop, (∃ n, I n ρ M) ∧ ∀ n ρ M, I n ρ M → wa ρ M fun r ρ M => oP (peek r ρ) fun d => oP (truD d) fun z => match z with
      | true => wb ρ M { D with nx := fun ρ M => ∃ m, m < n ∧ I m ρ M, ct := fun ρ M => ∃ m, m < n ∧ I m ρ M, bk := D.nx }
      | false => D.nx ρ M) := by
  refine PS.imp (ps_while po h hb) fun E σ H ⟨F, ρ, M, D, hr, ⟨J, ⟨n, hJ⟩, hw⟩, hd⟩ => ?_
  refine ⟨fun m σ H => ∃ F' ρ' M', Same F F' ∧ R C F' ρ' M' σ H ∧ J m ρ' M', ⟨n, F, ρ, M, Same.refl _, hr, hJ⟩, ?_⟩
  rintro m σ H ⟨F1, ρ1, M1, s1, r1, j1⟩
  refine ⟨F1, ρ1, [], M1, [], _, r1.nil, r1.len, hw m ρ1 M1 j1, fun r ρ2 M2 F2 x H2 w s2 r2 => ?_⟩
  obtain ⟨d, e1, w⟩ := oP_of w
  obtain ⟨z, e2, w⟩ := oP_of w
  refine ⟨d, z, e1, e2, ?_⟩
  cases z with
  | false => rw [if_neg Bool.false_ne_true]; exact hd.nx _ _ F2 _ _ w (Same.trans s1 s2) r2.base.unnil
  | true =>
    rw [if_pos rfl]
    refine ⟨fun σ' H' => ∃ m', m' < m ∧ ∃ F' ρ' M', Same F F' ∧ R C F' ρ' M' σ' H' ∧ J m' ρ' M', fun σ' H' n => n, F2, ρ2, M2, _, r2.base.unnil, w, ?_, hd.rt, ?_, ?_⟩
    · exact fun ρ4 M4 F4 σ4 H4 ⟨m', hm, w4⟩ s4 r4 => ⟨m', hm, F4, ρ4, M4, Same.trans (Same.trans s1 s2) s4, r4, w4⟩
    · exact fun ρ4 M4 F4 σ4 H4 w4 s4 r4 => hd.nx _ _ F4 _ _ w4 (Same.trans (Same.trans s1 s2) s4) r4
    · exact fun ρ4 M4 F4 σ4 H4 ⟨m', hm, w4⟩ s4 r4 => ⟨m', hm, F4, ρ4, M4, Same.trans (Same.trans s1 s2) s4, r4, w4⟩

/-! ### x[k] = e, x.append(e) -/
theorem R.has {F : Hp} {ρ : Env} {M : MH} {σ : St} {H : Hp} {i : Nat} (h : R C F ρ M σ H) (e : hasB ρ i = true) : ∃ v, σ[i]? = some (some v) := by
  unfold hasB at e
  split at e
  · obtain ⟨v, z, _⟩ := h.slv (by assumption); exact ⟨v, z⟩
  · obtain ⟨a, z, _⟩ := h.slo (by assumption); exact ⟨_, z⟩
  · cases e
theorem snd_asgIx (O : Okc X C Γ κ c XP) {i : Nat} {x : Str} {px p pos : Pos} {k v : Expr} {wk wv : WE} (hN : X.N[i]? = some x) (hv : Vis X.env.scope x) (h3 : (x == ("__debug__" : Str)) = false) (h4 : (x == ("__classdict__" : Str)) = false)
    (hx : okX k = true) (hk : PE X k (liftE C wk)) (he : PE X v (liftE C wv)) :
    PS X (.Assign [.Subscript (.Name x px) k p] v pos) (liftS C fun ρ M D => wv ρ M fun r ρ M => oP (escD r ρ) fun p => hasB p.2 i = true ∧ wk p.2 M fun q ρ M => oP (peek q ρ) fun kd => oP (intD kd) fun n => oP (setAt ρ M i n p.1) fun z => D.nx z.1 z.2) := by
  have hs : swapsWithSole [.Subscript (.Name x px) k p] v pos.line X.env = pure false := by cases v <;> rfl
  have hw0 : swappedStores [.Subscript (.Name x px) k p] v X.env = pure none := by cases v <;> rfl
  have hg : PG X (.Subscript (.Name x px) k p) (gSub (tVar i) (liftE C wk) rSetL) := pg_sub (pe_var hN hv h3 h4) hk set_list (by intro v; cases k <;> first | rfl | cases hx)
  refine PS.imp (ps_asg he hg hs hw0 rfl) fun E σ H ⟨F, ρ, M, D, hr, hw, hd⟩ => ?_
  refine ⟨F, ρ, [], M, [], _, hr.nil, hr.len, hw, fun r ρ1 M1 F1 y H1 w s1 r1 => ?_⟩
  obtain ⟨⟨d, ρ2⟩, e1, hb, w⟩ := oP_of w
  obtain ⟨F2, s2, h2, l2, rp⟩ := r1.esc e1
  simp only [List.nil_append] at h2
  obtain ⟨o, hσ⟩ := h2.pop_.has hb
  refine ⟨o, hσ, F2, ρ2, [.val d], M1, [some y], _, h2, l2, w, fun q ρ3 M3 F3 z H3 w3 s3 r3 => ?_⟩
  obtain ⟨kd, e3, w4⟩ := oP_of w3
  obtain ⟨n, e4, w5⟩ := oP_of w4
  clear w3 w4
  cases kd with
  | int n' =>
    cases e4
    obtain rfl := repB_int.mp (r3.peek e3)
    have rp3 := rp.mono s3
    have hb' := r3.base.pop_
    obtain ⟨⟨ρ4, M4⟩, e5, w6⟩ := oP_of w5
    unfold setAt at e5
    split at e5
    · rename_i ds hds
      cases hj : ixN ds.length n with
      | none => rw [hj] at e5; cases e5
      | some j =>
        rw [hj] at e5; cases e5
        obtain ⟨a, z1, ⟨xs, z2, z3⟩, _⟩ := hb'.slo hds
        rw [hσ] at z1; cases z1
        refine ⟨a, xs, _, j, rfl, rfl, z2, by rw [z3.length]; exact hj, ?_⟩
        exact hd.nx _ _ F3 _ _ w6 (Same.trans (Same.trans s1 s2) s3) (hb'.wr hds hσ (z3.set j rp3))
    · rename_i a hds
      split at e5
      · rename_i ds hM
        cases hj : ixN ds.length n with
        | none => rw [hj] at e5; cases e5
        | some j =>
          rw [hj] at e5; cases e5
          obtain ⟨v', z1, z2⟩ := hb'.slv hds
          rw [hσ] at z1; cases z1
          obtain rfl := rep_ref.mp z2
          obtain ⟨xs, g1, g2⟩ := (show MOR C.K C.mg F3 H3 a (.lst ds) from hb'.mr.mh a _ hM)
          refine ⟨a, xs, _, j, rfl, rfl, g1, by rw [g2.length]; exact hj, ?_⟩
          exact hd.nx _ _ F3 _ _ w6 (Same.trans (Same.trans s1 s2) s3) (hb'.wm hM (g2.set j rp3))
      · cases e5
    · cases e5
  | _ => cases e4
/-- one store of several -/
theorem sub_step (O : Okc X C Γ κ c XP) {i : Nat} {wk : WE} {F : Hp} {ρ pd : Env} {M : MH} {σ pv : St} {H : Hp} {d : Dat} {v : V} {P : Env → MH → Prop} {Q : St → Hp → Prop} (hr : R C F (ρ ++ pd) M (σ ++ pv) H) (hl : ρ.length = σ.length) (hb : hasB ρ i = true) (rp : C.rep F d v)
    (hw : wk ρ M fun q ρ M => oP (peek q ρ) fun kd => oP (intD kd) fun n => oP (setAt ρ M i n d) fun z => P z.1 z.2)
    (hk : ∀ ρ' M' F' H', P ρ' M' → Same F F' → R C F' (ρ' ++ pd) M' (σ ++ pv) H' → ρ'.length = σ.length → Q σ H') : gSub (tVar i) (liftE C wk) rSetL v σ H Q := by
  obtain ⟨o, hσ⟩ := (hr.prefix_ hl).has hb
  have il : i < ρ.length := by
    unfold hasB at hb
    cases w : ρ[i]? with
    | none => rw [w] at hb; cases hb
    | some s => exact (List.getElem?_eq_some_iff.mp w).1
  have hσ' : (σ ++ pv)[i]? = some (some o) := by rw [List.getElem?_append_left (by omega)]; exact hσ
  refine ⟨o, hσ, F, ρ, pd, M, pv, _, hr, hl, hw, fun q ρ3 M3 F3 z H3 w3 s3 r3 => ?_⟩
  obtain ⟨kd, e3, w4⟩ := oP_of w3
  obtain ⟨n, e4, w5⟩ := oP_of w4
  clear w3 w4
  cases kd with
  | int n' =>
    cases e4
    obtain rfl := repB_int.mp (r3.peek e3)
    have rp3 := Rep.mono s3 rp
    have hb' := r3.base
    have l3 := r3.len
    obtain ⟨⟨ρ4, M4⟩, e5, w6⟩ := oP_of w5
    unfold setAt at e5
    split at e5
    · rename_i ds hds
      have i3 : i < ρ3.length := (List.getElem?_eq_some_iff.mp hds).1
      have hds' : (ρ3 ++ pd)[i]? = some (.own (.lst ds)) := by rw [List.getElem?_append_left i3]; exact hds
      cases hj : ixN ds.length n with
      | none => rw [hj] at e5; cases e5
      | some j =>
        rw [hj] at e5; cases e5
        obtain ⟨a, z1, ⟨xs, z2, z3⟩, _⟩ := hb'.slo hds'
        rw [hσ'] at z1; cases z1
        refine ⟨a, xs, _, j, rfl, rfl, z2, by rw [z3.length]; exact hj, ?_⟩
        have h5 := hb'.wr hds' hσ' (z3.set j rp3)
        rw [List.set_append_left _ _ i3] at h5
        exact hk _ _ F3 _ w6 s3 h5 (by simp [l3])
    · rename_i a hds
      have i3 : i < ρ3.length := (List.getElem?_eq_some_iff.mp hds).1
      have hds' : (ρ3 ++ pd)[i]? = some (.val (.ref a)) := by rw [List.getElem?_append_left i3]; exact hds
      split at e5
      · rename_i ds hM
        cases hj : ixN ds.length n with
        | none => rw [hj] at e5; cases e5
        | some j =>
          rw [hj] at e5; cases e5
          obtain ⟨v', z1, z2⟩ := hb'.slv hds'
          rw [hσ'] at z1; cases z1
          obtain rfl := rep_ref.mp z2
          obtain ⟨xs, g1, g2⟩ := (show MOR C.K C.mg F3 H3 a (.lst ds) from hb'.mr.mh a _ hM)
          refine ⟨a, xs, _, j, rfl, rfl, g1, by rw [g2.length]; exact hj, ?_⟩
          exact hk _ _ F3 _ w6 s3 (hb'.wm hM (g2.set j rp3)) l3
      · cases e5
    · cases e5
  | _ => cases e4
theorem snd_asgI2 (O : Okc X C Γ κ c XP) {i : Nat} {x y : Str} {px py p1 p2 pt pos : Pos} {k l v : Expr} {kt : Nat} {wk wl wv : WE} (hN : X.N[i]? = some x) (hv : Vis X.env.scope x) (h3 : (x == ("__debug__" : Str)) = false) (h4 : (x == ("__classdict__" : Str)) = false)
    (hN2 : X.N[i]? = some y) (hv2 : Vis X.env.scope y) (h32 : (y == ("__debug__" : Str)) = false) (h42 : (y == ("__classdict__" : Str)) = false) (hx : okX k = true) (hx2 : okX l = true) (hn : noComp v = true) (hk : PE X k (liftE C wk)) (hl : PE X l (liftE C wl)) (he : PE X v (liftE C wv)) :
    PS X (.Assign [.Tuple [.Subscript (.Name x px) k p1, .Subscript (.Name y py) l p2] kt pt] v pos) (liftS C fun ρ M D => wv ρ M fun r ρ M => oP (peek r ρ) fun d => match d with
    | .tup [d1, d2] => hasB ρ i = true ∧ wk ρ M fun q ρ M => oP (peek q ρ) fun kd => oP (intD kd) fun n => oP (setAt ρ M i n d1) fun z => hasB z.1 i = true ∧ wl z.1 z.2 fun q ρ M => oP (peek q ρ) fun kd => oP (intD kd) fun n => oP (setAt ρ M i n d2) fun z => D.nx z.1 z.2
    | _ => False) := by
  have hs : swapsWithSole [.Tuple [.Subscript (.Name x px) k p1, .Subscript (.Name y py) l p2] kt pt] v pos.line X.env = pure false := by cases v <;> first | rfl | cases hn
  have hw0 : swappedStores [.Tuple [.Subscript (.Name x px) k p1, .Subscript (.Name y py) l p2] kt pt] v X.env = pure none := by
    cases v with
    | Tuple vs k2 p2 =>
      unfold swappedStores
      simp only
      split
      · rfl
      · split
        · rfl
        · rfl
    | _ => rfl
  have g1 : PG X (.Subscript (.Name x px) k p1) (gSub (tVar i) (liftE C wk) rSetL) := pg_sub (pe_var hN hv h3 h4) hk set_list (by intro v; cases k <;> first | rfl | cases hx)
  have g2 : PG X (.Subscript (.Name y py) l p2) (gSub (tVar i) (liftE C wl) rSetL) := pg_sub (pe_var hN2 hv2 h32 h42) hl set_list (by intro v; cases l <;> first | rfl | cases hx2)
  have hg := pg_tup (k := kt) (pos := pt) O.calm (pgs_cons g1 (pgs_cons g2 pgs_nil))
  refine PS.imp (ps_asg he hg hs hw0) fun E σ H ⟨F, ρ, M, D, hr, hw, hd⟩ => ?_
  refine ⟨F, ρ, [], M, [], _, hr.nil, hr.len, hw, fun r ρ1 M1 F1 y H1 w s1 r1 => ?_⟩
  obtain ⟨d, e1, w⟩ := oP_of w
  have rb := r1.peek e1
  split at w
  · rename_i d1 d2
    obtain ⟨a, xs, rfl, q1, q2⟩ := repB_tup.mp rb
    obtain ⟨v1, v2, rfl, rv1, rv2⟩ := q2.two
    refine ⟨a, [v1, v2], rfl, by rw [← O.K]; exact sqT_same r1.sub q1, rfl, v1, [v2], rfl, ?_⟩
    refine sub_step O (P := fun ρ M => hasB ρ i = true ∧ wl ρ M fun q ρ M => oP (peek q ρ) fun kd => oP (intD kd) fun n => oP (setAt ρ M i n d2) fun z => D.nx z.1 z.2) r1.base r1.len w.1 rv1 w.2 fun ρ2 M2 F2 H2 w2 s2 h2 l2 => ?_
    refine ⟨v2, [], rfl, ?_⟩
    refine sub_step O (P := fun ρ M => D.nx ρ M) h2 l2 w2.1 (Rep.mono s2 rv2) w2.2 fun ρ3 M3 F3 H3 w3 s3 h3 l3 => ?_
    exact ⟨rfl, hd.nx _ _ F3 _ _ w3 (Same.trans (Same.trans s1 s2) s3) h3.unnil⟩
  · exact w.elim
/-- the list that a name holds -/
theorem R.lstAt {F : Hp} {ρ : Env} {M : MH} {σ : St} {H : Hp} {i : Nat} {v : V} (h : R C F ρ M σ H) (hσ : σ[i]? = some (some v)) : (∀ ds, ρ[i]? = some (.own (.lst ds)) → ∃ a xs, v = .ref a ∧ H a = some (.lst xs) ∧ C.reps F ds xs) ∧
    (∀ a ds, ρ[i]? = some (.val (.ref a)) → M a = some (.lst ds) → v = .ref a ∧ ∃ xs, H a = some (.lst xs) ∧ C.reps F ds xs) := by
  constructor
  · intro ds e
    obtain ⟨a, z1, ⟨xs, z2, z3⟩, _⟩ := h.slo e
    rw [hσ] at z1; cases z1
    exact ⟨a, xs, rfl, z2, z3⟩
  · intro a ds e hM
    obtain ⟨v', z1, z2⟩ := h.slv e
    rw [hσ] at z1; cases z1
    obtain rfl := rep_ref.mp z2
    obtain ⟨xs, g1, g2⟩ := (show MOR C.K C.mg F H a (.lst ds) from h.mr.mh a _ hM)
    exact ⟨rfl, xs, g1, g2⟩
/-- a list's method, its type looked at behind the arguments -/
theorem snd_app (O : Okc X C Γ κ c XP) {i : Nat} {x : Str} {px apos cpos pos : Pos} {e : Expr} {wv : WE} (hN : X.N[i]? = some x) (hv : Vis X.env.scope x) (h3 : (x == ("__debug__" : Str)) = false) (h4 : (x == ("__classdict__" : Str)) = false)
    (hx : okX e = true) (hl : (apos.endLine == cpos.line) = true) (he : PE X e (liftE C wv)) :
    PS X (.Expr (.Call (.Attribute (.Name x px) "append" apos) [e] [] cpos) pos) (liftS C fun ρ M D => hasL ρ M i = true ∧ wv ρ M fun r ρ M => oP (escD r ρ) fun p => oP (appAt p.2 M i p.1) fun z => D.nx z.1 z.2) := by
  have h0 := pe_bm (cpos := cpos) (apos := apos) PySem.F.plainAttrs_list PySem.F.slot_list_append PySem.F.type_list_append mt_append (pe_var (pos := px) hN hv h3 h4) (one_arg hx he) rfl (by
    rw [star_okX hx]; rfl) hl (star_okX hx _ _) rfl
  refine PS.imp (ps_expr h0 rfl) fun E σ H ⟨F, ρ, M, D, hr, ⟨hb, hw⟩, hd⟩ => ?_
  have hty : ∃ v, σ[i]? = some (some v) ∧ tyV X.K "list" v H := by
    unfold hasL at hb
    split at hb
    · rename_i ds hds
      obtain ⟨a, z1, ⟨xs, z2, z3⟩, _⟩ := hr.slo hds
      exact ⟨_, z1, Or.inl ⟨rfl, xs, Or.inl (Or.inl z2)⟩⟩
    · rename_i a hds
      split at hb
      · rename_i ds hM
        obtain ⟨v', z1, z2⟩ := hr.slv hds
        obtain ⟨rfl, xs, g1, g2⟩ := (hr.lstAt z1).2 a ds hds hM
        exact ⟨_, z1, Or.inl ⟨rfl, xs, Or.inl (Or.inl g1)⟩⟩
      · cases hb
    · cases hb
  obtain ⟨v, hσ, ty⟩ := hty
  refine ⟨v, hσ, ty, F, ρ, [], M, [], _, hr.nil, hr.len, hw, fun r ρ1 M1 F1 y H1 w s1 r1 => ?_⟩
  obtain ⟨⟨d, ρ2⟩, e1, w⟩ := oP_of w
  obtain ⟨F2, s2, h2, l2, rp⟩ := r1.esc e1
  simp only [List.nil_append] at h2
  have hb' := h2.pop_
  obtain ⟨⟨ρ4, M4⟩, e5, w6⟩ := oP_of w
  unfold appAt at e5
  split at e5
  · rename_i ds hds
    split at e5
    · rename_i lt
      cases e5
      obtain ⟨a, z1, ⟨xs, z2, z3⟩, _⟩ := hb'.slo hds
      rw [hσ] at z1; cases z1
      exact ⟨a, xs, y, rfl, rfl, z2, by rw [z3.length]; exact lt, hd.nx _ _ F2 _ _ w6 (Same.trans s1 s2) (hb'.wr hds hσ (z3.append (Reps.cons rp Reps.nil)))⟩
    · cases e5
  · rename_i a hds
    split at e5
    · rename_i ds hM
      split at e5
      · rename_i lt
        cases e5
        obtain ⟨rfl, xs, g1, g2⟩ := (hb'.lstAt hσ).2 a ds hds hM
        exact ⟨a, xs, y, rfl, rfl, g1, by rw [g2.length]; exact lt, hd.nx _ _ F2 _ _ w6 (Same.trans s1 s2) (hb'.wm hM (g2.append (Reps.cons rp Reps.nil)))⟩
      · cases e5
    · cases e5
  · cases e5

/-- x.extend(e) -/
theorem snd_ext (O : Okc X C Γ κ c XP) {i : Nat} {x : Str} {px apos cpos pos : Pos} {e : Expr} {wv : WE} (hN : X.N[i]? = some x) (hv : Vis X.env.scope x) (h3 : (x == ("__debug__" : Str)) = false) (h4 : (x == ("__classdict__" : Str)) = false)
    (hx : okX e = true) (hl : (apos.endLine == cpos.line) = true) (he : PE X e (liftE C wv)) :
    PS X (.Expr (.Call (.Attribute (.Name x px) "extend" apos) [e] [] cpos) pos) (liftS C fun ρ M D => hasL ρ M i = true ∧ wv ρ M fun r ρ M => oP (escD r ρ) fun p => oP (extAt p.2 M i p.1) fun z => D.nx z.1 z.2) := by
  have h0 := pe_bm (cpos := cpos) (apos := apos) PySem.F.plainAttrs_list PySem.F.slot_list_extend PySem.F.type_list_extend mt_extend (pe_var (pos := px) hN hv h3 h4) (one_arg hx he) rfl (by
    rw [star_okX hx]; rfl) hl (star_okX hx _ _) rfl
  refine PS.imp (ps_expr h0 rfl) fun E σ H ⟨F, ρ, M, D, hr, ⟨hb, hw⟩, hd⟩ => ?_
  have hty : ∃ v, σ[i]? = some (some v) ∧ tyV X.K "list" v H := by
    unfold hasL at hb
    split at hb
    · rename_i ds hds
      obtain ⟨a, z1, ⟨xs, z2, z3⟩, _⟩ := hr.slo hds
      exact ⟨_, z1, Or.inl ⟨rfl, xs, Or.inl (Or.inl z2)⟩⟩
    · rename_i a hds
      split at hb
      · rename_i ds hM
        obtain ⟨v', z1, z2⟩ := hr.slv hds
        obtain ⟨rfl, xs, g1, g2⟩ := (hr.lstAt z1).2 a ds hds hM
        exact ⟨_, z1, Or.inl ⟨rfl, xs, Or.inl (Or.inl g1)⟩⟩
      · cases hb
    · cases hb
  obtain ⟨v, hσ, ty⟩ := hty
  refine ⟨v, hσ, ty, F, ρ, [], M, [], _, hr.nil, hr.len, hw, fun r ρ1 M1 F1 y H1 w s1 r1 => ?_⟩
  obtain ⟨⟨d, ρ2⟩, e1, w⟩ := oP_of w
  obtain ⟨F2, s2, h2, l2, rp⟩ := r1.esc e1
  simp only [List.nil_append] at h2
  have hb' := h2.pop_
  obtain ⟨⟨ρ4, M4⟩, e5, w6⟩ := oP_of w
  unfold extAt at e5
  split at e5
  · rename_i zs ds hdz hds
    have hdz : d = .lst zs := hdz
    subst hdz
    split at e5
    · rename_i lt
      cases e5
      obtain ⟨a, z1, ⟨xs, z2, z3⟩, _⟩ := hb'.slo hds
      rw [hσ] at z1; cases z1
      obtain ⟨b, ys, rfl, g1, g2⟩ := rep_lst.mp rp
      exact ⟨a, b, xs, ys, rfl, rfl, z2, hb'.mr.sub _ _ g1, by rw [z3.length, g2.length]; exact lt, hd.nx _ _ F2 _ _ w6 (Same.trans s1 s2) (hb'.wr hds hσ (z3.append g2))⟩
    · cases e5
  · cases e5

/-! ### x, y = e, f -/
def liftR (C : Gh) (w : Env → MH → (List Sl → Env → MH → Prop) → Prop) : TA := fun σ H Q => ∃ F ρ pd M pv P, R C F (ρ ++ pd) M (σ ++ pv) H ∧ ρ.length = σ.length ∧ w ρ M P ∧
  ∀ ss ρ' M' F' xs H', P ss ρ' M' → Same F F' → R C F' (ρ' ++ (pd ++ ss)) M' (σ ++ (pv ++ xs.map some)) H' → ρ'.length = σ.length → xs.length = ss.length → Q xs H'
theorem sndEr : ∀ (es : Es) {ps : List Expr}, Okc X C Γ κ c XP → chkEs c es ps = true → PA X ps (liftR C (wpEr Γ XP es))
  | .nil, ps, O, h => by
    unfold chkEs at h
    split at h
    · refine PA.imp pa_nil fun σ H Q ⟨F, ρ, pd, M, pv, P, hr, hl, hw, hk⟩ => ?_
      exact hk [] ρ M F [] H hw (Same.refl _) (by simpa using hr) hl rfl
    · cases h
  | .cons e es, ps, O, h => by
    unfold chkEs at h
    split at h
    · rename_i p ps
      simp only [Bool.and_eq_true] at h
      refine PA.imp (pa_cons (sndE e O h.1.2).pe (sndEr es O h.2) (star_okX h.1.1 ps X.env)) fun σ H Q ⟨F, ρ, pd, M, pv, P, hr, hl, hw, hk⟩ => ?_
      have hw : wpE Γ XP e ρ M fun r ρ M => oP (takeD r ρ) fun p => wpEr Γ XP es p.2 M fun ss ρ M => P (p.1 :: ss) ρ M := hw
      refine ⟨F, ρ, pd, M, pv, _, hr, hl, hw, fun r ρ1 M1 F1 x H1 w1 s1 r1 => ?_⟩
      obtain ⟨⟨s, ρ2⟩, e1, w2⟩ := oP_of w1
      obtain ⟨F2, s2, h2, l2⟩ := r1.take e1
      refine ⟨F2, ρ2, _, M1, _, _, h2, l2, w2, fun ss ρ3 M3 F3 xs H3 w3 s3 r3 l3 l4 => ?_⟩
      refine hk _ _ _ _ _ _ w3 (Same.trans (Same.trans s1 s2) s3) ?_ l3 (by simp [l4])
      simpa using r3
    · cases h
theorem R.mv {F : Hp} {ρ pd : Env} {s : Sl} {M : MH} {σ pv : St} {y : Option V} {H : Hp} {i : Nat} (h : R C F (ρ ++ (pd ++ [s])) M (σ ++ (pv ++ [y])) H) (hi : i < ρ.length) (l : ρ.length = σ.length) : R C F (ρ.set i s ++ pd) M (σ.set i y ++ pv) H := by
  rw [← List.append_assoc, ← List.append_assoc] at h
  have := h.move (i := i)
  rwa [List.set_append_left _ _ hi, List.set_append_left _ _ (by omega)] at this

/-! ### raise -/
theorem snd_rai {Γ : Kn} (O : Okc X C Γ κ c XP) {x : Str} {es : Es} {e : Expr} {p pos pos2 : Pos} (hg : Gl X x) (hd : (x == ("__debug__" : Str)) = false) (hx : okX e = true) (hc : chkEs c es [e] = true) (ha : PA X [e] (liftA C (wpEs Γ XP es))) :
    PS X (.Raise (some (.Call (.Name x p) [e] [] pos)) none pos2) (liftS C fun ρ M D => wpS Γ XP (.rai x es) ρ M D) := by
  cases hE : Γ.exc x with
  | none => exact ⟨fun pins s σ H D I ⟨_, _, _, _, _, z, _⟩ => by
      unfold wpS at z
      rw [hE] at z
      exact z.elim⟩
  | some at_ =>
    obtain ⟨Cc, hm, hk⟩ := O.ex x at_ hE
    cases at_ with
    | none =>
      obtain ⟨k1, k2, k3, k4⟩ := hk
      cases hes : es.isTx with
      | true =>
        have he : ∃ m j q, e = .Constant (.str m) j q := by
          unfold Es.isTx at hes
          split at hes
          · unfold chkEs at hc
            simp only [Bool.and_eq_true] at hc
            obtain ⟨⟨_, h2⟩, _⟩ := hc
            unfold chkE at h2
            split at h2
            · rename_i kk _ _
              unfold cstOk at h2
              split at h2 <;> first | (rename_i e1 e2; cases e1) | skip
              all_goals first | exact ⟨_, _, _, rfl⟩ | cases h2
            · cases h2
          · cases hes
        obtain ⟨m, j, q, rfl⟩ := he
        refine PS.imp (L2N.ps_raise (pos := pos2) O.calm O.xp (L2N.pmk_own (m := m) (j := j) (p := p) (p2 := q) (pos := pos) PySem.F.excBase_ValueError k2 hm k1 (raises_own k3 k4) hg hd)) fun E σ H ⟨F, ρ, M, D, hr, hw, hdd⟩ => ?_
        unfold wpS at hw
        rw [hE] at hw
        exact ⟨⟨x, none⟩, F, M, hr.end_, ⟨Cc, by rw [O.mg]; exact hm, rfl, rfl⟩, hw.2⟩
      | false => exact ⟨fun pins s σ H D I ⟨_, _, _, _, _, z, _⟩ => by
          unfold wpS at z
          rw [hE] at z
          have z : es.isTx = true ∧ _ := z
          rw [hes] at z
          cases z.1⟩
    | some n =>
      obtain ⟨T, fI, fd, k, ps, h1, h2, h3, h4, h5⟩ := hk
      refine PS.imp (L2N.ps_raise (pos := pos2) O.calm O.xp (pmk_oexN (p := p) (pos := pos) T h1 h2 h3 (O.room.mono h4) h5 .nil pass0 hg hm ha hd (star_okX hx _ _) (by rfl))) fun E σ H ⟨F, ρ, M, D, hr, hw, hdd⟩ => ?_
      unfold wpS at hw
      rw [hE] at hw
      refine ⟨F, ρ, [], M, [], _, hr.nil, hr.len, hw, fun ds ρ1 M1 F1 xs H1 w1 s1 r1 l1 rps => ?_⟩
      split at w1
      · rename_i d
        obtain ⟨v, rfl, hv⟩ := rps.one
        refine ⟨by simp, fun a ha => ⟨a, v, rfl, upd_same, fun dx hdx hne => ?_⟩⟩
        have hdx' : H1 dx = none := by rw [upd_ne hne] at hdx; exact hdx
        refine ⟨rfl, dx, [(n, v)], upd_same, by rw [upd_ne hne, upd_same], hdx', ?_⟩
        have eH : upd (del (upd (upd (upd H1 a (exo a Cc none)) dx (exd dx [(n, v)])) a (exo a Cc (some dx))) a) dx (.xd [(n, v)]) = upd H1 dx (.xd [(n, v)]) := by
          funext b
          by_cases hb : b = dx
          · subst hb; rw [upd_same, upd_same]
          · rw [upd_ne hb, upd_ne hb]
            by_cases hb2 : b = a
            · subst hb2; rw [del_same, ha]
            · rw [del_ne hb2, upd_ne hb2, upd_ne hb, upd_ne hb2]
        rw [eH]
        have r2 := (r1.unnil).ext (same_upd (u := .xd [(n, v)]) hdx')
        exact ⟨⟨x, some (n, d)⟩, F1, M1, r2.end_, ⟨Cc, by rw [O.mg]; exact hm, rfl, dx, v, rfl, upd_same, hv⟩, w1⟩
      · exact w1.elim
end
end Mi

set_option maxHeartbeats 8000000
/-! Mi17: stores of several names; a checked text does what its wp says. -/
namespace Mi
open PySem PySem.Spec PyProof.Rows L2
theorem star_any {es : List Expr} (h : ∀ e ∈ es, okX e = true) : (es.any fun | .Starred .. => true | _ => false) = false := by
  rw [List.any_eq_false]
  intro e he
  have := h e he
  cases e <;> first | exact Bool.false_ne_true | cases this
theorem sw_par2 {env : PySem.Env} {x y : Str} {px py pt p2 : Pos} {kt k2 : Nat} {a b : Expr} (hf : env.blockKind = .function) (hx : env.kindOf x = some .local) (hy : env.kindOf y = some .local) (hxy : x ≠ y) (ly : py.line = px.line)
    (hab : ∀ e ∈ [a, b], okX e = true) (h1 : [a, b].all (foldedForSure 8) = false) (h2 : [a, b].all (constantsAlone 8) = false) :
    swappedStores [.Tuple [.Name x px, .Name y py] kt pt] (.Tuple [a, b] k2 p2) env = pure (some [x, y]) := by
  have hst := star_any hab
  have e1 : ([Expr.Name x px, Expr.Name y py].filterMap fun
    | .Name id pos => if env.kindOf id == some .local && pos.line == px.line then some id else none
    | _ => none) = [x, y] := by
    simp [List.filterMap_cons, hx, hy, ly]
  have e2 : [x, y].eraseDups = [x, y] := by
    have nxy : (y == x) = false := by simpa using Ne.symm hxy
    simp [List.eraseDups_cons, nxy, hxy, Ne.symm hxy]
  have key : ∀ names : List Str, names = [x, y] → (if (names.length != 2 || names.eraseDups.length != names.length) = true then (pure none : Sem (Option (List Str))) else if [a, b].all (foldedForSure 8) = true then pure none else
      if [a, b].all (constantsAlone 8) = true then (do unsupported "assign.tuple-of-constant-expressions:order-of-the-stores"; pure (some names)) else pure (some names)) = pure (some [x, y]) := by
    rintro _ rfl
    rw [e2, h1, h2]
    rfl
  unfold swappedStores
  simp only [hf, List.length_cons, List.length_nil]
  show (if ([a, b].any fun | .Starred .. => true | _ => false) = true then pure none else _) = _
  rw [hst, if_neg Bool.false_ne_true]
  exact key _ e1
theorem sw_par3 {env : PySem.Env} {x y z : Str} {px py pz pt p2 : Pos} {kt k2 : Nat} {a b d : Expr} (hf : env.blockKind = .function) (hx : env.kindOf x = some .local) (hy : env.kindOf y = some .local) (hz : env.kindOf z = some .local) (hxy : x ≠ y) (hxz : x ≠ z) (hyz : y ≠ z) (ly : py.line = px.line) (lz : pz.line = px.line)
    (hab : ∀ e ∈ [a, b, d], okX e = true) (h1 : [a, b, d].all (foldedForSure 8) = false) (h2 : [a, b, d].all (constantsAlone 8) = false) :
    swappedStores [.Tuple [.Name x px, .Name y py, .Name z pz] kt pt] (.Tuple [a, b, d] k2 p2) env = pure (some [x, y, z]) := by
  have hst := star_any hab
  have e1 : ([Expr.Name x px, Expr.Name y py, Expr.Name z pz].filterMap fun
    | .Name id pos => if env.kindOf id == some .local && pos.line == px.line then some id else none
    | _ => none) = [x, y, z] := by
    simp [List.filterMap_cons, hx, hy, hz, ly, lz]
  have e2 : [x, y, z].eraseDups = [x, y, z] := by
    have nxy : (y == x) = false := by simpa using Ne.symm hxy
    have nxz : (z == x) = false := by simpa using Ne.symm hxz
    have nyz : (z == y) = false := by simpa using Ne.symm hyz
    simp [List.eraseDups_cons, nxy, hxy, Ne.symm hxy, nxz, hxz, Ne.symm hxz, nyz, hyz, Ne.symm hyz]
  have key : ∀ names : List Str, names = [x, y, z] → (if (names.length != 3 || names.eraseDups.length != names.length) = true then (pure none : Sem (Option (List Str))) else if [a, b, d].all (foldedForSure 8) = true then pure none else
      if [a, b, d].all (constantsAlone 8) = true then (do unsupported "assign.tuple-of-constant-expressions:order-of-the-stores"; pure (some names)) else pure (some names)) = pure (some [x, y, z]) := by
    rintro _ rfl
    rw [e2, h1, h2]
    rfl
  unfold swappedStores
  simp only [hf, List.length_cons, List.length_nil]
  show (if ([a, b, d].any fun | .Starred .. => true | _ => false) = true then pure none else _) = _
  rw [hst, if_neg Bool.false_ne_true]
  exact key _ e1

theorem sw_no {ts : List Expr} {k : Nat} {p : Pos} {v : Expr} {env : PySem.Env} (h : noSw v = true) : swappedStores [.Tuple ts k p] v env = pure none := by
  cases v with
  | Tuple vs k2 p2 =>
    have h : vs.all (foldedForSure 8) = true := h
    unfold swappedStores
    simp only [h]
    split
    · rfl
    · split
      · rfl
      · split
        · rfl
        · rfl
  | _ => rfl

theorem filter_lt {α β : Type} {f : α → Option β} : ∀ {l : List α}, l.any (fun a => (f a).isNone) = true → (l.filterMap f).length < l.length
  | [], h => by cases h
  | a :: l, h => by
    rw [List.any_cons, Bool.or_eq_true] at h
    have hle : (l.filterMap f).length ≤ l.length := List.length_filterMap_le _ _
    cases w : f a with
    | none => rw [List.filterMap_cons_none w]; exact Nat.lt_succ_of_le hle
    | some b =>
      rw [List.filterMap_cons_some w]
      rcases h with h | h
      · rw [w] at h; cases h
      · have := filter_lt h; simp only [List.length_cons]; omega
theorem sw_nl {ts : List Expr} {k : Nat} {p : Pos} {v : Expr} {env : PySem.Env} (h : nonLoc env.scope ts = true) : swappedStores [.Tuple ts k p] v env = pure none := by
  have key : ∀ l : Nat, (ts.filterMap fun
      | .Name id pos => if env.kindOf id == some .local && pos.line == l then some id else none
      | _ => none).length < ts.length := by
    intro l
    refine filter_lt ?_
    unfold nonLoc at h
    rw [List.any_eq_true] at h ⊢
    obtain ⟨t, ht, h⟩ := h
    refine ⟨t, ht, ?_⟩
    cases t with
    | Name x px =>
      have h : (!isLoc env.scope x) = true := h
      have e : (env.kindOf x == some .local) = false := by
        cases q : (env.kindOf x == some .local) with
        | false => rfl
        | true =>
          have : env.scope.names.lookup x = some .local := eq_of_beq q
          unfold isLoc at h
          rw [decide_eq_true this] at h; cases h
      simp [e]
    | _ => rfl
  cases v with
  | Tuple vs k2 p2 =>
    have ne : ∀ l : Nat, ((ts.filterMap fun
      | .Name id pos => if env.kindOf id == some .local && pos.line == l then some id else none
      | _ => none).length != ts.length) = true := fun l => by simpa using Nat.ne_of_lt (key l)
    unfold swappedStores
    simp only
    split
    · rfl
    · split
      · rfl
      · exact if_pos ((Bool.or_eq_true _ _).mpr (.inl (ne _)))
  | _ => rfl
section
variable {X : Cx} {C : Gh} {Γ : Kn} {κ : Nat} {c : Cs} {XP : PX}
theorem kind_blk (O : Okc X C Γ κ c XP) (h : kindFn c.sc = true) : X.env.blockKind = .function := by
  unfold kindFn at h
  rw [← O.sc] at h
  unfold Env.blockKind
  split at h
  · rename_i e; rw [e]; rfl
  · cases h
theorem loc_of (O : Okc X C Γ κ c XP) {x : Str} (h : isLoc c.sc x = true) : X.env.scope.names.lookup x = some .local := by
  rw [O.sc]; exact of_decide_eq_true h
theorem snd_asgL (O : Okc X C Γ κ c XP) {is : List Nat} {ts vs : List Expr} {k k2 : Nat} {p p2 pos : Pos} {es : Es} (hp : parOk c is ts vs = true) (h : chkEs c es vs = true) :
    PS X (.Assign [.Tuple ts k p] (.Tuple vs k2 p2) pos) (liftS C fun ρ M D => wpEr Γ XP es ρ M fun ss ρ M => is.length = ss.length ∧ D.nx (setAll ρ (is.zip ss)) M) := by
  unfold parOk at hp
  simp only [Bool.and_eq_true, Bool.not_eq_true'] at hp
  obtain ⟨⟨⟨h0, h1⟩, h2⟩, h3⟩ := hp
  have hb := kind_blk O h0
  have hes := chkEs_ok h
  have hpa := sndEr (es := es) O h
  split at h3
  · rename_i i j x px y py a b
    simp only [Bool.and_eq_true, decide_eq_true_eq] at h3
    obtain ⟨⟨⟨⟨⟨⟨g1, g2⟩, g3⟩, g4⟩, g5⟩, g6⟩, g7⟩ := h3
    have hx := loc_of O g6
    have hy := loc_of O g7
    rw [← O.N] at g4 g5
    have h4 := ps_par (kt := k) (pt := p) (k2 := k2) (pt2 := p2) (pos := pos) O.calm O.nd g4 g5 g1 hx hy hpa (sw_par2 hb hx hy g2 g3.symm hes h1 h2) rfl
    refine ⟨fun pins s σ H E I ⟨F, ρ, M, D, hr, hw, hd⟩ => h4.run pins s σ H E I ?_⟩
    have hlen := I.len
    have li : i < σ.length := by rw [hlen]; exact (List.getElem?_eq_some_iff.mp g4).1
    have lj : j < σ.length := by rw [hlen]; exact (List.getElem?_eq_some_iff.mp g5).1
    refine ⟨F, ρ, [], M, [], _, hr.nil, hr.len, hw, fun ss ρ1 M1 F1 xs H1 ⟨w1, w2⟩ s1 r1 l1 l2 => ?_⟩
    match ss, xs, l2, w1 with
    | [s1', s2'], [v1, v2], _, _ =>
      refine ⟨v1, v2, rfl, hd.nx _ _ F1 _ _ w2 s1 ?_⟩
      have e1 : R C F1 (ρ1 ++ ([s1'] ++ [s2'])) M1 (σ ++ ([some v1] ++ [some v2])) H1 := by simpa using r1
      have e2 := e1.mv (i := j) (by omega) l1
      have e3 := (show R C F1 (ρ1.set j s2' ++ ([] ++ [s1'])) M1 (σ.set j (some v2) ++ ([] ++ [some v1])) H1 from e2).mv (i := i) (by simp; omega) (by simp [l1])
      have e4 := e3.unnil
      rw [List.set_comm _ _ (Ne.symm g1), List.set_comm _ _ (Ne.symm g1)] at e4
      exact e4
  · rename_i i j l x px y py z pz a b d
    simp only [Bool.and_eq_true, decide_eq_true_eq] at h3
    obtain ⟨⟨⟨⟨⟨⟨⟨⟨⟨⟨⟨⟨⟨g1, g2⟩, g3⟩, n1⟩, n2⟩, n3⟩, m1⟩, m2⟩, g4⟩, g5⟩, g6⟩, q1⟩, q2⟩, q3⟩ := h3
    have hx := loc_of O q1
    have hy := loc_of O q2
    have hz := loc_of O q3
    rw [← O.N] at g4 g5 g6
    have h4 := ps_par3 (kt := k) (pt := p) (k2 := k2) (pt2 := p2) (pos := pos) O.calm O.nd g4 g5 g6 g1 g2 g3 hx hy hz hpa (sw_par3 hb hx hy hz n1 n2 n3 m1.symm m2.symm hes h1 h2) rfl
    refine ⟨fun pins s σ H E I ⟨F, ρ, M, D, hr, hw, hd⟩ => h4.run pins s σ H E I ?_⟩
    have hlen := I.len
    have li : i < σ.length := by rw [hlen]; exact (List.getElem?_eq_some_iff.mp g4).1
    have lj : j < σ.length := by rw [hlen]; exact (List.getElem?_eq_some_iff.mp g5).1
    have ll : l < σ.length := by rw [hlen]; exact (List.getElem?_eq_some_iff.mp g6).1
    refine ⟨F, ρ, [], M, [], _, hr.nil, hr.len, hw, fun ss ρ1 M1 F1 xs H1 ⟨w1, w2⟩ s1 r1 l1 l2 => ?_⟩
    match ss, xs, l2, w1 with
    | [s1', s2', s3'], [v1, v2, v3], _, _ =>
      refine ⟨v1, v2, v3, rfl, hd.nx _ _ F1 _ _ w2 s1 ?_⟩
      have e1 : R C F1 (ρ1 ++ ([s1', s2'] ++ [s3'])) M1 (σ ++ ([some v1, some v2] ++ [some v3])) H1 := by simpa using r1
      have e2 := e1.mv (i := l) (by omega) l1
      have e3 := (show R C F1 (ρ1.set l s3' ++ ([s1'] ++ [s2'])) M1 (σ.set l (some v3) ++ ([some v1] ++ [some v2])) H1 from e2).mv (i := j) (by simp; omega) (by simp [l1])
      have e4 := (show R C F1 ((ρ1.set l s3').set j s2' ++ ([] ++ [s1'])) M1 ((σ.set l (some v3)).set j (some v2) ++ ([] ++ [some v1])) H1 from e3).mv (i := i) (by simp; omega) (by simp [l1])
      have e5 := e4.unnil
      rw [List.set_comm (i := l) (j := j) _ _ (Ne.symm g3), List.set_comm (i := l) (j := j) _ _ (Ne.symm g3), List.set_comm (i := l) (j := i) _ _ (Ne.symm g2), List.set_comm (i := l) (j := i) _ _ (Ne.symm g2),
        List.set_comm (i := j) (j := i) _ _ (Ne.symm g1), List.set_comm (i := j) (j := i) _ _ (Ne.symm g1)] at e5
      exact e5
  · cases h3
end

mutual
theorem sndS {Γ : Kn} {X : Cx} {C : Gh} {κ : Nat} {c : Cs} {XP : PX} (O : Okc X C Γ κ c XP) (po : PassesOwn (model X.prog X.w) X.A X.env X.xe) : ∀ (s : S) {st : Stmt}, chkS c s st = true → PS X st (liftS C (wpS Γ XP s))
  | .asg i e, st, h => by
    unfold chkS at h
    split at h
    · simp only [Bool.and_eq_true] at h
      obtain ⟨g1, g2, g3⟩ := O.loc h.1
      exact snd_asg ((sndE e O h.2).st _ _ _ _ g1 g2 g3)
    · cases h
  | .asgL is es, st, h => by
    unfold chkS at h
    split at h
    · simp only [Bool.and_eq_true] at h
      exact snd_asgL O h.1 h.2
    · cases h
  | .asgU is e, st, h => by
    unfold chkS at h
    split at h
    · simp only [Bool.and_eq_true] at h
      refine snd_asgU (O.tg h.1.1) (sndE e O h.2).pe ?_
      rcases (Bool.or_eq_true _ _).mp h.1.2 with z | z
      · exact sw_no z
      · exact sw_nl (by rw [O.sc]; exact z)
    · cases h
  | .asgIx i k e, st, h => by
    unfold chkS at h
    split at h
    · simp only [Bool.and_eq_true] at h
      obtain ⟨g1, g2, g3, g4⟩ := O.var h.1.1.1
      exact snd_asgIx O g1 g2 g3 g4 h.1.1.2 (sndE k O h.1.2).pe (sndE e O h.2).pe
    · cases h
  | .asgI2 i k l e, st, h => by
    unfold chkS at h
    split at h
    · simp only [Bool.and_eq_true] at h
      obtain ⟨⟨⟨⟨⟨⟨⟨h1, h2⟩, h3⟩, h4⟩, h5⟩, h6⟩, h7⟩, h8⟩ := h
      obtain ⟨g1, g2, g3, g4⟩ := O.var h1
      obtain ⟨g5, g6, g7, g8⟩ := O.var h2
      exact snd_asgI2 O g1 g2 g3 g4 g5 g6 g7 g8 h3 h4 h8 (sndE k O h5).pe (sndE l O h6).pe (sndE e O h7).pe
    · cases h
  | .app i e, st, h => by
    unfold chkS at h
    split at h
    · simp only [Bool.and_eq_true, decide_eq_true_eq] at h
      obtain ⟨⟨⟨⟨rfl, h1⟩, h2⟩, h3⟩, h4⟩ := h
      obtain ⟨g1, g2, g3, g4⟩ := O.var h1
      exact snd_app O g1 g2 g3 g4 h2 h4 (sndE e O h3).pe
    · cases h
  | .ext i e, st, h => by
    unfold chkS at h
    split at h
    · simp only [Bool.and_eq_true, decide_eq_true_eq] at h
      obtain ⟨⟨⟨⟨rfl, h1⟩, h2⟩, h3⟩, h4⟩ := h
      obtain ⟨g1, g2, g3, g4⟩ := O.var h1
      exact snd_ext O g1 g2 g3 g4 h2 h4 (sndE e O h3).pe
    · cases h
  | .exp e, st, h => by
    unfold chkS at h
    split at h
    · simp only [Bool.and_eq_true] at h
      exact snd_exp (sndE e O h.2).pe h.1
    · cases h
  | .ife d a b, st, h => by
    unfold chkS at h
    split at h
    · simp only [Bool.and_eq_true] at h
      exact snd_ife (sndE d O h.1.1).pt (sndSs O po a h.1.2) (sndSs O po b h.2)
    · cases h
  | .for_ t it b, st, h => by
    unfold chkS at h
    split at h
    · simp only [Bool.and_eq_true] at h
      exact snd_for O po h.1.1.2 (O.tg h.1.1.1) (sndItF it O h.1.2) (sndSs O po b h.2)
    · cases h
  | .whl d b, st, h => by
    unfold chkS at h
    split at h
    · simp only [Bool.and_eq_true] at h
      exact snd_whl po (sndE d O h.1).pt (sndSs O po b h.2)
    · cases h
  | .ret e, st, h => by
    unfold chkS at h
    split at h
    · exact snd_ret (sndE e O h).pe
    · cases h
  | .retN, st, h => by
    unfold chkS at h
    split at h
    · exact snd_retN
    · cases h
  | .rai x es, st, h => by
    unfold chkS at h
    split at h
    · simp only [Bool.and_eq_true, decide_eq_true_eq] at h
      obtain ⟨⟨⟨rfl, h1⟩, h2⟩, h3⟩ := h
      obtain ⟨g1, g2⟩ := O.glb h1
      exact snd_rai O g1 g2 h2 h3 (sndEs es O h3)
    · cases h
  | .pas, st, h => by
    unfold chkS at h
    split at h
    · exact snd_pas ps_pass
    · exact snd_pas ps_doc
    · cases h
  | .nev, st, h => snd_nev
theorem sndSs {Γ : Kn} {X : Cx} {C : Gh} {κ : Nat} {c : Cs} {XP : PX} (O : Okc X C Γ κ c XP) (po : PassesOwn (model X.prog X.w) X.A X.env X.xe) : ∀ (ss : Ss) {sts : List Stmt}, chkSs c ss sts = true → PSs X sts (liftS C (wpSs Γ XP ss))
  | .nil, sts, h => by
    unfold chkSs at h
    split at h
    · refine PSs.imp pss_nil fun E σ H ⟨F, ρ, M, D, hr, hw, hd⟩ => ?_
      exact hd.nx _ _ F _ _ hw (Same.refl _) hr
    · cases h
  | .cons s ss, sts, h => by
    unfold chkSs at h
    split at h
    · simp only [Bool.and_eq_true] at h
      refine PSs.imp (pss_cons (sndS O po s h.1) (sndSs O po ss h.2)) fun E σ H ⟨F, ρ, M, D, hr, hw, hd⟩ => ?_
      refine ⟨F, ρ, M, { D with nx := fun ρ M => wpSs Γ XP ss ρ M D }, hr, hw, ?_, hd.rt, hd.bk, hd.ct⟩
      exact fun ρ1 M1 F1 σ1 H1 w1 s1 r1 => ⟨F1, ρ1, M1, D, r1, w1, hd.mono s1⟩
    · cases h
end
end Mi

set_option maxHeartbeats 8000000
/-! Mi18: a def keeps its promise; knowledge as lists. -/
namespace Mi
open PySem PySem.Spec PyProof.Rows L2

def getF {α : Type} (f : Str) : List (Str × α) → Option α
  | [] => none
  | p :: l => if p.1 = f then some p.2 else getF f l
/-- what holds of all in a list -/
def AllP {α : Type} (P : Str → α → Prop) : List (Str × α) → Prop
  | [] => True
  | p :: l => P p.1 p.2 ∧ AllP P l
theorem AllP.get {α : Type} {P : Str → α → Prop} : ∀ {l : List (Str × α)} {f : Str} {S : α}, AllP P l → getF f l = some S → P f S
  | [], _, _, _, e => by cases e
  | p :: l, f, S, h, e => by
    unfold getF at e
    split at e
    · rename_i e1; cases e; exact e1 ▸ h.1
    · exact AllP.get h.2 e
/-- knowledge as lists: the defs called; the constants; the tables -/
def kn (fs : List (Str × Spec)) (gs : List (Str × Dat)) (ts : List (Str × List (Str × Dat))) (es : List (Str × Option Str) := []) (ks : List (Str × Str × Option Str) := []) : Kn := { fn := fun f => getF f fs, exc := fun c => getF c es, gl := fun x => getF x gs, tab := fun t => getF t ts, kd := fun c => getF c ks }

/-- a constant of the module -/
def Gk (K : PySem.W.Frag) (mg : Str → Option Value) (x : Str) (d : Dat) : Prop := ∃ u v, mg x = some u ∧ RelV v u ∧ Rep K mg (fun _ => none) d v

section
variable {P : Program} {w : World} {K : PySem.W.Frag} {mg : Str → Option Value} {T : List (Addr × Str)} {base : Heap}
theorem Fk.mono {κ κ' : Nat} {f : Str} {S : Spec} (h : Fk P w K mg T base κ f S) (l : κ ≤ κ') : Fk P w K mg T base κ' f S := by
  obtain ⟨k, a, fd, ps, hk, r⟩ := h
  exact ⟨k, a, fd, ps, Nat.le_trans hk l, r⟩
theorem fk_of {Γ : Kn} {κ : Nat} {x qual : Str} {params : Arguments} {body : List Stmt} {scope : Scope} {kws : List (Str × V)} {f : Addr} {fd : FuncData} {N ps : List Str} {ss : Ss} {Sx : Spec}
    (F : FunD K x qual params body scope [] kws f fd) (hm : mg x = some (.ref f)) (Sc : FnScope N ps scope) (hb : Binds K fd ps [])
    (chk : chkSs ⟨N, scope, scope, false⟩ ss body = true) (kept : Keeps Γ N.length ps.length ss Sx)
    (fn : ∀ f S, Γ.fn f = some S → Fk P w K mg T base κ f S) (gl : ∀ x d, Γ.gl x = some d → Gk K mg x d) (bt : ∀ x, x ∈ btNames → mg x = none) (tb : ∀ t l, Γ.tab t = some l → Tk K w mg t l)
    (ex : ∀ c a, Γ.exc c = some a → Ek P w K mg base κ c a) :
    Fk P w K mg T base (κ + 1) x Sx := by
  refine ⟨κ + 1, f, fd, ps, Nat.le_refl _, fun ds M Q X h => (kept ds M Q X h).1, hm, F.kp, hb, F.ok Sc ?_ ?_⟩
  · rintro vs H Q E ⟨F0, M, ds, Q0, X0, hmr, hr, hl, _⟩
    rw [hr.length, hl]
  · rintro cdv A outer s H vs Q E hroom ⟨F0, M, ds, Q0, X0, hmr, hr, hl, hpre, hpost, hx⟩
    have hvl := hr.length
    let C : Gh := ⟨K, mg, T, H, F0, M⟩
    have O : Okc (cxOf (L2N.CX P w) P w K mg base N qual scope f cdv A outer s H E) C Γ κ ⟨N, scope, scope, false⟩ X0 :=
      { K := rfl, mg := rfl, N := rfl, sc := rfl, nd := Sc.nd, calm := rfl, room := hroom, fn := fn, gl := gl, bt := bt, tb := tb, ex := ex
        xp := (L2N.takes_of rfl rfl rfl rfl).imp fun c d σ H' ⟨e, F', M', h1, h2, h3⟩ => hx e M' F' c d H' h3 h1 h2
        lk := fun z => nomatch z
        rl := fun x h => h
        rc := fun x h => ⟨h, rfl⟩ }
    refine ⟨_, sndSs O (passes_of rfl) ss chk, F0, startE N.length ds, M, { nx := fun _ M' => Q0 (.val .non) M', rt := Q0 }, ?_, (kept ds M Q0 X0 hpre).2, ?_, ?_, fun _ _ _ _ _ z => z.elim, fun _ _ _ _ _ z => z.elim⟩
    · have hpl : ps.length ≤ N.length := by have := congrArg List.length Sc.pre; rw [List.length_take] at this; omega
      exact MR.start hmr hr N.length (by omega)
    · intro ρ M' F' σ H' h s' r
      exact hpost (.val .non) M' F' .non H' h r.end_ ((rep_non (K := K) (mg := mg) (F := F')).mpr rfl)
    · intro q M' F' x H' h1 h2 h3
      exact hpost q M' F' x H' h1 h2 h3
end

/-! ### the law -/
/-- the law's promise: true -/
def lawSpec (n : Nat) : Spec := fun ds M Q _ => (∃ ns : List Int, ds = [.scr ns] ∧ ns.length ≤ n) ∧ ∀ M', Q (.val (.bl true)) M'
/-- all but the tables -/
def hideT (T : List (Addr × Str)) (H : Hp) : Hp := fun b => if b ∈ T.map (·.1) then none else H b
theorem hideT_sub {T : List (Addr × Str)} {H : Hp} : Same (hideT T H) H := fun b o e => by
  unfold hideT at e
  split at e
  · cases e
  · exact e
theorem hideT_at {T : List (Addr × Str)} {H : Hp} {a : Addr} {o : HO} (t : LamX.Tabs T H) (e : H a = some o) (n : ∀ ps, o ≠ .tbl ps) : hideT T H a = some o := by
  unfold hideT
  rw [if_neg (fun z => by
    obtain ⟨p, hp, e2⟩ := List.mem_map.mp z
    obtain ⟨ps, e3⟩ := tabs_at t hp
    rw [e2, e] at e3
    exact n ps (Option.some.inj e3))]
  exact e
theorem sqL_hide {K : PySem.W.Frag} {T : List (Addr × Str)} {H : Hp} {a : Addr} {xs : List V} (t : LamX.Tabs T H) (h : SqL K H a xs) : SqL K (hideT T H) a xs := by
  rcases h with (h | ⟨o, h⟩) | h
  · exact .inl (.inl (hideT_at t h fun _ z => nomatch z))
  · exact .inl (.inr ⟨o, hideT_at t h fun _ z => nomatch z⟩)
  · exact .inr h
theorem law_sp {K : PySem.W.Frag} {mg : Str → Option Value} {T : List (Addr × Str)} {n : Nat} {H : Hp} {a : Addr} {ns : List Int} (t : LamX.Tabs T H) (hn : ns.length ≤ n) (hS : SqL K H a (ns.map V.int)) :
    spOf K mg T 1 (lawSpec n) [.ref a] H (fun v _ => v = .bl true) fun _ _ _ => False := by
  refine ⟨hideT T H, fun _ => none, [.scr ns], (fun r _ => r = .val (.bl true)), (fun _ _ => False), ⟨hideT_sub, (fun a o z => nomatch z), fun a z => absurd rfl z, t, fun p hp => ?_⟩, Reps.cons (rep_scr.mpr ⟨a, rfl, sqL_hide t hS⟩) Reps.nil, rfl, ⟨⟨ns, rfl, hn⟩, fun _ => rfl⟩, ?_, fun _ _ _ _ _ _ z => z.elim⟩
  · unfold hideT
    rw [if_pos (List.mem_map.mpr ⟨p, hp, rfl⟩)]
  · rintro r M' F' v H' rfl _ h
    exact (rep_bl (K := K) (mg := mg) (F := F')).mp h

/-! ### promises by ghosts -/
/-- of the arguments d a with ok a: the result out a, nothing else changed -/
def pur {α : Type} (d : α → List Dat) (ok : α → Prop) (out : α → Rv) : Spec := fun ds M Q _ => ∃ a, ds = d a ∧ ok a ∧ Q (out a) M
/-- the same, or an error -/
def exD (X : PX) (P : Rv → MH → Prop) (M : MH) : Except Exc Rv → Prop
  | .ok r => P r M
  | .error e => X e M
@[simp] theorem exD_ok (X : PX) (P : Rv → MH → Prop) (M : MH) (r : Rv) : exD X P M (.ok r) = P r M := id rfl
@[simp] theorem exD_er (X : PX) (P : Rv → MH → Prop) (M : MH) (e : Exc) : exD X P M (.error e) = X e M := id rfl
def purX {α : Type} (d : α → List Dat) (ok : α → Prop) (out : α → Except Exc Rv) : Spec := fun ds M Q X => ∃ a, ds = d a ∧ ok a ∧ exD X Q M (out a)
theorem pur_call {α : Type} {d : α → List Dat} {ok : α → Prop} {out : α → Rv} {ds : List Dat} {M : MH} {X : PX} {P : Rv → MH → Prop} (a : α) (h : ds = d a) (ho : ok a) (hP : P (out a) M) : ∃ Q0, pur d ok out ds M Q0 X ∧ ∀ r M', Q0 r M' → P r M' :=
  ⟨P, ⟨a, h, ho, hP⟩, fun _ _ h => h⟩
end Mi

set_option maxHeartbeats 8000000
/-! Mi19: proofs at the small machine: monotone, loops, steps. -/
namespace Mi
open PySem PySem.Spec PyProof.Rows L2

structure Dm.le (D D' : Dm) : Prop where
  nx : ∀ ρ M, D.nx ρ M → D'.nx ρ M
  rt : ∀ r M, D.rt r M → D'.rt r M
  bk : ∀ ρ M, D.bk ρ M → D'.bk ρ M
  ct : ∀ ρ M, D.ct ρ M → D'.ct ρ M
theorem Dm.le.refl (D : Dm) : D.le D := ⟨fun _ _ h => h, fun _ _ h => h, fun _ _ h => h, fun _ _ h => h⟩

theorem forLoop_mono {body body' : Dat → Env → MH → Dm → Prop} (hb : ∀ d ρ M D D', D.le D' → body d ρ M D → body' d ρ M D') :
    ∀ (ds : List Dat) {ρ : Env} {M : MH} {D D' : Dm}, D.le D' → forLoop body ds ρ M D → forLoop body' ds ρ M D'
  | [], ρ, M, D, D', l, h => l.nx _ _ h
  | d :: ds, ρ, M, D, D', l, h => by
    unfold forLoop at h ⊢
    refine hb d ρ M _ _ ?_ h
    exact ⟨fun ρ M h => forLoop_mono hb ds l h, l.rt, l.nx, fun ρ M h => forLoop_mono hb ds l h⟩
theorem wpEr_mono {Γ : Kn} {X : PX} : ∀ (es : Es) {ρ : Env} {M : MH} {P P' : List Sl → Env → MH → Prop}, (∀ r ρ M, P r ρ M → P' r ρ M) → wpEr Γ X es ρ M P → wpEr Γ X es ρ M P'
  | .nil, ρ, M, P, P', f, h => by unfold wpEr at h ⊢; exact f _ _ _ h
  | .cons e es, ρ, M, P, P', f, h => by
    unfold wpEr at h ⊢
    exact wpE_mono e (fun _ _ _ h => oP_mono h fun _ _ h => wpEr_mono es (fun _ _ _ => f _ _ _) h) h
section
variable {Γ : Kn} {X : PX}
mutual
theorem wpS_mono : ∀ (s : S) {ρ : Env} {M : MH} {D D' : Dm}, D.le D' → wpS Γ X s ρ M D → wpS Γ X s ρ M D'
  | .asg i e, ρ, M, D, D', l, h => by unfold wpS at h ⊢; exact wpE_mono e (fun _ _ _ h => oP_mono h fun _ _ => l.nx _ _) h
  | .asgL is es, ρ, M, D, D', l, h => by unfold wpS at h ⊢; exact wpEr_mono es (fun _ _ _ h => ⟨h.1, l.nx _ _ h.2⟩) h
  | .asgU is e, ρ, M, D, D', l, h => by unfold wpS at h ⊢; exact wpE_mono e (fun _ _ _ h => oP_mono h fun _ _ h => oP_mono h fun _ _ => l.nx _ _) h
  | .asgIx i k e, ρ, M, D, D', l, h => by
    unfold wpS at h ⊢
    exact wpE_mono e (fun _ _ _ h => oP_mono h fun p _ h => ⟨h.1, wpE_mono k (fun q ρ M h => oP_mono h fun _ _ h => oP_mono h fun n _ h => oP_mono h fun _ _ => l.nx _ _) h.2⟩) h
  | .asgI2 i k l e, ρ, M, D, D', ll, h => by
    unfold wpS at h ⊢
    refine wpE_mono e (fun _ _ _ h => oP_mono h fun d _ h => ?_) h
    split at h
    · exact ⟨h.1, wpE_mono k (fun q ρ M h => oP_mono h fun _ _ h => oP_mono h fun n _ h => oP_mono h fun _ _ h => ⟨h.1, wpE_mono l (fun q ρ M h => oP_mono h fun _ _ h => oP_mono h fun n _ h => oP_mono h fun _ _ => ll.nx _ _) h.2⟩) h.2⟩
    · exact h.elim
  | .app i e, ρ, M, D, D', l, h => by
    unfold wpS at h ⊢
    exact ⟨h.1, wpE_mono e (fun _ _ _ h => oP_mono h fun p _ h => oP_mono h fun _ _ => l.nx _ _) h.2⟩
  | .ext i e, ρ, M, D, D', l, h => by
    unfold wpS at h ⊢
    exact ⟨h.1, wpE_mono e (fun _ _ _ h => oP_mono h fun p _ h => oP_mono h fun _ _ => l.nx _ _) h.2⟩
  | .exp e, ρ, M, D, D', l, h => by unfold wpS at h ⊢; exact wpE_mono e (fun _ _ _ => l.nx _ _) h
  | .ife c a b, ρ, M, D, D', l, h => by
    unfold wpS at h ⊢
    refine wpE_mono c (fun _ _ _ h => oP_mono h fun _ _ h => oP_mono h fun z _ h => ?_) h
    cases z with
    | true => exact wpSs_mono a l h
    | false => exact wpSs_mono b l h
  | .for_ t it b, ρ, M, D, D', l, h => by
    unfold wpS at h ⊢
    refine wpIt_mono it (fun ds ρ M h => ?_) h
    refine forLoop_mono (fun d ρ M D D' l h => ?_) ds l h
    exact oP_mono h fun _ _ h => wpSs_mono b l h
  | .whl c b, ρ, M, D, D', l, h => by
    unfold wpS at h ⊢
    obtain ⟨I, h0, h⟩ := h
    refine ⟨I, h0, fun n ρ M hI => wpE_mono c (fun _ _ _ h => oP_mono h fun _ _ h => oP_mono h fun z _ h => ?_) (h n ρ M hI)⟩
    cases z with
    | true =>
      refine wpSs_mono b ?_ h
      exact ⟨fun _ _ h => h, l.rt, l.nx, fun _ _ h => h⟩
    | false => exact l.nx _ _ h
  | .ret e, ρ, M, D, D', l, h => by unfold wpS at h ⊢; exact wpE_mono e (fun _ _ _ h => oP_mono h fun _ _ => l.rt _ _) h
  | .retN, ρ, M, D, D', l, h => by unfold wpS at h ⊢; exact l.rt _ _ h
  | .rai c es, ρ, M, D, D', l, h => by unfold wpS at h ⊢; exact h
  | .pas, ρ, M, D, D', l, h => by unfold wpS at h ⊢; exact l.nx _ _ h
  | .nev, ρ, M, D, D', l, h => by unfold wpS at h; exact h.elim
theorem wpSs_mono : ∀ (ss : Ss) {ρ : Env} {M : MH} {D D' : Dm}, D.le D' → wpSs Γ X ss ρ M D → wpSs Γ X ss ρ M D'
  | .nil, ρ, M, D, D', l, h => by unfold wpSs at h ⊢; exact l.nx _ _ h
  | .cons s ss, ρ, M, D, D', l, h => by
    unfold wpSs at h ⊢
    refine wpS_mono s ?_ h
    exact ⟨fun _ _ h => wpSs_mono ss l h, l.rt, l.bk, l.ct⟩
end
/-- a loop by what holds ahead of the rest -/
theorem for_inv {t : Tg} {b : Ss} {D : Dm} (I : List Dat → Env → MH → Prop) (hnil : ∀ ρ M, I [] ρ M → D.nx ρ M)
    (hcons : ∀ d ds ρ M, I (d :: ds) ρ M → oP (tgtF t d ρ) fun ρ => wpSs Γ X b ρ M { D with nx := fun ρ M => I ds ρ M, ct := fun ρ M => I ds ρ M, bk := D.nx }) :
    ∀ ds ρ M, I ds ρ M → forLoop (fun d ρ M D => oP (tgtF t d ρ) fun ρ => wpSs Γ X b ρ M D) ds ρ M D
  | [], ρ, M, h => hnil ρ M h
  | d :: ds, ρ, M, h => by
    unfold forLoop
    refine oP_mono (hcons d ds ρ M h) fun ρ2 _ h2 => ?_
    refine wpSs_mono b ?_ h2
    exact ⟨fun ρ M h => for_inv I hnil hcons ds ρ M h, fun _ _ h => h, fun _ _ h => h, fun ρ M h => for_inv I hnil hcons ds ρ M h⟩
end
/-- a comprehension's walk that adds what f gives of each -/
theorem lcOut_pure {body : Dat → List Dat → MH → (List Dat → MH → Prop) → Prop} {P : List Dat → MH → Prop} {M : MH} (f : Dat → List Dat) (hf : ∀ d, (f d).length ≤ 1) :
    ∀ (ds : List Dat) (acc : List Dat), acc.length + ds.length ≤ sizeLine → (∀ d, d ∈ ds → ∀ acc k, acc.length < sizeLine → k (acc ++ f d) M → body d acc M k) → P (acc ++ ds.flatMap f) M → lcOut body ds acc M P
  | [], acc, _, _, h => by simpa [lcOut] using h
  | d :: ds, acc, hl, hb, h => by
    unfold lcOut
    simp at hl
    refine hb d (by simp) acc _ (by omega) ?_
    refine lcOut_pure f hf ds (acc ++ f d) ?_ (fun e he => hb e (by simp [he])) ?_
    · have := hf d; simp; omega
    · simpa using h

/-! ### steps -/
/-- of a pair that is there -/
def oQ {α β : Type} (o : Option (α × β)) (k : α → β → Prop) : Prop := oP o fun p => k p.1 p.2
@[simp ↓, simp] theorem oQs {α β : Type} (a : α) (b : β) (k : α → β → Prop) : oQ (some (a, b)) k = k a b := id rfl
theorem oP_congr {α : Type} {o o' : Option α} {k : α → Prop} (h : o = o') : oP o k = oP o' k := by rw [h]
theorem oQ_congr {α β : Type} {o o' : Option (α × β)} {k : α → β → Prop} (h : o = o') : oQ o k = oQ o' k := by rw [h]
/-- the rest of a text, not looked into till it is come to -/
def nxS (Γ : Kn) (X : PX) (ss : Ss) (D : Dm) : Env → MH → Prop := fun ρ M => wpSs Γ X ss ρ M D
/-- a for's walk -/
def forS (Γ : Kn) (X : PX) (t : Tg) (b : Ss) (ds : List Dat) (ρ : Env) (M : MH) (D : Dm) : Prop := forLoop (fun d ρ M D => oP (tgtF t d ρ) fun ρ => wpSs Γ X b ρ M D) ds ρ M D
/-- a comprehension -/
def lcS (Γ : Kn) (elt : E) (gs : Gs) (own : List Nat) (ρ : Env) (M : MH) (P : List Dat → MH → Prop) : Prop := wpG Γ (fun _ _ => False) (fun ρ M k => wpE Γ (fun _ _ => False) elt ρ M fun r ρ4 M => oP (escD r ρ4) fun p => p.2 = ρ ∧ k p.1 M) gs own ρ [] M P
/-- a call -/
def callS (S : Spec) (ds : List Dat) (M : MH) (X : PX) (P : PE_) (ρ : Env) : Prop := ∃ Q0, S ds M Q0 X ∧ ∀ r M', Q0 r M' → P r ρ M'
theorem callS_congr {S : Spec} {ds ds' : List Dat} {M : MH} {X : PX} {P : PE_} {ρ : Env} (h : ds = ds') : callS S ds M X P ρ = callS S ds' M X P ρ := by rw [h]
theorem forS_congr {Γ : Kn} {X : PX} {t : Tg} {b : Ss} {ds ds' : List Dat} {ρ : Env} {M : MH} {D : Dm} (h : ds = ds') : forS Γ X t b ds ρ M D = forS Γ X t b ds' ρ M D := by rw [h]
theorem lcS_congr {Γ : Kn} {elt : E} {gs : Gs} {own : List Nat} {ρ : Env} {M M' : MH} {P : List Dat → MH → Prop} (h : M = M') : lcS Γ elt gs own ρ M P = lcS Γ elt gs own ρ M' P := by rw [h]
theorem callS_pur {α : Type} {d : α → List Dat} {ok : α → Prop} {out : α → Rv} {ds : List Dat} {M : MH} {X : PX} {P : PE_} {ρ : Env} (a : α) (h : ds = d a) (ho : ok a) (inj : ∀ b, d b = d a → out b = out a) : callS (pur d ok out) ds M X P ρ = P (out a) ρ M := by
  subst h
  refine propext ⟨fun ⟨Q0, ⟨b, e, _, q⟩, k⟩ => ?_, fun h => ⟨fun r M' => P r ρ M', ⟨a, rfl, ho, h⟩, fun _ _ h => h⟩⟩
  have := k _ _ q
  rw [inj b e.symm] at this
  exact this
theorem callS_purX {α : Type} {d : α → List Dat} {ok : α → Prop} {out : α → Except Exc Rv} {ds : List Dat} {M : MH} {X : PX} {P : PE_} {ρ : Env} (a : α) (h : ds = d a) (ho : ok a) (inj : ∀ b, d b = d a → out b = out a) : callS (purX d ok out) ds M X P ρ = exD X (fun r M => P r ρ M) M (out a) := by
  subst h
  refine propext ⟨fun ⟨Q0, ⟨b, e, _, q⟩, k⟩ => ?_, fun h => ⟨fun r M' => P r ρ M', ⟨a, rfl, ho, h⟩, fun _ _ h => h⟩⟩
  rw [inj b e.symm] at q
  cases w : out a with
  | ok r => rw [w] at q; exact k _ _ q
  | error e => rw [w] at q; exact q
def nxD (Γ : Kn) (X : PX) (ss : Ss) (D : Dm) : Dm := { D with nx := nxS Γ X ss D }
@[simp ↓] theorem nxD_nx (Γ X ss D ρ M) : (nxD Γ X ss D).nx ρ M = wpSs Γ X ss ρ M D := id rfl
@[simp ↓] theorem nxD_rt (Γ X ss D r M) : (nxD Γ X ss D).rt r M = D.rt r M := id rfl
@[simp ↓] theorem nxD_bk (Γ X ss D ρ M) : (nxD Γ X ss D).bk ρ M = D.bk ρ M := id rfl
@[simp ↓] theorem nxD_ct (Γ X ss D ρ M) : (nxD Γ X ss D).ct ρ M = D.ct ρ M := id rfl
/-- a loop's turn: what holds ahead of the rest is to hold behind it -/
def ivD (I : List Dat → Env → MH → Prop) (ds : List Dat) (D : Dm) : Dm := { D with nx := fun ρ M => I ds ρ M, ct := fun ρ M => I ds ρ M, bk := D.nx }
@[simp ↓] theorem ivD_nx (I ds D ρ M) : (ivD I ds D).nx ρ M = I ds ρ M := id rfl
@[simp ↓] theorem ivD_ct (I ds D ρ M) : (ivD I ds D).ct ρ M = I ds ρ M := id rfl
@[simp ↓] theorem ivD_rt (I ds D r M) : (ivD I ds D).rt r M = D.rt r M := id rfl
@[simp ↓] theorem ivD_bk (I ds D ρ M) : (ivD I ds D).bk ρ M = D.nx ρ M := id rfl
@[simp ↓] theorem nxS_go (Γ X ss D ρ M) : nxS Γ X ss D ρ M = wpSs Γ X ss ρ M D := id rfl
def yVal (P : PE_) (ρ : Env) (M : MH) : Dat → Prop := fun d => P (.val d) ρ M
@[simp ↓] theorem yVal_go (P : PE_) (ρ : Env) (M : MH) (d : Dat) : yVal P ρ M d = (P (.val d) ρ M) := id rfl
def yRv (P : PE_) (ρ : Env) (M : MH) : Rv → Prop := fun rv => P rv ρ M
@[simp ↓] theorem yRv_go (P : PE_) (ρ : Env) (M : MH) (rv : Rv) : yRv P ρ M rv = (P rv ρ M) := id rfl
def yBl (P : PE_) (ρ : Env) (M : MH) : Bool → Prop := fun bl => P (.val (.bl bl)) ρ M
@[simp ↓] theorem yBl_go (P : PE_) (ρ : Env) (M : MH) (bl : Bool) : yBl P ρ M bl = (P (.val (.bl bl)) ρ M) := id rfl
def yGfn (fn : Str) (P : PE_) (ρ : Env) (M : MH) : Spec → Prop := fun S => P (.val (.fn fn)) ρ M
@[simp ↓] theorem yGfn_go (fn : Str) (P : PE_) (ρ : Env) (M : MH) (S : Spec) : yGfn fn P ρ M S = (P (.val (.fn fn)) ρ M) := id rfl
def zTup (P : PE_) : List Dat → Env → MH → Prop := fun ds ρ M => P (.val (.tup ds)) ρ M
@[simp ↓] theorem zTup_go (P : PE_) (ds : List Dat) (ρ : Env) (M : MH) : zTup P ds ρ M = (P (.val (.tup ds)) ρ M) := id rfl
def zLst (P : PE_) : List Dat → Env → MH → Prop := fun ds ρ M => P (.own (.lst ds)) ρ M
@[simp ↓] theorem zLst_go (P : PE_) (ds : List Dat) (ρ : Env) (M : MH) : zLst P ds ρ M = (P (.own (.lst ds)) ρ M) := id rfl
def zBag (P : PE_) : List Dat → Env → MH → Prop := fun ds ρ M => ∀ a, M a = none → P (.val (.ref a)) ρ (updM M a (.lst ds))
@[simp ↓] theorem zBag_go (P : PE_) (ds : List Dat) (ρ : Env) (M : MH) : zBag P ds ρ M = (∀ a, M a = none → P (.val (.ref a)) ρ (updM M a (.lst ds))) := id rfl
def yBin2 (op : Operator) (d : Dat) (P : PE_) (ρ : Env) (M : MH) : Dat → Prop := fun e => oP (binD op d e) (yRv P ρ M)
@[simp ↓] theorem yBin2_go (op : Operator) (d : Dat) (P : PE_) (ρ : Env) (M : MH) (e : Dat) : yBin2 op d P ρ M e = (oP (binD op d e) (yRv P ρ M)) := id rfl
def yBin1 (op : Operator) (q : Rv) (P : PE_) (ρ : Env) (M : MH) : Dat → Prop := fun d => oP (peek q ρ) (yBin2 op d P ρ M)
@[simp ↓] theorem yBin1_go (op : Operator) (q : Rv) (P : PE_) (ρ : Env) (M : MH) (d : Dat) : yBin1 op q P ρ M d = (oP (peek q ρ) (yBin2 op d P ρ M)) := id rfl
def zBin2 (op : Operator) (r : Rv) (P : PE_) : Rv → Env → MH → Prop := fun q ρ M => oP (peek r ρ) (yBin1 op q P ρ M)
@[simp ↓] theorem zBin2_go (op : Operator) (r : Rv) (P : PE_) (q : Rv) (ρ : Env) (M : MH) : zBin2 op r P q ρ M = (oP (peek r ρ) (yBin1 op q P ρ M)) := id rfl
def zBin1 (Γ : Kn) (X : PX) (op : Operator) (b : E) (P : PE_) : Rv → Env → MH → Prop := fun r ρ M => wpE Γ X b ρ M (zBin2 op r P)
@[simp ↓] theorem zBin1_go (Γ : Kn) (X : PX) (op : Operator) (b : E) (P : PE_) (r : Rv) (ρ : Env) (M : MH) : zBin1 Γ X op b P r ρ M = (wpE Γ X b ρ M (zBin2 op r P)) := id rfl
def yNeg2 (P : PE_) (ρ : Env) (M : MH) : Int → Prop := fun n => P (.val (.int (-n))) ρ M
@[simp ↓] theorem yNeg2_go (P : PE_) (ρ : Env) (M : MH) (n : Int) : yNeg2 P ρ M n = (P (.val (.int (-n))) ρ M) := id rfl
def yNeg1 (P : PE_) (ρ : Env) (M : MH) : Dat → Prop := fun d => oP (intD d) (yNeg2 P ρ M)
@[simp ↓] theorem yNeg1_go (P : PE_) (ρ : Env) (M : MH) (d : Dat) : yNeg1 P ρ M d = (oP (intD d) (yNeg2 P ρ M)) := id rfl
def zNeg (P : PE_) : Rv → Env → MH → Prop := fun r ρ M => oP (peek r ρ) (yNeg1 P ρ M)
@[simp ↓] theorem zNeg_go (P : PE_) (r : Rv) (ρ : Env) (M : MH) : zNeg P r ρ M = (oP (peek r ρ) (yNeg1 P ρ M)) := id rfl
def yCmp2 (cop : CmpOp) (d : Dat) (P : PE_) (ρ : Env) (M : MH) : Dat → Prop := fun e => oP (cmpD cop d e) (yBl P ρ M)
@[simp ↓] theorem yCmp2_go (cop : CmpOp) (d : Dat) (P : PE_) (ρ : Env) (M : MH) (e : Dat) : yCmp2 cop d P ρ M e = (oP (cmpD cop d e) (yBl P ρ M)) := id rfl
def yCmp1 (cop : CmpOp) (q : Rv) (P : PE_) (ρ : Env) (M : MH) : Dat → Prop := fun d => oP (peek q ρ) (yCmp2 cop d P ρ M)
@[simp ↓] theorem yCmp1_go (cop : CmpOp) (q : Rv) (P : PE_) (ρ : Env) (M : MH) (d : Dat) : yCmp1 cop q P ρ M d = (oP (peek q ρ) (yCmp2 cop d P ρ M)) := id rfl
def zCmp2 (cop : CmpOp) (r : Rv) (P : PE_) : Rv → Env → MH → Prop := fun q ρ M => oP (peek r ρ) (yCmp1 cop q P ρ M)
@[simp ↓] theorem zCmp2_go (cop : CmpOp) (r : Rv) (P : PE_) (q : Rv) (ρ : Env) (M : MH) : zCmp2 cop r P q ρ M = (oP (peek r ρ) (yCmp1 cop q P ρ M)) := id rfl
def zCmp1 (Γ : Kn) (X : PX) (cop : CmpOp) (b : E) (P : PE_) : Rv → Env → MH → Prop := fun r ρ M => wpE Γ X b ρ M (zCmp2 cop r P)
@[simp ↓] theorem zCmp1_go (Γ : Kn) (X : PX) (cop : CmpOp) (b : E) (P : PE_) (r : Rv) (ρ : Env) (M : MH) : zCmp1 Γ X cop b P r ρ M = (wpE Γ X b ρ M (zCmp2 cop r P)) := id rfl
def yIsn (P : PE_) (ρ : Env) (M : MH) : Dat → Prop := fun d => P (.val (.bl (isNonD d))) ρ M
@[simp ↓] theorem yIsn_go (P : PE_) (ρ : Env) (M : MH) (d : Dat) : yIsn P ρ M d = (P (.val (.bl (isNonD d))) ρ M) := id rfl
def zIsn (P : PE_) : Rv → Env → MH → Prop := fun r ρ M => oP (peek r ρ) (yIsn P ρ M)
@[simp ↓] theorem zIsn_go (P : PE_) (r : Rv) (ρ : Env) (M : MH) : zIsn P r ρ M = (oP (peek r ρ) (yIsn P ρ M)) := id rfl
def yIsnn (P : PE_) (ρ : Env) (M : MH) : Dat → Prop := fun d => P (.val (.bl (!isNonD d))) ρ M
@[simp ↓] theorem yIsnn_go (P : PE_) (ρ : Env) (M : MH) (d : Dat) : yIsnn P ρ M d = (P (.val (.bl (!isNonD d))) ρ M) := id rfl
def zIsnn (P : PE_) : Rv → Env → MH → Prop := fun r ρ M => oP (peek r ρ) (yIsnn P ρ M)
@[simp ↓] theorem zIsnn_go (P : PE_) (r : Rv) (ρ : Env) (M : MH) : zIsnn P r ρ M = (oP (peek r ρ) (yIsnn P ρ M)) := id rfl
def yNot2 (P : PE_) (ρ : Env) (M : MH) : Bool → Prop := fun bl => P (.val (.bl (!bl))) ρ M
@[simp ↓] theorem yNot2_go (P : PE_) (ρ : Env) (M : MH) (bl : Bool) : yNot2 P ρ M bl = (P (.val (.bl (!bl))) ρ M) := id rfl
def yNot1 (P : PE_) (ρ : Env) (M : MH) : Dat → Prop := fun d => oP (truD d) (yNot2 P ρ M)
@[simp ↓] theorem yNot1_go (P : PE_) (ρ : Env) (M : MH) (d : Dat) : yNot1 P ρ M d = (oP (truD d) (yNot2 P ρ M)) := id rfl
def zNot (P : PE_) : Rv → Env → MH → Prop := fun r ρ M => oP (peek r ρ) (yNot1 P ρ M)
@[simp ↓] theorem zNot_go (P : PE_) (r : Rv) (ρ : Env) (M : MH) : zNot P r ρ M = (oP (peek r ρ) (yNot1 P ρ M)) := id rfl
def yIdx2 (d : Dat) (P : PE_) (ρ : Env) (M : MH) : Dat → Prop := fun e => oP (idxD M d e) (yVal P ρ M)
@[simp ↓] theorem yIdx2_go (d : Dat) (P : PE_) (ρ : Env) (M : MH) (e : Dat) : yIdx2 d P ρ M e = (oP (idxD M d e) (yVal P ρ M)) := id rfl
def yIdx1 (q : Rv) (P : PE_) (ρ : Env) (M : MH) : Dat → Prop := fun d => oP (peek q ρ) (yIdx2 d P ρ M)
@[simp ↓] theorem yIdx1_go (q : Rv) (P : PE_) (ρ : Env) (M : MH) (d : Dat) : yIdx1 q P ρ M d = (oP (peek q ρ) (yIdx2 d P ρ M)) := id rfl
def zIdx2 (r : Rv) (P : PE_) : Rv → Env → MH → Prop := fun q ρ M => oP (peek r ρ) (yIdx1 q P ρ M)
@[simp ↓] theorem zIdx2_go (r : Rv) (P : PE_) (q : Rv) (ρ : Env) (M : MH) : zIdx2 r P q ρ M = (oP (peek r ρ) (yIdx1 q P ρ M)) := id rfl
def zIdx1 (Γ : Kn) (X : PX) (b : E) (P : PE_) : Rv → Env → MH → Prop := fun r ρ M => wpE Γ X b ρ M (zIdx2 r P)
@[simp ↓] theorem zIdx1_go (Γ : Kn) (X : PX) (b : E) (P : PE_) (r : Rv) (ρ : Env) (M : MH) : zIdx1 Γ X b P r ρ M = (wpE Γ X b ρ M (zIdx2 r P)) := id rfl
def ySlc3 (lov : Option Int) (hiv : Option Int) (P : PE_) (ρ : Env) (M : MH) : Dat → Prop := fun d => oP (slcD lov hiv d) (yRv P ρ M)
@[simp ↓] theorem ySlc3_go (lov : Option Int) (hiv : Option Int) (P : PE_) (ρ : Env) (M : MH) (d : Dat) : ySlc3 lov hiv P ρ M d = (oP (slcD lov hiv d) (yRv P ρ M)) := id rfl
def ySlc2 (lov : Option Int) (r : Rv) (P : PE_) (ρ : Env) (M : MH) : Option Int → Prop := fun hiv => oP (peek r ρ) (ySlc3 lov hiv P ρ M)
@[simp ↓] theorem ySlc2_go (lov : Option Int) (r : Rv) (P : PE_) (ρ : Env) (M : MH) (hiv : Option Int) : ySlc2 lov r P ρ M hiv = (oP (peek r ρ) (ySlc3 lov hiv P ρ M)) := id rfl
def zSlc3 (lov : Option Int) (r : Rv) (P : PE_) : List Dat → Env → MH → Prop := fun hs ρ M => oP (partD hs) (ySlc2 lov r P ρ M)
@[simp ↓] theorem zSlc3_go (lov : Option Int) (r : Rv) (P : PE_) (hs : List Dat) (ρ : Env) (M : MH) : zSlc3 lov r P hs ρ M = (oP (partD hs) (ySlc2 lov r P ρ M)) := id rfl
def ySlc1 (Γ : Kn) (X : PX) (hi : Es) (r : Rv) (P : PE_) (ρ : Env) (M : MH) : Option Int → Prop := fun lov => wpEs Γ X hi ρ M (zSlc3 lov r P)
@[simp ↓] theorem ySlc1_go (Γ : Kn) (X : PX) (hi : Es) (r : Rv) (P : PE_) (ρ : Env) (M : MH) (lov : Option Int) : ySlc1 Γ X hi r P ρ M lov = (wpEs Γ X hi ρ M (zSlc3 lov r P)) := id rfl
def zSlc2 (Γ : Kn) (X : PX) (hi : Es) (r : Rv) (P : PE_) : List Dat → Env → MH → Prop := fun ds ρ M => oP (partD ds) (ySlc1 Γ X hi r P ρ M)
@[simp ↓] theorem zSlc2_go (Γ : Kn) (X : PX) (hi : Es) (r : Rv) (P : PE_) (ds : List Dat) (ρ : Env) (M : MH) : zSlc2 Γ X hi r P ds ρ M = (oP (partD ds) (ySlc1 Γ X hi r P ρ M)) := id rfl
def zSlc1 (Γ : Kn) (X : PX) (lo : Es) (hi : Es) (P : PE_) : Rv → Env → MH → Prop := fun r ρ M => wpEs Γ X lo ρ M (zSlc2 Γ X hi r P)
@[simp ↓] theorem zSlc1_go (Γ : Kn) (X : PX) (lo : Es) (hi : Es) (P : PE_) (r : Rv) (ρ : Env) (M : MH) : zSlc1 Γ X lo hi P r ρ M = (wpEs Γ X lo ρ M (zSlc2 Γ X hi r P)) := id rfl
def yRev (P : PE_) (ρ : Env) (M : MH) : Dat → Prop := fun d => oP (revD d) (yRv P ρ M)
@[simp ↓] theorem yRev_go (P : PE_) (ρ : Env) (M : MH) (d : Dat) : yRev P ρ M d = (oP (revD d) (yRv P ρ M)) := id rfl
def zRev (P : PE_) : Rv → Env → MH → Prop := fun r ρ M => oP (peek r ρ) (yRev P ρ M)
@[simp ↓] theorem zRev_go (P : PE_) (r : Rv) (ρ : Env) (M : MH) : zRev P r ρ M = (oP (peek r ρ) (yRev P ρ M)) := id rfl
def zCall (S : Spec) (X : PX) (P : PE_) : List Dat → Env → MH → Prop := fun ds ρ M => callS S ds M X P ρ
@[simp ↓] theorem zCall_go (S : Spec) (X : PX) (P : PE_) (ds : List Dat) (ρ : Env) (M : MH) : zCall S X P ds ρ M = (callS S ds M X P ρ) := id rfl
def yCall (Γ : Kn) (X : PX) (es : Es) (ρ : Env) (M : MH) (P : PE_) : Spec → Prop := fun S => wpEs Γ X es ρ M (zCall S X P)
@[simp ↓] theorem yCall_go (Γ : Kn) (X : PX) (es : Es) (ρ : Env) (M : MH) (P : PE_) (S : Spec) : yCall Γ X es ρ M P S = (wpEs Γ X es ρ M (zCall S X P)) := id rfl
def yBf (f : Bf) (P : PE_) (ρ : Env) (M : MH) : Dat → Prop := fun d => oP (callD M f d) (yRv P ρ M)
@[simp ↓] theorem yBf_go (f : Bf) (P : PE_) (ρ : Env) (M : MH) (d : Dat) : yBf f P ρ M d = (oP (callD M f d) (yRv P ρ M)) := id rfl
def zBf (f : Bf) (P : PE_) : Rv → Env → MH → Prop := fun r ρ M => oP (peek r ρ) (yBf f P ρ M)
@[simp ↓] theorem zBf_go (f : Bf) (P : PE_) (r : Rv) (ρ : Env) (M : MH) : zBf f P r ρ M = (oP (peek r ρ) (yBf f P ρ M)) := id rfl
def yBg2 (f2 : Bf2) (d : Dat) (P : PE_) (ρ : Env) (M : MH) : Dat → Prop := fun e => oP (call2D f2 d e) (yRv P ρ M)
@[simp ↓] theorem yBg2_go (f2 : Bf2) (d : Dat) (P : PE_) (ρ : Env) (M : MH) (e : Dat) : yBg2 f2 d P ρ M e = (oP (call2D f2 d e) (yRv P ρ M)) := id rfl
def yBg1 (f2 : Bf2) (q : Rv) (P : PE_) (ρ : Env) (M : MH) : Dat → Prop := fun d => oP (peek q ρ) (yBg2 f2 d P ρ M)
@[simp ↓] theorem yBg1_go (f2 : Bf2) (q : Rv) (P : PE_) (ρ : Env) (M : MH) (d : Dat) : yBg1 f2 q P ρ M d = (oP (peek q ρ) (yBg2 f2 d P ρ M)) := id rfl
def zBg2 (f2 : Bf2) (r : Rv) (P : PE_) : Rv → Env → MH → Prop := fun q ρ M => oP (peek r ρ) (yBg1 f2 q P ρ M)
@[simp ↓] theorem zBg2_go (f2 : Bf2) (r : Rv) (P : PE_) (q : Rv) (ρ : Env) (M : MH) : zBg2 f2 r P q ρ M = (oP (peek r ρ) (yBg1 f2 q P ρ M)) := id rfl
def zBg1 (Γ : Kn) (X : PX) (f2 : Bf2) (b : E) (P : PE_) : Rv → Env → MH → Prop := fun r ρ M => wpE Γ X b ρ M (zBg2 f2 r P)
@[simp ↓] theorem zBg1_go (Γ : Kn) (X : PX) (f2 : Bf2) (b : E) (P : PE_) (r : Rv) (ρ : Env) (M : MH) : zBg1 Γ X f2 b P r ρ M = (wpE Γ X b ρ M (zBg2 f2 r P)) := id rfl
def yOp23 (o2 : Op2) (d : Dat) (P : PE_) (ρ : Env) (M : MH) : Dat → Prop := fun e => oP (op2D o2 d e) (yRv P ρ M)
@[simp ↓] theorem yOp23_go (o2 : Op2) (d : Dat) (P : PE_) (ρ : Env) (M : MH) (e : Dat) : yOp23 o2 d P ρ M e = (oP (op2D o2 d e) (yRv P ρ M)) := id rfl
def yOp22 (o2 : Op2) (q : Rv) (P : PE_) (ρ : Env) (M : MH) : Dat → Prop := fun d => oP (peek q ρ) (yOp23 o2 d P ρ M)
@[simp ↓] theorem yOp22_go (o2 : Op2) (q : Rv) (P : PE_) (ρ : Env) (M : MH) (d : Dat) : yOp22 o2 q P ρ M d = (oP (peek q ρ) (yOp23 o2 d P ρ M)) := id rfl
def zOp22 (o2 : Op2) (r : Rv) (P : PE_) : Rv → Env → MH → Prop := fun q ρ M => oP (peek r ρ) (yOp22 o2 q P ρ M)
@[simp ↓] theorem zOp22_go (o2 : Op2) (r : Rv) (P : PE_) (q : Rv) (ρ : Env) (M : MH) : zOp22 o2 r P q ρ M = (oP (peek r ρ) (yOp22 o2 q P ρ M)) := id rfl
def yOp21 (Γ : Kn) (X : PX) (o2 : Op2) (b : E) (r : Rv) (P : PE_) (ρ : Env) (M : MH) : Dat → Prop := fun d => recB o2 d = true ∧ wpE Γ X b ρ M (zOp22 o2 r P)
@[simp ↓] theorem yOp21_go (Γ : Kn) (X : PX) (o2 : Op2) (b : E) (r : Rv) (P : PE_) (ρ : Env) (M : MH) (d : Dat) : yOp21 Γ X o2 b r P ρ M d = (recB o2 d = true ∧ wpE Γ X b ρ M (zOp22 o2 r P)) := id rfl
def zOp21 (Γ : Kn) (X : PX) (o2 : Op2) (b : E) (P : PE_) : Rv → Env → MH → Prop := fun r ρ M => oP (peek r ρ) (yOp21 Γ X o2 b r P ρ M)
@[simp ↓] theorem zOp21_go (Γ : Kn) (X : PX) (o2 : Op2) (b : E) (P : PE_) (r : Rv) (ρ : Env) (M : MH) : zOp21 Γ X o2 b P r ρ M = (oP (peek r ρ) (yOp21 Γ X o2 b r P ρ M)) := id rfl
def yIsi (ty : Ty) (P : PE_) (ρ : Env) (M : MH) : Dat → Prop := fun d => oP (isD ty d) (yBl P ρ M)
@[simp ↓] theorem yIsi_go (ty : Ty) (P : PE_) (ρ : Env) (M : MH) (d : Dat) : yIsi ty P ρ M d = (oP (isD ty d) (yBl P ρ M)) := id rfl
def zIsi (ty : Ty) (P : PE_) : Rv → Env → MH → Prop := fun r ρ M => oP (peek r ρ) (yIsi ty P ρ M)
@[simp ↓] theorem zIsi_go (ty : Ty) (P : PE_) (r : Rv) (ρ : Env) (M : MH) : zIsi ty P r ρ M = (oP (peek r ρ) (yIsi ty P ρ M)) := id rfl
def yDg3 (tab : List (Str × Dat)) (e : Dat) (P : PE_) (ρ : Env) (M : MH) : Str → Prop := fun s => P (.val ((getS s tab).getD e)) ρ M
@[simp ↓] theorem yDg3_go (tab : List (Str × Dat)) (e : Dat) (P : PE_) (ρ : Env) (M : MH) (s : Str) : yDg3 tab e P ρ M s = (P (.val ((getS s tab).getD e)) ρ M) := id rfl
def yDg2 (tab : List (Str × Dat)) (e : Dat) (P : PE_) (ρ : Env) (M : MH) : Dat → Prop := fun d => oP (strD d) (yDg3 tab e P ρ M)
@[simp ↓] theorem yDg2_go (tab : List (Str × Dat)) (e : Dat) (P : PE_) (ρ : Env) (M : MH) (d : Dat) : yDg2 tab e P ρ M d = (oP (strD d) (yDg3 tab e P ρ M)) := id rfl
def yDg1 (tab : List (Str × Dat)) (r : Rv) (P : PE_) (M : MH) : Dat → Env → Prop := fun e ρ => oP (peek r ρ) (yDg2 tab e P ρ M)
@[simp ↓] theorem yDg1_go (tab : List (Str × Dat)) (r : Rv) (P : PE_) (M : MH) (e : Dat) (ρ : Env) : yDg1 tab r P M e ρ = (oP (peek r ρ) (yDg2 tab e P ρ M)) := id rfl
def zDg2 (tab : List (Str × Dat)) (r : Rv) (P : PE_) : Rv → Env → MH → Prop := fun q ρ M => oQ (escD q ρ) (yDg1 tab r P M)
@[simp ↓] theorem zDg2_go (tab : List (Str × Dat)) (r : Rv) (P : PE_) (q : Rv) (ρ : Env) (M : MH) : zDg2 tab r P q ρ M = (oQ (escD q ρ) (yDg1 tab r P M)) := id rfl
def zDg1 (Γ : Kn) (X : PX) (tab : List (Str × Dat)) (x : E) (P : PE_) : Rv → Env → MH → Prop := fun r ρ M => wpE Γ X x ρ M (zDg2 tab r P)
@[simp ↓] theorem zDg1_go (Γ : Kn) (X : PX) (tab : List (Str × Dat)) (x : E) (P : PE_) (r : Rv) (ρ : Env) (M : MH) : zDg1 Γ X tab x P r ρ M = (wpE Γ X x ρ M (zDg2 tab r P)) := id rfl
def zDgv (Γ : Kn) (X : PX) (ks : List Str) (a : E) (x : E) (P : PE_) : List Dat → Env → MH → Prop := fun ds ρ M => wpE Γ X a ρ M (zDg1 Γ X (ks.zip ds) x P)
@[simp ↓] theorem zDgv_go (Γ : Kn) (X : PX) (ks : List Str) (a : E) (x : E) (P : PE_) (ds : List Dat) (ρ : Env) (M : MH) : zDgv Γ X ks a x P ds ρ M = (wpE Γ X a ρ M (zDg1 Γ X (ks.zip ds) x P)) := id rfl
def yGg (Γ : Kn) (X : PX) (a : E) (x : E) (ρ : Env) (M : MH) (P : PE_) : List (Str × Dat) → Prop := fun tab => wpE Γ X a ρ M (zDg1 Γ X tab x P)
@[simp ↓] theorem yGg_go (Γ : Kn) (X : PX) (a : E) (x : E) (ρ : Env) (M : MH) (P : PE_) (tab : List (Str × Dat)) : yGg Γ X a x ρ M P tab = (wpE Γ X a ρ M (zDg1 Γ X tab x P)) := id rfl
def zLc (P : PE_) (ρ : Env) : List Dat → MH → Prop := fun acc M => P (.own (.lst acc)) ρ M
@[simp ↓] theorem zLc_go (P : PE_) (ρ : Env) (acc : List Dat) (M : MH) : zLc P ρ acc M = (P (.own (.lst acc)) ρ M) := id rfl
def zEs2 (d : Dat) (PA : PA_) : List Dat → Env → MH → Prop := fun ds ρ M => PA (d :: ds) ρ M
@[simp ↓] theorem zEs2_go (d : Dat) (PA : PA_) (ds : List Dat) (ρ : Env) (M : MH) : zEs2 d PA ds ρ M = (PA (d :: ds) ρ M) := id rfl
def yEs1 (Γ : Kn) (X : PX) (es : Es) (PA : PA_) (M : MH) : Dat → Env → Prop := fun d ρ => wpEs Γ X es ρ M (zEs2 d PA)
@[simp ↓] theorem yEs1_go (Γ : Kn) (X : PX) (es : Es) (PA : PA_) (M : MH) (d : Dat) (ρ : Env) : yEs1 Γ X es PA M d ρ = (wpEs Γ X es ρ M (zEs2 d PA)) := id rfl
def zEs1 (Γ : Kn) (X : PX) (es : Es) (PA : PA_) : Rv → Env → MH → Prop := fun r ρ M => oQ (escD r ρ) (yEs1 Γ X es PA M)
@[simp ↓] theorem zEs1_go (Γ : Kn) (X : PX) (es : Es) (PA : PA_) (r : Rv) (ρ : Env) (M : MH) : zEs1 Γ X es PA r ρ M = (oQ (escD r ρ) (yEs1 Γ X es PA M)) := id rfl
def yAnd2 (Γ : Kn) (X : PX) (e2 : E) (es : Es) (r : Rv) (P : PE_) (ρ : Env) (M : MH) : Bool → Prop := fun z => match z with | true => wpB Γ X .And (.cons e2 es) ρ M P | false => P r ρ M
@[simp ↓, simp] theorem yAnd2_t (Γ : Kn) (X : PX) (e2 : E) (es : Es) (r : Rv) (P : PE_) (ρ : Env) (M : MH) : yAnd2 Γ X e2 es r P ρ M true = wpB Γ X .And (.cons e2 es) ρ M P := id rfl
@[simp ↓, simp] theorem yAnd2_f (Γ : Kn) (X : PX) (e2 : E) (es : Es) (r : Rv) (P : PE_) (ρ : Env) (M : MH) : yAnd2 Γ X e2 es r P ρ M false = P r ρ M := id rfl
theorem yAnd2_ite (Γ : Kn) (X : PX) (e2 : E) (es : Es) (r : Rv) (P : PE_) (ρ : Env) (M : MH) (z : Bool) : yAnd2 Γ X e2 es r P ρ M z = if z = true then wpB Γ X .And (.cons e2 es) ρ M P else P r ρ M := by cases z <;> rfl
def yAnd1 (Γ : Kn) (X : PX) (e2 : E) (es : Es) (r : Rv) (P : PE_) (ρ : Env) (M : MH) : Dat → Prop := fun d => oP (truD d) (yAnd2 Γ X e2 es r P ρ M)
@[simp ↓] theorem yAnd1_go (Γ : Kn) (X : PX) (e2 : E) (es : Es) (r : Rv) (P : PE_) (ρ : Env) (M : MH) (d : Dat) : yAnd1 Γ X e2 es r P ρ M d = (oP (truD d) (yAnd2 Γ X e2 es r P ρ M)) := id rfl
def zAnd (Γ : Kn) (X : PX) (e2 : E) (es : Es) (P : PE_) : Rv → Env → MH → Prop := fun r ρ M => oP (peek r ρ) (yAnd1 Γ X e2 es r P ρ M)
@[simp ↓] theorem zAnd_go (Γ : Kn) (X : PX) (e2 : E) (es : Es) (P : PE_) (r : Rv) (ρ : Env) (M : MH) : zAnd Γ X e2 es P r ρ M = (oP (peek r ρ) (yAnd1 Γ X e2 es r P ρ M)) := id rfl
def yOr2 (Γ : Kn) (X : PX) (e2 : E) (es : Es) (r : Rv) (P : PE_) (ρ : Env) (M : MH) : Bool → Prop := fun z => match z with | true => P r ρ M | false => wpB Γ X .Or (.cons e2 es) ρ M P
@[simp ↓, simp] theorem yOr2_t (Γ : Kn) (X : PX) (e2 : E) (es : Es) (r : Rv) (P : PE_) (ρ : Env) (M : MH) : yOr2 Γ X e2 es r P ρ M true = P r ρ M := id rfl
@[simp ↓, simp] theorem yOr2_f (Γ : Kn) (X : PX) (e2 : E) (es : Es) (r : Rv) (P : PE_) (ρ : Env) (M : MH) : yOr2 Γ X e2 es r P ρ M false = wpB Γ X .Or (.cons e2 es) ρ M P := id rfl
theorem yOr2_ite (Γ : Kn) (X : PX) (e2 : E) (es : Es) (r : Rv) (P : PE_) (ρ : Env) (M : MH) (z : Bool) : yOr2 Γ X e2 es r P ρ M z = if z = true then P r ρ M else wpB Γ X .Or (.cons e2 es) ρ M P := by cases z <;> rfl
def yOr1 (Γ : Kn) (X : PX) (e2 : E) (es : Es) (r : Rv) (P : PE_) (ρ : Env) (M : MH) : Dat → Prop := fun d => oP (truD d) (yOr2 Γ X e2 es r P ρ M)
@[simp ↓] theorem yOr1_go (Γ : Kn) (X : PX) (e2 : E) (es : Es) (r : Rv) (P : PE_) (ρ : Env) (M : MH) (d : Dat) : yOr1 Γ X e2 es r P ρ M d = (oP (truD d) (yOr2 Γ X e2 es r P ρ M)) := id rfl
def zOr (Γ : Kn) (X : PX) (e2 : E) (es : Es) (P : PE_) : Rv → Env → MH → Prop := fun r ρ M => oP (peek r ρ) (yOr1 Γ X e2 es r P ρ M)
@[simp ↓] theorem zOr_go (Γ : Kn) (X : PX) (e2 : E) (es : Es) (P : PE_) (r : Rv) (ρ : Env) (M : MH) : zOr Γ X e2 es P r ρ M = (oP (peek r ρ) (yOr1 Γ X e2 es r P ρ M)) := id rfl
def yIte2 (Γ : Kn) (X : PX) (a : E) (b : E) (P : PE_) (ρ : Env) (M : MH) : Bool → Prop := fun z => match z with | true => wpE Γ X a ρ M P | false => wpE Γ X b ρ M P
@[simp ↓, simp] theorem yIte2_t (Γ : Kn) (X : PX) (a : E) (b : E) (P : PE_) (ρ : Env) (M : MH) : yIte2 Γ X a b P ρ M true = wpE Γ X a ρ M P := id rfl
@[simp ↓, simp] theorem yIte2_f (Γ : Kn) (X : PX) (a : E) (b : E) (P : PE_) (ρ : Env) (M : MH) : yIte2 Γ X a b P ρ M false = wpE Γ X b ρ M P := id rfl
theorem yIte2_ite (Γ : Kn) (X : PX) (a : E) (b : E) (P : PE_) (ρ : Env) (M : MH) (z : Bool) : yIte2 Γ X a b P ρ M z = if z = true then wpE Γ X a ρ M P else wpE Γ X b ρ M P := by cases z <;> rfl
def yIte1 (Γ : Kn) (X : PX) (a : E) (b : E) (P : PE_) (ρ : Env) (M : MH) : Dat → Prop := fun d => oP (truD d) (yIte2 Γ X a b P ρ M)
@[simp ↓] theorem yIte1_go (Γ : Kn) (X : PX) (a : E) (b : E) (P : PE_) (ρ : Env) (M : MH) (d : Dat) : yIte1 Γ X a b P ρ M d = (oP (truD d) (yIte2 Γ X a b P ρ M)) := id rfl
def zIte (Γ : Kn) (X : PX) (a : E) (b : E) (P : PE_) : Rv → Env → MH → Prop := fun r ρ M => oP (peek r ρ) (yIte1 Γ X a b P ρ M)
@[simp ↓] theorem zIte_go (Γ : Kn) (X : PX) (a : E) (b : E) (P : PE_) (r : Rv) (ρ : Env) (M : MH) : zIte Γ X a b P r ρ M = (oP (peek r ρ) (yIte1 Γ X a b P ρ M)) := id rfl
def yChn5 (cop2 : CmpOp) (e : Dat) (P : PE_) (ρ : Env) (M : MH) : Dat → Prop := fun g => oP (cmpD cop2 e g) (yBl P ρ M)
@[simp ↓] theorem yChn5_go (cop2 : CmpOp) (e : Dat) (P : PE_) (ρ : Env) (M : MH) (g : Dat) : yChn5 cop2 e P ρ M g = (oP (cmpD cop2 e g) (yBl P ρ M)) := id rfl
def yChn4 (cop2 : CmpOp) (t : Rv) (P : PE_) (ρ : Env) (M : MH) : Dat → Prop := fun e => oP (peek t ρ) (yChn5 cop2 e P ρ M)
@[simp ↓] theorem yChn4_go (cop2 : CmpOp) (t : Rv) (P : PE_) (ρ : Env) (M : MH) (e : Dat) : yChn4 cop2 t P ρ M e = (oP (peek t ρ) (yChn5 cop2 e P ρ M)) := id rfl
def zChn3 (cop2 : CmpOp) (q : Rv) (P : PE_) : Rv → Env → MH → Prop := fun t ρ M => oP (peek q ρ) (yChn4 cop2 t P ρ M)
@[simp ↓] theorem zChn3_go (cop2 : CmpOp) (q : Rv) (P : PE_) (t : Rv) (ρ : Env) (M : MH) : zChn3 cop2 q P t ρ M = (oP (peek q ρ) (yChn4 cop2 t P ρ M)) := id rfl
def yChn3 (Γ : Kn) (X : PX) (cop2 : CmpOp) (c : E) (q : Rv) (P : PE_) (ρ : Env) (M : MH) : Bool → Prop := fun z => match z with | true => wpE Γ X c ρ M (zChn3 cop2 q P) | false => P (.val (.bl false)) ρ M
@[simp ↓, simp] theorem yChn3_t (Γ : Kn) (X : PX) (cop2 : CmpOp) (c : E) (q : Rv) (P : PE_) (ρ : Env) (M : MH) : yChn3 Γ X cop2 c q P ρ M true = wpE Γ X c ρ M (zChn3 cop2 q P) := id rfl
@[simp ↓, simp] theorem yChn3_f (Γ : Kn) (X : PX) (cop2 : CmpOp) (c : E) (q : Rv) (P : PE_) (ρ : Env) (M : MH) : yChn3 Γ X cop2 c q P ρ M false = P (.val (.bl false)) ρ M := id rfl
theorem yChn3_ite (Γ : Kn) (X : PX) (cop2 : CmpOp) (c : E) (q : Rv) (P : PE_) (ρ : Env) (M : MH) (z : Bool) : yChn3 Γ X cop2 c q P ρ M z = if z = true then wpE Γ X c ρ M (zChn3 cop2 q P) else P (.val (.bl false)) ρ M := by cases z <;> rfl
def yChn2 (Γ : Kn) (X : PX) (cop : CmpOp) (cop2 : CmpOp) (c : E) (q : Rv) (d : Dat) (P : PE_) (ρ : Env) (M : MH) : Dat → Prop := fun e => oP (cmpD cop d e) (yChn3 Γ X cop2 c q P ρ M)
@[simp ↓] theorem yChn2_go (Γ : Kn) (X : PX) (cop : CmpOp) (cop2 : CmpOp) (c : E) (q : Rv) (d : Dat) (P : PE_) (ρ : Env) (M : MH) (e : Dat) : yChn2 Γ X cop cop2 c q d P ρ M e = (oP (cmpD cop d e) (yChn3 Γ X cop2 c q P ρ M)) := id rfl
def yChn1 (Γ : Kn) (X : PX) (cop : CmpOp) (cop2 : CmpOp) (c : E) (q : Rv) (P : PE_) (ρ : Env) (M : MH) : Dat → Prop := fun d => oP (peek q ρ) (yChn2 Γ X cop cop2 c q d P ρ M)
@[simp ↓] theorem yChn1_go (Γ : Kn) (X : PX) (cop : CmpOp) (cop2 : CmpOp) (c : E) (q : Rv) (P : PE_) (ρ : Env) (M : MH) (d : Dat) : yChn1 Γ X cop cop2 c q P ρ M d = (oP (peek q ρ) (yChn2 Γ X cop cop2 c q d P ρ M)) := id rfl
def zChn2 (Γ : Kn) (X : PX) (cop : CmpOp) (cop2 : CmpOp) (c : E) (r : Rv) (P : PE_) : Rv → Env → MH → Prop := fun q ρ M => oP (peek r ρ) (yChn1 Γ X cop cop2 c q P ρ M)
@[simp ↓] theorem zChn2_go (Γ : Kn) (X : PX) (cop : CmpOp) (cop2 : CmpOp) (c : E) (r : Rv) (P : PE_) (q : Rv) (ρ : Env) (M : MH) : zChn2 Γ X cop cop2 c r P q ρ M = (oP (peek r ρ) (yChn1 Γ X cop cop2 c q P ρ M)) := id rfl
def zChn1 (Γ : Kn) (X : PX) (cop : CmpOp) (cop2 : CmpOp) (b : E) (c : E) (P : PE_) : Rv → Env → MH → Prop := fun r ρ M => wpE Γ X b ρ M (zChn2 Γ X cop cop2 c r P)
@[simp ↓] theorem zChn1_go (Γ : Kn) (X : PX) (cop : CmpOp) (cop2 : CmpOp) (b : E) (c : E) (P : PE_) (r : Rv) (ρ : Env) (M : MH) : zChn1 Γ X cop cop2 b c P r ρ M = (wpE Γ X b ρ M (zChn2 Γ X cop cop2 c r P)) := id rfl
def yIf2 (Γ : Kn) (X : PX) (es : Es) (PB : Bool → Env → MH → Prop) (ρ : Env) (M : MH) : Bool → Prop := fun z => match z with | true => wpIf Γ X es ρ M PB | false => PB false ρ M
@[simp ↓, simp] theorem yIf2_t (Γ : Kn) (X : PX) (es : Es) (PB : Bool → Env → MH → Prop) (ρ : Env) (M : MH) : yIf2 Γ X es PB ρ M true = wpIf Γ X es ρ M PB := id rfl
@[simp ↓, simp] theorem yIf2_f (Γ : Kn) (X : PX) (es : Es) (PB : Bool → Env → MH → Prop) (ρ : Env) (M : MH) : yIf2 Γ X es PB ρ M false = PB false ρ M := id rfl
theorem yIf2_ite (Γ : Kn) (X : PX) (es : Es) (PB : Bool → Env → MH → Prop) (ρ : Env) (M : MH) (z : Bool) : yIf2 Γ X es PB ρ M z = if z = true then wpIf Γ X es ρ M PB else PB false ρ M := by cases z <;> rfl
def yIf1 (Γ : Kn) (X : PX) (es : Es) (PB : Bool → Env → MH → Prop) (ρ : Env) (M : MH) : Dat → Prop := fun d => oP (truD d) (yIf2 Γ X es PB ρ M)
@[simp ↓] theorem yIf1_go (Γ : Kn) (X : PX) (es : Es) (PB : Bool → Env → MH → Prop) (ρ : Env) (M : MH) (d : Dat) : yIf1 Γ X es PB ρ M d = (oP (truD d) (yIf2 Γ X es PB ρ M)) := id rfl
def zIf (Γ : Kn) (X : PX) (es : Es) (PB : Bool → Env → MH → Prop) : Rv → Env → MH → Prop := fun r ρ M => oP (peek r ρ) (yIf1 Γ X es PB ρ M)
@[simp ↓] theorem zIf_go (Γ : Kn) (X : PX) (es : Es) (PB : Bool → Env → MH → Prop) (r : Rv) (ρ : Env) (M : MH) : zIf Γ X es PB r ρ M = (oP (peek r ρ) (yIf1 Γ X es PB ρ M)) := id rfl
def ySeq (PA : PA_) (M : MH) : List Dat → Env → Prop := fun ds ρ => PA ds ρ M
@[simp ↓] theorem ySeq_go (PA : PA_) (M : MH) (ds : List Dat) (ρ : Env) : ySeq PA M ds ρ = (PA ds ρ M) := id rfl
def zSeq (fz : Bool) (PA : PA_) : Rv → Env → MH → Prop := fun r ρ M => oQ (itD fz r ρ) (ySeq PA M)
@[simp ↓] theorem zSeq_go (fz : Bool) (PA : PA_) (r : Rv) (ρ : Env) (M : MH) : zSeq fz PA r ρ M = (oQ (itD fz r ρ) (ySeq PA M)) := id rfl
def yRng (PA : PA_) (ρ : Env) (M : MH) : Int → Nat → Prop := fun n len => PA (rngL n len) ρ M
@[simp ↓] theorem yRng_go (PA : PA_) (ρ : Env) (M : MH) (n : Int) (len : Nat) : yRng PA ρ M n len = (PA (rngL n len) ρ M) := id rfl
def zRng (PA : PA_) : List Dat → Env → MH → Prop := fun ds ρ M => oQ (rngD ds) (yRng PA ρ M)
@[simp ↓] theorem zRng_go (PA : PA_) (ds : List Dat) (ρ : Env) (M : MH) : zRng PA ds ρ M = (oQ (rngD ds) (yRng PA ρ M)) := id rfl
def yZip (PA : PA_) (ρ : Env) (M : MH) : List Dat → Prop := fun ds => PA ds ρ M
@[simp ↓] theorem yZip_go (PA : PA_) (ρ : Env) (M : MH) (ds : List Dat) : yZip PA ρ M ds = (PA ds ρ M) := id rfl
def zZip (PA : PA_) : List Dat → Env → MH → Prop := fun ds ρ M => oP (zipD ds) (yZip PA ρ M)
@[simp ↓] theorem zZip_go (PA : PA_) (ds : List Dat) (ρ : Env) (M : MH) : zZip PA ds ρ M = (oP (zipD ds) (yZip PA ρ M)) := id rfl
def zEr2 (sl : Sl) (PR : List Sl → Env → MH → Prop) : List Sl → Env → MH → Prop := fun ss ρ M => PR (sl :: ss) ρ M
@[simp ↓] theorem zEr2_go (sl : Sl) (PR : List Sl → Env → MH → Prop) (ss : List Sl) (ρ : Env) (M : MH) : zEr2 sl PR ss ρ M = (PR (sl :: ss) ρ M) := id rfl
def yEr1 (Γ : Kn) (X : PX) (es : Es) (PR : List Sl → Env → MH → Prop) (M : MH) : Sl → Env → Prop := fun sl ρ => wpEr Γ X es ρ M (zEr2 sl PR)
@[simp ↓] theorem yEr1_go (Γ : Kn) (X : PX) (es : Es) (PR : List Sl → Env → MH → Prop) (M : MH) (sl : Sl) (ρ : Env) : yEr1 Γ X es PR M sl ρ = (wpEr Γ X es ρ M (zEr2 sl PR)) := id rfl
def zEr1 (Γ : Kn) (X : PX) (es : Es) (PR : List Sl → Env → MH → Prop) : Rv → Env → MH → Prop := fun r ρ M => oQ (takeD r ρ) (yEr1 Γ X es PR M)
@[simp ↓] theorem zEr1_go (Γ : Kn) (X : PX) (es : Es) (PR : List Sl → Env → MH → Prop) (r : Rv) (ρ : Env) (M : MH) : zEr1 Γ X es PR r ρ M = (oQ (takeD r ρ) (yEr1 Γ X es PR M)) := id rfl
/-- a place that has something -/
def yVar (P : PE_) (ρ : Env) (M : MH) (i : Nat) : Option Sl → Prop := fun s => match s with | some (.val d) => P (.val d) ρ M | some (.own _) => P (.bor i) ρ M | _ => False
@[simp ↓, simp] theorem yVar_v (P : PE_) (ρ : Env) (M : MH) (i : Nat) (d : Dat) : yVar P ρ M i (some (.val d)) = P (.val d) ρ M := id rfl
@[simp ↓, simp] theorem yVar_o (P : PE_) (ρ : Env) (M : MH) (i : Nat) (o : Own) : yVar P ρ M i (some (.own o)) = P (.bor i) ρ M := id rfl
@[simp ↓, simp] theorem yVar_n (P : PE_) (ρ : Env) (M : MH) (i : Nat) : yVar P ρ M i (some .no) = False := id rfl
@[simp ↓, simp] theorem yVar_0 (P : PE_) (ρ : Env) (M : MH) (i : Nat) : yVar P ρ M i none = False := id rfl
def yAsg (i : Nat) (D : Dm) (M : MH) : Sl → Env → Prop := fun sl ρ => D.nx (ρ.set i sl) M
@[simp ↓] theorem yAsg_go (i : Nat) (D : Dm) (M : MH) (sl : Sl) (ρ : Env) : yAsg i D M sl ρ = (D.nx (ρ.set i sl) M) := id rfl
def zAsg (i : Nat) (D : Dm) : Rv → Env → MH → Prop := fun r ρ M => oQ (takeD r ρ) (yAsg i D M)
@[simp ↓] theorem zAsg_go (i : Nat) (D : Dm) (r : Rv) (ρ : Env) (M : MH) : zAsg i D r ρ M = (oQ (takeD r ρ) (yAsg i D M)) := id rfl
def zAsgL (is : List Nat) (D : Dm) : List Sl → Env → MH → Prop := fun ss ρ M => is.length = ss.length ∧ D.nx (setAll ρ (is.zip ss)) M
@[simp ↓] theorem zAsgL_go (is : List Nat) (D : Dm) (ss : List Sl) (ρ : Env) (M : MH) : zAsgL is D ss ρ M = (is.length = ss.length ∧ D.nx (setAll ρ (is.zip ss)) M) := id rfl
def yNxE (D : Dm) (M : MH) : Env → Prop := fun ρ => D.nx ρ M
@[simp ↓] theorem yNxE_go (D : Dm) (M : MH) (ρ : Env) : yNxE D M ρ = (D.nx ρ M) := id rfl
def yNx (D : Dm) : Env → MH → Prop := fun ρ M => D.nx ρ M
@[simp ↓] theorem yNx_go (D : Dm) (ρ : Env) (M : MH) : yNx D ρ M = (D.nx ρ M) := id rfl
def yAsgU (is : List Nat) (D : Dm) (ρ : Env) (M : MH) : Dat → Prop := fun d => oP (tgtF (.tup is) d ρ) (yNxE D M)
@[simp ↓] theorem yAsgU_go (is : List Nat) (D : Dm) (ρ : Env) (M : MH) (d : Dat) : yAsgU is D ρ M d = (oP (tgtF (.tup is) d ρ) (yNxE D M)) := id rfl
def zAsgU (is : List Nat) (D : Dm) : Rv → Env → MH → Prop := fun r ρ M => oP (peek r ρ) (yAsgU is D ρ M)
@[simp ↓] theorem zAsgU_go (is : List Nat) (D : Dm) (r : Rv) (ρ : Env) (M : MH) : zAsgU is D r ρ M = (oP (peek r ρ) (yAsgU is D ρ M)) := id rfl
def zExp (D : Dm) : Rv → Env → MH → Prop := fun r ρ M => D.nx ρ M
@[simp ↓] theorem zExp_go (D : Dm) (r : Rv) (ρ : Env) (M : MH) : zExp D r ρ M = (D.nx ρ M) := id rfl
def yRet (D : Dm) (M : MH) : Rv → Prop := fun q => D.rt q M
@[simp ↓] theorem yRet_go (D : Dm) (M : MH) (q : Rv) : yRet D M q = (D.rt q M) := id rfl
def zRet (D : Dm) : Rv → Env → MH → Prop := fun r ρ M => oP (takeR r ρ) (yRet D M)
@[simp ↓] theorem zRet_go (D : Dm) (r : Rv) (ρ : Env) (M : MH) : zRet D r ρ M = (oP (takeR r ρ) (yRet D M)) := id rfl
def yIfe2 (Γ : Kn) (X : PX) (sa : Ss) (sb : Ss) (D : Dm) (ρ : Env) (M : MH) : Bool → Prop := fun z => match z with | true => wpSs Γ X sa ρ M D | false => wpSs Γ X sb ρ M D
@[simp ↓, simp] theorem yIfe2_t (Γ : Kn) (X : PX) (sa : Ss) (sb : Ss) (D : Dm) (ρ : Env) (M : MH) : yIfe2 Γ X sa sb D ρ M true = wpSs Γ X sa ρ M D := id rfl
@[simp ↓, simp] theorem yIfe2_f (Γ : Kn) (X : PX) (sa : Ss) (sb : Ss) (D : Dm) (ρ : Env) (M : MH) : yIfe2 Γ X sa sb D ρ M false = wpSs Γ X sb ρ M D := id rfl
theorem yIfe2_ite (Γ : Kn) (X : PX) (sa : Ss) (sb : Ss) (D : Dm) (ρ : Env) (M : MH) (z : Bool) : yIfe2 Γ X sa sb D ρ M z = if z = true then wpSs Γ X sa ρ M D else wpSs Γ X sb ρ M D := by cases z <;> rfl
def yIfe1 (Γ : Kn) (X : PX) (sa : Ss) (sb : Ss) (D : Dm) (ρ : Env) (M : MH) : Dat → Prop := fun d => oP (truD d) (yIfe2 Γ X sa sb D ρ M)
@[simp ↓] theorem yIfe1_go (Γ : Kn) (X : PX) (sa : Ss) (sb : Ss) (D : Dm) (ρ : Env) (M : MH) (d : Dat) : yIfe1 Γ X sa sb D ρ M d = (oP (truD d) (yIfe2 Γ X sa sb D ρ M)) := id rfl
def zIfe (Γ : Kn) (X : PX) (sa : Ss) (sb : Ss) (D : Dm) : Rv → Env → MH → Prop := fun r ρ M => oP (peek r ρ) (yIfe1 Γ X sa sb D ρ M)
@[simp ↓] theorem zIfe_go (Γ : Kn) (X : PX) (sa : Ss) (sb : Ss) (D : Dm) (r : Rv) (ρ : Env) (M : MH) : zIfe Γ X sa sb D r ρ M = (oP (peek r ρ) (yIfe1 Γ X sa sb D ρ M)) := id rfl
def yIx3 (i : Nat) (d : Dat) (D : Dm) (ρ : Env) (M : MH) : Int → Prop := fun n => oQ (setAt ρ M i n d) (yNx D)
@[simp ↓] theorem yIx3_go (i : Nat) (d : Dat) (D : Dm) (ρ : Env) (M : MH) (n : Int) : yIx3 i d D ρ M n = (oQ (setAt ρ M i n d) (yNx D)) := id rfl
def yIx2 (i : Nat) (d : Dat) (D : Dm) (ρ : Env) (M : MH) : Dat → Prop := fun kd => oP (intD kd) (yIx3 i d D ρ M)
@[simp ↓] theorem yIx2_go (i : Nat) (d : Dat) (D : Dm) (ρ : Env) (M : MH) (kd : Dat) : yIx2 i d D ρ M kd = (oP (intD kd) (yIx3 i d D ρ M)) := id rfl
def zIx2 (i : Nat) (d : Dat) (D : Dm) : Rv → Env → MH → Prop := fun q ρ M => oP (peek q ρ) (yIx2 i d D ρ M)
@[simp ↓] theorem zIx2_go (i : Nat) (d : Dat) (D : Dm) (q : Rv) (ρ : Env) (M : MH) : zIx2 i d D q ρ M = (oP (peek q ρ) (yIx2 i d D ρ M)) := id rfl
def yIx1 (Γ : Kn) (X : PX) (i : Nat) (kE : E) (D : Dm) (M : MH) : Dat → Env → Prop := fun d ρ => hasB ρ i = true ∧ wpE Γ X kE ρ M (zIx2 i d D)
@[simp ↓] theorem yIx1_go (Γ : Kn) (X : PX) (i : Nat) (kE : E) (D : Dm) (M : MH) (d : Dat) (ρ : Env) : yIx1 Γ X i kE D M d ρ = (hasB ρ i = true ∧ wpE Γ X kE ρ M (zIx2 i d D)) := id rfl
def zIx1 (Γ : Kn) (X : PX) (i : Nat) (kE : E) (D : Dm) : Rv → Env → MH → Prop := fun r ρ M => oQ (escD r ρ) (yIx1 Γ X i kE D M)
@[simp ↓] theorem zIx1_go (Γ : Kn) (X : PX) (i : Nat) (kE : E) (D : Dm) (r : Rv) (ρ : Env) (M : MH) : zIx1 Γ X i kE D r ρ M = (oQ (escD r ρ) (yIx1 Γ X i kE D M)) := id rfl
def yI24 (Γ : Kn) (X : PX) (i : Nat) (lE : E) (e : Dat) (D : Dm) : Env → MH → Prop := fun ρ M => hasB ρ i = true ∧ wpE Γ X lE ρ M (zIx2 i e D)
@[simp ↓] theorem yI24_go (Γ : Kn) (X : PX) (i : Nat) (lE : E) (e : Dat) (D : Dm) (ρ : Env) (M : MH) : yI24 Γ X i lE e D ρ M = (hasB ρ i = true ∧ wpE Γ X lE ρ M (zIx2 i e D)) := id rfl
def yI23 (Γ : Kn) (X : PX) (i : Nat) (lE : E) (d : Dat) (e : Dat) (D : Dm) (ρ : Env) (M : MH) : Int → Prop := fun n => oQ (setAt ρ M i n d) (yI24 Γ X i lE e D)
@[simp ↓] theorem yI23_go (Γ : Kn) (X : PX) (i : Nat) (lE : E) (d : Dat) (e : Dat) (D : Dm) (ρ : Env) (M : MH) (n : Int) : yI23 Γ X i lE d e D ρ M n = (oQ (setAt ρ M i n d) (yI24 Γ X i lE e D)) := id rfl
def yI22 (Γ : Kn) (X : PX) (i : Nat) (lE : E) (d : Dat) (e : Dat) (D : Dm) (ρ : Env) (M : MH) : Dat → Prop := fun kd => oP (intD kd) (yI23 Γ X i lE d e D ρ M)
@[simp ↓] theorem yI22_go (Γ : Kn) (X : PX) (i : Nat) (lE : E) (d : Dat) (e : Dat) (D : Dm) (ρ : Env) (M : MH) (kd : Dat) : yI22 Γ X i lE d e D ρ M kd = (oP (intD kd) (yI23 Γ X i lE d e D ρ M)) := id rfl
def zI22 (Γ : Kn) (X : PX) (i : Nat) (lE : E) (d : Dat) (e : Dat) (D : Dm) : Rv → Env → MH → Prop := fun q ρ M => oP (peek q ρ) (yI22 Γ X i lE d e D ρ M)
@[simp ↓] theorem zI22_go (Γ : Kn) (X : PX) (i : Nat) (lE : E) (d : Dat) (e : Dat) (D : Dm) (q : Rv) (ρ : Env) (M : MH) : zI22 Γ X i lE d e D q ρ M = (oP (peek q ρ) (yI22 Γ X i lE d e D ρ M)) := id rfl
def yI21 (Γ : Kn) (X : PX) (i : Nat) (kE lE : E) (D : Dm) (ρ : Env) (M : MH) : Dat → Prop := fun d => match d with | .tup [d1, d2] => hasB ρ i = true ∧ wpE Γ X kE ρ M (zI22 Γ X i lE d1 d2 D) | _ => False
@[simp ↓, simp] theorem yI21_two (Γ : Kn) (X : PX) (i : Nat) (kE lE : E) (D : Dm) (ρ : Env) (M : MH) (d1 d2 : Dat) : yI21 Γ X i kE lE D ρ M (.tup [d1, d2]) = (hasB ρ i = true ∧ wpE Γ X kE ρ M (zI22 Γ X i lE d1 d2 D)) := id rfl
def zI21 (Γ : Kn) (X : PX) (i : Nat) (kE : E) (lE : E) (D : Dm) : Rv → Env → MH → Prop := fun r ρ M => oP (peek r ρ) (yI21 Γ X i kE lE D ρ M)
@[simp ↓] theorem zI21_go (Γ : Kn) (X : PX) (i : Nat) (kE : E) (lE : E) (D : Dm) (r : Rv) (ρ : Env) (M : MH) : zI21 Γ X i kE lE D r ρ M = (oP (peek r ρ) (yI21 Γ X i kE lE D ρ M)) := id rfl
def yApp (i : Nat) (D : Dm) (M : MH) : Dat → Env → Prop := fun d ρ => oQ (appAt ρ M i d) (yNx D)
@[simp ↓] theorem yApp_go (i : Nat) (D : Dm) (M : MH) (d : Dat) (ρ : Env) : yApp i D M d ρ = (oQ (appAt ρ M i d) (yNx D)) := id rfl
def zApp (i : Nat) (D : Dm) : Rv → Env → MH → Prop := fun r ρ M => oQ (escD r ρ) (yApp i D M)
@[simp ↓] theorem zApp_go (i : Nat) (D : Dm) (r : Rv) (ρ : Env) (M : MH) : zApp i D r ρ M = (oQ (escD r ρ) (yApp i D M)) := id rfl
def yExt (i : Nat) (D : Dm) (M : MH) : Dat → Env → Prop := fun d ρ => oQ (extAt ρ M i d) (yNx D)
@[simp ↓] theorem yExt_go (i : Nat) (D : Dm) (M : MH) (d : Dat) (ρ : Env) : yExt i D M d ρ = (oQ (extAt ρ M i d) (yNx D)) := id rfl
def zExt (i : Nat) (D : Dm) : Rv → Env → MH → Prop := fun r ρ M => oQ (escD r ρ) (yExt i D M)
@[simp ↓] theorem zExt_go (i : Nat) (D : Dm) (r : Rv) (ρ : Env) (M : MH) : zExt i D r ρ M = (oQ (escD r ρ) (yExt i D M)) := id rfl
def zFor (Γ : Kn) (X : PX) (tg : Tg) (sb : Ss) (D : Dm) : List Dat → Env → MH → Prop := fun ds ρ M => forS Γ X tg sb ds ρ M D
@[simp ↓] theorem zFor_go (Γ : Kn) (X : PX) (tg : Tg) (sb : Ss) (D : Dm) (ds : List Dat) (ρ : Env) (M : MH) : zFor Γ X tg sb D ds ρ M = (forS Γ X tg sb ds ρ M D) := id rfl
@[simp ↓] theorem wp_cst (Γ : Kn) (X : PX) (ρ : Env) (M : MH) (P : PE_) (d) : wpE Γ X (.cst d) ρ M P = (P (.val d) ρ M) := id rfl
@[simp ↓] theorem wp_glb (Γ : Kn) (X : PX) (ρ : Env) (M : MH) (P : PE_) (x) : wpE Γ X (.glb x) ρ M P = (oP (Γ.gl x) (yVal P ρ M)) := id rfl
@[simp ↓] theorem wp_gfn (Γ : Kn) (X : PX) (ρ : Env) (M : MH) (P : PE_) (f) : wpE Γ X (.gfn f) ρ M P = (oP (Γ.fn f) (yGfn f P ρ M)) := id rfl
@[simp ↓] theorem wp_tup (Γ : Kn) (X : PX) (ρ : Env) (M : MH) (P : PE_) (es) : wpE Γ X (.tup es) ρ M P = (wpEs Γ X es ρ M (zTup P)) := id rfl
@[simp ↓] theorem wp_lst (Γ : Kn) (X : PX) (ρ : Env) (M : MH) (P : PE_) (es) : wpE Γ X (.lst es) ρ M P = (wpEs Γ X es ρ M (zLst P)) := id rfl
@[simp ↓] theorem wp_bag (Γ : Kn) (X : PX) (ρ : Env) (M : MH) (P : PE_) (es) : wpE Γ X (.bag es) ρ M P = (wpEs Γ X es ρ M (zBag P)) := id rfl
@[simp ↓] theorem wp_bin (Γ : Kn) (X : PX) (ρ : Env) (M : MH) (P : PE_) (op a b) : wpE Γ X (.bin op a b) ρ M P = (wpE Γ X a ρ M (zBin1 Γ X op b P)) := id rfl
@[simp ↓] theorem wp_neg (Γ : Kn) (X : PX) (ρ : Env) (M : MH) (P : PE_) (a) : wpE Γ X (.neg a) ρ M P = (wpE Γ X a ρ M (zNeg P)) := id rfl
@[simp ↓] theorem wp_cmp (Γ : Kn) (X : PX) (ρ : Env) (M : MH) (P : PE_) (op a b) : wpE Γ X (.cmp op a b) ρ M P = (wpE Γ X a ρ M (zCmp1 Γ X op b P)) := id rfl
@[simp ↓] theorem wp_isn (Γ : Kn) (X : PX) (ρ : Env) (M : MH) (P : PE_) (a) : wpE Γ X (.isn a) ρ M P = (wpE Γ X a ρ M (zIsn P)) := id rfl
@[simp ↓] theorem wp_isnn (Γ : Kn) (X : PX) (ρ : Env) (M : MH) (P : PE_) (a) : wpE Γ X (.isnn a) ρ M P = (wpE Γ X a ρ M (zIsnn P)) := id rfl
@[simp ↓] theorem wp_not (Γ : Kn) (X : PX) (ρ : Env) (M : MH) (P : PE_) (a) : wpE Γ X (.not a) ρ M P = (wpE Γ X a ρ M (zNot P)) := id rfl
@[simp ↓] theorem wp_bop (Γ : Kn) (X : PX) (ρ : Env) (M : MH) (P : PE_) (op es) : wpE Γ X (.bop op es) ρ M P = (wpB Γ X op es ρ M P) := id rfl
@[simp ↓] theorem wp_idx (Γ : Kn) (X : PX) (ρ : Env) (M : MH) (P : PE_) (a b) : wpE Γ X (.idx a b) ρ M P = (wpE Γ X a ρ M (zIdx1 Γ X b P)) := id rfl
@[simp ↓] theorem wp_slc (Γ : Kn) (X : PX) (ρ : Env) (M : MH) (P : PE_) (a lo hi) : wpE Γ X (.slc a lo hi) ρ M P = (wpE Γ X a ρ M (zSlc1 Γ X lo hi P)) := id rfl
@[simp ↓] theorem wp_rev (Γ : Kn) (X : PX) (ρ : Env) (M : MH) (P : PE_) (a) : wpE Γ X (.rev a) ρ M P = (wpE Γ X a ρ M (zRev P)) := id rfl
@[simp ↓] theorem wp_call (Γ : Kn) (X : PX) (ρ : Env) (M : MH) (P : PE_) (f es) : wpE Γ X (.call f es) ρ M P = (oP (Γ.fn f) (yCall Γ X es ρ M P)) := id rfl
@[simp ↓] theorem wp_bf (Γ : Kn) (X : PX) (ρ : Env) (M : MH) (P : PE_) (f a) : wpE Γ X (.bf f a) ρ M P = (wpE Γ X a ρ M (zBf f P)) := id rfl
@[simp ↓] theorem wp_bf2 (Γ : Kn) (X : PX) (ρ : Env) (M : MH) (P : PE_) (f a b) : wpE Γ X (.bf2 f a b) ρ M P = (wpE Γ X a ρ M (zBg1 Γ X f b P)) := id rfl
@[simp ↓] theorem wp_op2 (Γ : Kn) (X : PX) (ρ : Env) (M : MH) (P : PE_) (o2 a b) : wpE Γ X (.op2 o2 a b) ρ M P = (wpE Γ X a ρ M (zOp21 Γ X o2 b P)) := id rfl
@[simp ↓] theorem wp_isi (Γ : Kn) (X : PX) (ρ : Env) (M : MH) (P : PE_) (a t) : wpE Γ X (.isi a t) ρ M P = (wpE Γ X a ρ M (zIsi t P)) := id rfl
@[simp ↓] theorem wp_dget (Γ : Kn) (X : PX) (ρ : Env) (M : MH) (P : PE_) (ks ds key x) : wpE Γ X (.dget ks ds key x) ρ M P = (wpE Γ X key ρ M (zDg1 Γ X (ks.zip ds) x P)) := id rfl
@[simp ↓] theorem wp_dgetE (Γ : Kn) (X : PX) (ρ : Env) (M : MH) (P : PE_) (ks vs key x) : wpE Γ X (.dgetE ks vs key x) ρ M P = (wpEs Γ X vs ρ M (zDgv Γ X ks key x P)) := id rfl
@[simp ↓] theorem wp_gget (Γ : Kn) (X : PX) (ρ : Env) (M : MH) (P : PE_) (t key x) : wpE Γ X (.gget t key x) ρ M P = (oP (Γ.tab t) (yGg Γ X key x ρ M P)) := id rfl
@[simp ↓] theorem wp_lc (Γ : Kn) (X : PX) (ρ : Env) (M : MH) (P : PE_) (elt gs own) : wpE Γ X (.lc elt gs own) ρ M P = (lcS Γ elt gs own ρ M (zLc P ρ)) := id rfl
@[simp ↓] theorem wp_var (Γ : Kn) (X : PX) (ρ : Env) (M : MH) (P : PE_) (i) : wpE Γ X (.var i) ρ M P = (yVar P ρ M i ρ[i]?) := by
  show (match ρ[i]? with | some (.val d) => P (.val d) ρ M | some (.own _) => P (.bor i) ρ M | _ => False) = _
  rfl
@[simp ↓] theorem wp_ite (Γ : Kn) (X : PX) (ρ : Env) (M : MH) (P : PE_) (c a b) : wpE Γ X (.ite c a b) ρ M P = (wpE Γ X c ρ M (zIte Γ X a b P)) := by
  show (wpE Γ X c ρ M fun r ρ M => oP (peek r ρ) fun d => oP (truD d) fun z => match z with | true => wpE Γ X a ρ M P | false => wpE Γ X b ρ M P) = _
  congr 1
@[simp ↓] theorem wp_chn (Γ : Kn) (X : PX) (ρ : Env) (M : MH) (P : PE_) (op1 op2 a b c) : wpE Γ X (.chn op1 op2 a b c) ρ M P = (wpE Γ X a ρ M (zChn1 Γ X op1 op2 b c P)) := by
  show (wpE Γ X a ρ M fun r ρ M => wpE Γ X b ρ M fun q ρ M => oP (peek r ρ) fun d => oP (peek q ρ) fun e => oP (cmpD op1 d e) fun z => match z with | false => P (.val (.bl false)) ρ M | true => wpE Γ X c ρ M fun t ρ M => oP (peek q ρ) fun e => oP (peek t ρ) fun g => oP (cmpD op2 e g) fun z => P (.val (.bl z)) ρ M) = _
  congr 1; funext r ρ M; show _ = wpE Γ X b ρ M _; congr 1; funext q ρ M; show _ = oP _ _; congr 1; funext d; show _ = oP _ _; congr 1; funext e; show _ = oP _ _; congr 1; funext z; cases z <;> rfl
@[simp ↓] theorem wp_nil (Γ : Kn) (X : PX) (ρ : Env) (M : MH) (P : PA_)  : wpEs Γ X .nil ρ M P = (P [] ρ M) := id rfl
@[simp ↓] theorem wp_cons (Γ : Kn) (X : PX) (ρ : Env) (M : MH) (P : PA_) (e es) : wpEs Γ X (.cons e es) ρ M P = (wpE Γ X e ρ M (zEs1 Γ X es P)) := id rfl
@[simp ↓] theorem wp_b1 (Γ : Kn) (X : PX) (ρ : Env) (M : MH) (P : PE_) (op e) : wpB Γ X op (.cons e .nil) ρ M P = (wpE Γ X e ρ M P) := id rfl
@[simp ↓] theorem wp_and (Γ : Kn) (X : PX) (ρ : Env) (M : MH) (P : PE_) (e e2 es) : wpB Γ X .And (.cons e (.cons e2 es)) ρ M P = (wpE Γ X e ρ M (zAnd Γ X e2 es P)) := by
  show (wpE Γ X e ρ M fun r ρ M => oP (peek r ρ) fun d => oP (truD d) fun z => match PySem.BoolOp.And, z with
    | .And, true => wpB Γ X .And (.cons e2 es) ρ M P
    | .Or, false => wpB Γ X .And (.cons e2 es) ρ M P
    | _, _ => P r ρ M) = _
  congr 1; funext r ρ M; show _ = oP _ _; congr 1; funext d; show _ = oP _ _; congr 1; funext z; cases z <;> rfl
@[simp ↓] theorem wp_or (Γ : Kn) (X : PX) (ρ : Env) (M : MH) (P : PE_) (e e2 es) : wpB Γ X .Or (.cons e (.cons e2 es)) ρ M P = (wpE Γ X e ρ M (zOr Γ X e2 es P)) := by
  show (wpE Γ X e ρ M fun r ρ M => oP (peek r ρ) fun d => oP (truD d) fun z => match PySem.BoolOp.Or, z with
    | .And, true => wpB Γ X .Or (.cons e2 es) ρ M P
    | .Or, false => wpB Γ X .Or (.cons e2 es) ρ M P
    | _, _ => P r ρ M) = _
  congr 1; funext r ρ M; show _ = oP _ _; congr 1; funext d; show _ = oP _ _; congr 1; funext z; cases z <;> rfl
@[simp ↓] theorem wp_if0 (Γ : Kn) (X : PX) (ρ : Env) (M : MH) (P : Bool → Env → MH → Prop)  : wpIf Γ X .nil ρ M P = (P true ρ M) := id rfl
@[simp ↓] theorem wp_if1 (Γ : Kn) (X : PX) (ρ : Env) (M : MH) (P : Bool → Env → MH → Prop) (e es) : wpIf Γ X (.cons e es) ρ M P = (wpE Γ X e ρ M (zIf Γ X es P)) := by
  show (wpE Γ X e ρ M fun r ρ M => oP (peek r ρ) fun d => oP (truD d) fun z => match z with | true => wpIf Γ X es ρ M P | false => P false ρ M) = _
  congr 1
@[simp ↓] theorem wp_seq (Γ : Kn) (X : PX) (ρ : Env) (M : MH) (P : PA_) (fz e) : wpIt Γ X fz (.seq e) ρ M P = (wpE Γ X e ρ M (zSeq fz P)) := id rfl
@[simp ↓] theorem wp_rng (Γ : Kn) (X : PX) (ρ : Env) (M : MH) (P : PA_) (fz es) : wpIt Γ X fz (.rng es) ρ M P = (wpEs Γ X es ρ M (zRng P)) := id rfl
@[simp ↓] theorem wp_zip (Γ : Kn) (X : PX) (ρ : Env) (M : MH) (P : PA_) (fz es) : wpIt Γ X fz (.zip es) ρ M P = (wpEs Γ X es ρ M (zZip P)) := id rfl
@[simp ↓] theorem wp_er0 (Γ : Kn) (X : PX) (ρ : Env) (M : MH) (P : List Sl → Env → MH → Prop)  : wpEr Γ X .nil ρ M P = (P [] ρ M) := id rfl
@[simp ↓] theorem wp_er1 (Γ : Kn) (X : PX) (ρ : Env) (M : MH) (P : List Sl → Env → MH → Prop) (e es) : wpEr Γ X (.cons e es) ρ M P = (wpE Γ X e ρ M (zEr1 Γ X es P)) := id rfl
@[simp ↓] theorem wps_nil (Γ : Kn) (X : PX) (ρ : Env) (M : MH) (D : Dm)  : wpSs Γ X .nil ρ M D = (D.nx ρ M) := id rfl
@[simp ↓] theorem wps_cons (Γ : Kn) (X : PX) (ρ : Env) (M : MH) (D : Dm) (s ss) : wpSs Γ X (.cons s ss) ρ M D = (wpS Γ X s ρ M (nxD Γ X ss D)) := id rfl
@[simp ↓] theorem wps_asg (Γ : Kn) (X : PX) (ρ : Env) (M : MH) (D : Dm) (i e) : wpS Γ X (.asg i e) ρ M D = (wpE Γ X e ρ M (zAsg i D)) := id rfl
@[simp ↓] theorem wps_asgL (Γ : Kn) (X : PX) (ρ : Env) (M : MH) (D : Dm) (is es) : wpS Γ X (.asgL is es) ρ M D = (wpEr Γ X es ρ M (zAsgL is D)) := id rfl
@[simp ↓] theorem wps_asgU (Γ : Kn) (X : PX) (ρ : Env) (M : MH) (D : Dm) (is e) : wpS Γ X (.asgU is e) ρ M D = (wpE Γ X e ρ M (zAsgU is D)) := id rfl
@[simp ↓] theorem wps_exp (Γ : Kn) (X : PX) (ρ : Env) (M : MH) (D : Dm) (e) : wpS Γ X (.exp e) ρ M D = (wpE Γ X e ρ M (zExp D)) := id rfl
@[simp ↓] theorem wps_ret (Γ : Kn) (X : PX) (ρ : Env) (M : MH) (D : Dm) (e) : wpS Γ X (.ret e) ρ M D = (wpE Γ X e ρ M (zRet D)) := id rfl
@[simp ↓] theorem wps_retN (Γ : Kn) (X : PX) (ρ : Env) (M : MH) (D : Dm)  : wpS Γ X (.retN) ρ M D = (D.rt (.val .non) M) := id rfl
@[simp ↓] theorem wps_pas (Γ : Kn) (X : PX) (ρ : Env) (M : MH) (D : Dm)  : wpS Γ X (.pas) ρ M D = (D.nx ρ M) := id rfl
@[simp ↓] theorem wps_ife (Γ : Kn) (X : PX) (ρ : Env) (M : MH) (D : Dm) (c a b) : wpS Γ X (.ife c a b) ρ M D = (wpE Γ X c ρ M (zIfe Γ X a b D)) := by
  show (wpE Γ X c ρ M fun r ρ M => oP (peek r ρ) fun d => oP (truD d) fun z => match z with | true => wpSs Γ X a ρ M D | false => wpSs Γ X b ρ M D) = _
  congr 1
@[simp ↓] theorem wps_asgIx (Γ : Kn) (X : PX) (ρ : Env) (M : MH) (D : Dm) (i k e) : wpS Γ X (.asgIx i k e) ρ M D = (wpE Γ X e ρ M (zIx1 Γ X i k D)) := id rfl
@[simp ↓] theorem wps_asgI2 (Γ : Kn) (X : PX) (ρ : Env) (M : MH) (D : Dm) (i k l e) : wpS Γ X (.asgI2 i k l e) ρ M D = (wpE Γ X e ρ M (zI21 Γ X i k l D)) := by
  unfold wpS
  congr 1
@[simp ↓] theorem wps_ext (Γ : Kn) (X : PX) (ρ : Env) (M : MH) (D : Dm) (i e) : wpS Γ X (.ext i e) ρ M D = ((hasL ρ M i = true ∧ wpE Γ X e ρ M (zExt i D))) := id rfl
@[simp ↓] theorem wps_app (Γ : Kn) (X : PX) (ρ : Env) (M : MH) (D : Dm) (i e) : wpS Γ X (.app i e) ρ M D = ((hasL ρ M i = true ∧ wpE Γ X e ρ M (zApp i D))) := id rfl
@[simp ↓] theorem wps_nev (Γ : Kn) (X : PX) (ρ : Env) (M : MH) (D : Dm)  : wpS Γ X (.nev) ρ M D = (False) := id rfl
@[simp ↓] theorem wps_for (Γ : Kn) (X : PX) (ρ : Env) (M : MH) (D : Dm) (t it b) : wpS Γ X (.for_ t it b) ρ M D = (wpIt Γ X true it ρ M (zFor Γ X t b D)) := id rfl
def whD (I : Nat → Env → MH → Prop) (n : Nat) (D : Dm) : Dm := { D with nx := fun ρ M => ∃ m, m < n ∧ I m ρ M, ct := fun ρ M => ∃ m, m < n ∧ I m ρ M, bk := D.nx }
@[simp ↓] theorem whD_nx (I n D ρ M) : (whD I n D).nx ρ M = (∃ m, m < n ∧ I m ρ M) := id rfl
@[simp ↓] theorem whD_rt (I n D r M) : (whD I n D).rt r M = D.rt r M := id rfl
def yWh2 (Γ : Kn) (X : PX) (sb : Ss) (D2 D : Dm) (ρ : Env) (M : MH) : Bool → Prop := fun z => match z with | true => wpSs Γ X sb ρ M D2 | false => D.nx ρ M
@[simp ↓, simp] theorem yWh2_t (Γ : Kn) (X : PX) (sb : Ss) (D2 D : Dm) (ρ : Env) (M : MH) : yWh2 Γ X sb D2 D ρ M true = wpSs Γ X sb ρ M D2 := id rfl
@[simp ↓, simp] theorem yWh2_f (Γ : Kn) (X : PX) (sb : Ss) (D2 D : Dm) (ρ : Env) (M : MH) : yWh2 Γ X sb D2 D ρ M false = D.nx ρ M := id rfl
def yWh1 (Γ : Kn) (X : PX) (sb : Ss) (D2 D : Dm) (ρ : Env) (M : MH) : Dat → Prop := fun d => oP (truD d) (yWh2 Γ X sb D2 D ρ M)
@[simp ↓] theorem yWh1_go (Γ : Kn) (X : PX) (sb : Ss) (D2 D : Dm) (ρ : Env) (M : MH) (d : Dat) : yWh1 Γ X sb D2 D ρ M d = oP (truD d) (yWh2 Γ X sb D2 D ρ M) := id rfl
def zWh (Γ : Kn) (X : PX) (sb : Ss) (D2 D : Dm) : PE_ := fun r ρ M => oP (peek r ρ) (yWh1 Γ X sb D2 D ρ M)
@[simp ↓] theorem zWh_go (Γ : Kn) (X : PX) (sb : Ss) (D2 D : Dm) (r : Rv) (ρ : Env) (M : MH) : zWh Γ X sb D2 D r ρ M = oP (peek r ρ) (yWh1 Γ X sb D2 D ρ M) := id rfl
/-- a while by an invariant with a measure -/
theorem whl_inv {Γ : Kn} {X : PX} {c : E} {b : Ss} {ρ : Env} {M : MH} {D : Dm} (I : Nat → Env → MH → Prop) (n : Nat) (h0 : I n ρ M)
    (h : ∀ n ρ M, I n ρ M → wpE Γ X c ρ M (zWh Γ X b (whD I n D) D)) : wpS Γ X (.whl c b) ρ M D := by
  refine ⟨I, ⟨n, h0⟩, fun n ρ M hI => ?_⟩
  refine wpE_mono c (fun r ρ M k => ?_) (h n ρ M hI)
  exact oP_mono k fun d _ k => oP_mono k fun z _ k => by cases z <;> exact k
/-- raise -/
def yRai2 (X : PX) (c a : Str) (M : MH) : List Dat → Prop := fun ds => match ds with | [d] => X ⟨c, some (a, d)⟩ M | _ => False
@[simp ↓, simp] theorem yRai2_one (X : PX) (c a : Str) (M : MH) (d : Dat) : yRai2 X c a M [d] = X ⟨c, some (a, d)⟩ M := id rfl
def zRai (X : PX) (c a : Str) : PA_ := fun ds _ M => yRai2 X c a M ds
@[simp ↓] theorem zRai_go (X : PX) (c a : Str) (ds : List Dat) (ρ : Env) (M : MH) : zRai X c a ds ρ M = yRai2 X c a M ds := id rfl
def yRai (Γ : Kn) (X : PX) (c : Str) (es : Es) (ρ : Env) (M : MH) : Option Str → Prop := fun at_ => match at_ with | none => es.isTx = true ∧ X ⟨c, none⟩ M | some a => wpEs Γ X es ρ M (zRai X c a)
@[simp ↓, simp] theorem yRai_n (Γ : Kn) (X : PX) (c : Str) (es : Es) (ρ : Env) (M : MH) : yRai Γ X c es ρ M none = (es.isTx = true ∧ X ⟨c, none⟩ M) := id rfl
@[simp ↓, simp] theorem yRai_s (Γ : Kn) (X : PX) (c : Str) (es : Es) (ρ : Env) (M : MH) (a : Str) : yRai Γ X c es ρ M (some a) = wpEs Γ X es ρ M (zRai X c a) := id rfl
@[simp ↓] theorem wps_rai (Γ : Kn) (X : PX) (ρ : Env) (M : MH) (D : Dm) (c : Str) (es : Es) : wpS Γ X (.rai c es) ρ M D = oP (Γ.exc c) (yRai Γ X c es ρ M) := by
  unfold wpS
  congr 1
@[simp] theorem isTx_one (s : Str) : (Es.cons (.cst (.str s)) .nil).isTx = true := id rfl
/-- _law_call(lambda: e) -/
def yTold (P : PE_) (ρ2 : Env) (M : MH) : Dat → Env → Prop := fun d _ => P (.val (.tup [.str "told", d])) ρ2 M
@[simp ↓] theorem yTold_go (P : PE_) (ρ2 : Env) (M : MH) (d : Dat) (ρ : Env) : yTold P ρ2 M d ρ = P (.val (.tup [.str "told", d])) ρ2 M := id rfl
def zTold (P : PE_) (ρ2 : Env) : PE_ := fun r ρ M => oQ (escD r ρ) (yTold P ρ2 M)
@[simp ↓] theorem zTold_go (P : PE_) (ρ2 : Env) (r : Rv) (ρ : Env) (M : MH) : zTold P ρ2 r ρ M = oQ (escD r ρ) (yTold P ρ2 M) := id rfl
def xTold (kd : Str → Option (Str × Option Str)) (P : PE_) (ρ2 : Env) : PX := fun x M => oP (toldX kd x) (yVal P ρ2 M)
@[simp ↓] theorem xTold_go (kd : Str → Option (Str × Option Str)) (P : PE_) (ρ2 : Env) (x : Exc) (M : MH) : xTold kd P ρ2 x M = oP (toldX kd x) (yVal P ρ2 M) := id rfl
theorem lcall_go {Γ : Kn} {X : PX} {ρ : Env} {M : MH} {P : PE_} {fz : List Nat} {e : E} (h : wpE Γ (xTold Γ.kd P (frzE ρ fz)) e (lamE (frzE ρ fz)) M (zTold P (frzE ρ fz))) : wpE Γ X (.lcall fz e) ρ M P := by
  unfold wpE
  exact ⟨fun d M => P (.val d) (frzE ρ fz) M, h, fun _ _ z => z⟩
@[simp] theorem lamE_nil : lamE [] = [] := id rfl
@[simp] theorem lamE_v (d : Dat) (ρ : Env) : lamE (.val d :: ρ) = .val d :: lamE ρ := id rfl
@[simp] theorem lamE_o (o : Own) (ρ : Env) : lamE (.own o :: ρ) = .no :: lamE ρ := id rfl
@[simp] theorem lamE_n (ρ : Env) : lamE (.no :: ρ) = .no :: lamE ρ := id rfl
@[simp] theorem frzE_nil (ρ : Env) : frzE ρ [] = ρ := id rfl
def frz1 (ρ : Env) (i : Nat) : Option Sl → Env := fun s => match s with | some (.own o) => ρ.set i (.val o.dat) | _ => ρ
@[simp] theorem frz1_o (ρ : Env) (i : Nat) (o : Own) : frz1 ρ i (some (.own o)) = ρ.set i (.val o.dat) := id rfl
@[simp] theorem frz1_v (ρ : Env) (i : Nat) (d : Dat) : frz1 ρ i (some (.val d)) = ρ := id rfl
@[simp] theorem frzE_cons (ρ : Env) (i : Nat) (is : List Nat) : frzE ρ (i :: is) = frzE (frz1 ρ i ρ[i]?) is := by
  show frzE (match ρ[i]? with | some (.own o) => ρ.set i (.val o.dat) | _ => ρ) is = _
  rfl
/-- a call of a name -/
def yCallv (Γ : Kn) (X : PX) (es : Es) (ρ : Env) (M : MH) (P : PE_) : Option Sl → Prop := fun s => match s with
  | some (.val (.fn f)) => oP (Γ.fn f) (yCall Γ X es ρ M P)
  | _ => False
@[simp ↓, simp] theorem yCallv_f (Γ : Kn) (X : PX) (es : Es) (ρ : Env) (M : MH) (P : PE_) (f : Str) : yCallv Γ X es ρ M P (some (.val (.fn f))) = oP (Γ.fn f) (yCall Γ X es ρ M P) := id rfl
@[simp ↓] theorem wp_callv (Γ : Kn) (X : PX) (ρ : Env) (M : MH) (P : PE_) (i : Nat) (es : Es) : wpE Γ X (.callv i es) ρ M P = yCallv Γ X es ρ M P ρ[i]? := by
  show (match ρ[i]? with
    | some (.val (.fn f)) => oP (Γ.fn f) fun S => wpEs Γ X es ρ M fun ds ρ M => ∃ Q0, S ds M Q0 X ∧ ∀ r M', Q0 r M' → P r ρ M'
    | _ => False) = _
  unfold yCallv
  rfl
@[simp] theorem rec_sumT (d : Dat) : recB .sumT d = true := by cases d <;> rfl
@[simp] theorem rec_join (s : Str) : recB .join (.str s) = true := id rfl
@[simp] theorem rec_split (s : Str) : recB .split (.str s) = true := id rfl
@[simp] theorem rec_index (ds : List Dat) : recB .index (.lst ds) = true := id rfl
/-! ### a place that holds something alone -/
theorem slD_val (d : Dat) : slD (.val d) = some d := id rfl
@[simp ↓, simp] theorem peek_bor (i : Nat) (ρ : Env) : peek (.bor i) ρ = ρ[i]?.bind slD := by
  show (match ρ[i]? with | some s => slD s | none => none) = _
  cases ρ[i]? <;> rfl
@[simp] theorem slD_v (d : Dat) : slD (.val d) = some d := id rfl
@[simp] theorem slD_o (o : Own) : slD (.own o) = some o.dat := id rfl
@[simp] theorem slD_n : slD .no = none := id rfl
def escB (ρ : Env) (i : Nat) : Option Sl → Option (Dat × Env) := fun s => match s with
  | some (.val d) => some (d, ρ)
  | some (.own o) => some (o.dat, ρ.set i (.val o.dat))
  | _ => none
@[simp ↓, simp] theorem esc_bor (i : Nat) (ρ : Env) : escD (.bor i) ρ = escB ρ i ρ[i]? := id rfl
@[simp] theorem escB_v (ρ : Env) (i : Nat) (d : Dat) : escB ρ i (some (.val d)) = some (d, ρ) := id rfl
@[simp] theorem escB_o (ρ : Env) (i : Nat) (o : Own) : escB ρ i (some (.own o)) = some (o.dat, ρ.set i (.val o.dat)) := id rfl
def takB : Option (Dat × Env) → Option (Sl × Env) := fun s => match s with
  | some (d, ρ) => some (.val d, ρ)
  | none => none
@[simp ↓, simp] theorem take_bor (i : Nat) (ρ : Env) : takeD (.bor i) ρ = takB (escB ρ i ρ[i]?) := id rfl
@[simp] theorem takB_s (d : Dat) (ρ : Env) : takB (some (d, ρ)) = some (.val d, ρ) := id rfl
def takC : Option Sl → Option Rv := fun s => match s with
  | some (.own o) => some (.own o)
  | some (.val d) => some (.val d)
  | _ => none
@[simp ↓, simp] theorem takeR_bor (i : Nat) (ρ : Env) : takeR (.bor i) ρ = takC ρ[i]? := id rfl
@[simp] theorem takC_v (d : Dat) : takC (some (.val d)) = some (.val d) := id rfl
@[simp] theorem takC_o (o : Own) : takC (some (.own o)) = some (.own o) := id rfl
def itB (ρ : Env) : Option Dat → Option (List Dat × Env) := fun d => match d with
  | some d => (seqD d).map fun ds => (ds, ρ)
  | none => none
@[simp ↓, simp] theorem itD_bor (i : Nat) (ρ : Env) : itD false (.bor i) ρ = itB ρ (ρ[i]?.bind slD) := by
  show (match peek (.bor i) ρ with | some d => (seqD d).map fun ds => (ds, ρ) | none => none) = _
  rw [peek_bor]; rfl
@[simp] theorem itB_s (ρ : Env) (d : Dat) : itB ρ (some d) = (seqD d).map fun ds => (ds, ρ) := id rfl
def itC : Option (Dat × Env) → Option (List Dat × Env) := fun d => match d with
  | some (d, ρ') => (seqD d).map fun ds => (ds, ρ')
  | none => none
@[simp ↓, simp] theorem itD_borT (i : Nat) (ρ : Env) : itD true (.bor i) ρ = itC (escB ρ i ρ[i]?) := id rfl
@[simp] theorem itC_s (ρ : Env) (d : Dat) : itC (some (d, ρ)) = (seqD d).map fun ds => (ds, ρ) := id rfl
/-- a loop by what holds ahead of the rest -/
theorem forS_inv {Γ : Kn} {X : PX} {t : Tg} {b : Ss} {D : Dm} {ds : List Dat} {ρ : Env} {M : MH} (I : List Dat → Env → MH → Prop) (h0 : I ds ρ M) (hnil : ∀ ρ M, I [] ρ M → D.nx ρ M)
    (hcons : ∀ d ds ρ M, I (d :: ds) ρ M → oP (tgtF t d ρ) fun ρ => wpSs Γ X b ρ M (ivD I ds D)) : forS Γ X t b ds ρ M D :=
  for_inv I hnil hcons ds ρ M h0
@[simp ↓, simp] theorem oPs {α : Type} (a : α) (k : α → Prop) : oP (some a) k = k a := id rfl
@[simp ↓] theorem peek_val (d : Dat) (ρ : Env) : peek (.val d) ρ = some d := id rfl
@[simp ↓] theorem peek_own (o : Own) (ρ : Env) : peek (.own o) ρ = some o.dat := id rfl
@[simp ↓] theorem esc_val (d : Dat) (ρ : Env) : escD (.val d) ρ = some (d, ρ) := id rfl
@[simp ↓] theorem esc_own (o : Own) (ρ : Env) : escD (.own o) ρ = some (o.dat, ρ) := id rfl
@[simp ↓] theorem take_val (d : Dat) (ρ : Env) : takeD (.val d) ρ = some (.val d, ρ) := id rfl
@[simp ↓] theorem take_own (o : Own) (ρ : Env) : takeD (.own o) ρ = some (.own o, ρ) := id rfl
@[simp ↓] theorem takeR_val (d : Dat) (ρ : Env) : takeR (.val d) ρ = some (.val d) := id rfl
@[simp ↓] theorem takeR_own (o : Own) (ρ : Env) : takeR (.own o) ρ = some (.own o) := id rfl
@[simp ↓] theorem tgt_var (i : Nat) (d : Dat) (ρ : Env) : tgtF (.var i) d ρ = some (ρ.set i (.val d)) := id rfl
@[simp] theorem tru_non : truD .non = some false := id rfl
@[simp] theorem tru_bl (b) : truD (.bl b) = some b := id rfl
@[simp] theorem tru_int (i) : truD (.int i) = some (i != 0) := id rfl
@[simp] theorem tru_str (s : Str) : truD (.str s) = some ((s.length : Int) != 0) := id rfl
@[simp] theorem tru_tup (ds) : truD (.tup ds) = some (!ds.isEmpty) := id rfl
@[simp] theorem tru_lst (ds) : truD (.lst ds) = some (!ds.isEmpty) := id rfl
@[simp] theorem int_int (i) : intD (.int i) = some i := id rfl
@[simp] theorem str_str (s) : strD (.str s) = some s := id rfl
@[simp] theorem add_int (i j) : binD .Add (.int i) (.int j) = some (.val (.int (i + j))) := id rfl
@[simp] theorem sub_int (i j) : binD .Sub (.int i) (.int j) = some (.val (.int (i - j))) := id rfl
theorem mul_int {i j : Int} (h : mulOk i j = true) : binD .Mult (.int i) (.int j) = some (.val (.int (i * j))) := by
  show (if mulOk i j = true then _ else _) = _
  rw [if_pos h]
theorem fdiv_int {i j : Int} (h : 0 < j ∧ j.natAbs.log2 < 9000) : binD .FloorDiv (.int i) (.int j) = some (.val (.int (i / j))) := by
  show (if 0 < j ∧ j.natAbs.log2 < 9000 then _ else _) = _
  rw [if_pos h]
theorem mod_int {i j : Int} (h : 0 < j) : binD .Mod (.int i) (.int j) = some (.val (.int (i % j))) := by
  show (if 0 < j then _ else _) = _
  rw [if_pos h]
theorem add_tup {s t : List Dat} (h : s.length + t.length ≤ sizeLine) : binD .Add (.tup s) (.tup t) = some (.val (.tup (s ++ t))) := by
  show (if s.length + t.length ≤ sizeLine then _ else _) = _
  rw [if_pos h]
theorem add_lst {s t : List Dat} (h : s.length + t.length ≤ sizeLine) : binD .Add (.lst s) (.lst t) = some (.own (.lst (s ++ t))) := by
  show (if s.length + t.length ≤ sizeLine then _ else _) = _
  rw [if_pos h]
theorem mul_tup {s : List Dat} {k : Int} (h : k ≤ 1000 ∧ -1000 ≤ k ∧ s.length ≤ 1000) : binD .Mult (.tup s) (.int k) = some (.val (.tup (List.replicate k.toNat s).flatten)) := by
  show (if k ≤ 1000 ∧ -1000 ≤ k ∧ s.length ≤ 1000 then _ else _) = _
  rw [if_pos h]
@[simp] theorem cmp_lt (i j : Int) : cmpD .Lt (.int i) (.int j) = some (decide (i < j)) := id rfl
@[simp] theorem cmp_le (i j : Int) : cmpD .LtE (.int i) (.int j) = some (decide (i ≤ j)) := id rfl
@[simp] theorem cmp_gt (i j : Int) : cmpD .Gt (.int i) (.int j) = some (decide (j < i)) := id rfl
@[simp] theorem cmp_ge (i j : Int) : cmpD .GtE (.int i) (.int j) = some (decide (j ≤ i)) := id rfl
@[simp] theorem cmp_eq (d e) : cmpD .Eq d e = eqD d e := id rfl
@[simp] theorem cmp_ne (d e) : cmpD .NotEq d e = (eqD d e).map not := id rfl
@[simp] theorem cmp_in (d e) : cmpD .In d e = inD d e := id rfl
@[simp] theorem cmp_nin (d e) : cmpD .NotIn d e = (inD d e).map not := id rfl
@[simp] theorem eq_int' (i j : Int) : eqD (.int i) (.int j) = some (decide (i = j)) := by simp [eqD, Dat.plain, Dat.dep, eqv]; rfl
@[simp] theorem eq_str' (i j : Str) : eqD (.str i) (.str j) = some (decide (i = j)) := by
  simp [eqD, Dat.plain, Dat.dep, eqv]
  exact Bool.beq_eq_decide_eq _ _
@[simp] theorem idx_tup (M : MH) (ds i) : idxD M (.tup ds) (.int i) = L2.atI ds i := id rfl
@[simp] theorem idx_lst (M : MH) (ds i) : idxD M (.lst ds) (.int i) = L2.atI ds i := id rfl
@[simp] theorem at0 {α : Type} (a : α) (l : List α) : L2.atI (a :: l) 0 = some a := by
  unfold L2.atI ixN; simp
@[simp] theorem at1 {α : Type} (a b : α) (l : List α) : L2.atI (a :: b :: l) 1 = some b := by
  unfold L2.atI ixN
  rw [if_pos (by omega), if_pos (by simp; omega)]; rfl
@[simp] theorem at2 {α : Type} (a b c : α) (l : List α) : L2.atI (a :: b :: c :: l) 2 = some c := by
  unfold L2.atI ixN
  rw [if_pos (by omega), if_pos (by simp; omega)]; rfl
@[simp] theorem len_tup (M : MH) (ds : List Dat) : callD M .len (.tup ds) = some (.val (.int ds.length)) := id rfl
@[simp] theorem len_lst (M : MH) (ds : List Dat) : callD M .len (.lst ds) = some (.val (.int ds.length)) := id rfl
@[simp] theorem tup_tup (M : MH) (ds : List Dat) : callD M .tuple (.tup ds) = some (.val (.tup ds)) := id rfl
@[simp] theorem tup_lst (M : MH) (ds : List Dat) : callD M .tuple (.lst ds) = some (.val (.tup ds)) := id rfl
@[simp] theorem lst_tup (M : MH) (ds : List Dat) : callD M .list (.tup ds) = some (.own (.lst ds)) := id rfl
@[simp] theorem lst_lst (M : MH) (ds : List Dat) : callD M .list (.lst ds) = some (.own (.lst ds)) := id rfl
@[simp] theorem abs_int (M : MH) (i : Int) : callD M .abs (.int i) = some (.val (.int (if i < 0 then -i else i))) := id rfl
@[simp] theorem int_int' (M : MH) (i : Int) : callD M .int (.int i) = some (.val (.int i)) := id rfl
@[simp] theorem int_bl (M : MH) (b : Bool) : callD M .int (.bl b) = some (.val (.int (if b then 1 else 0))) := id rfl
@[simp] theorem part_nil : partD [] = some none := id rfl
@[simp] theorem part_int (i : Int) : partD [.int i] = some (some i) := id rfl
@[simp] theorem slc_tup (lo hi ds) : slcD lo hi (.tup ds) = some (.val (.tup (cutD ds lo hi))) := id rfl
@[simp] theorem slc_lst (lo hi ds) : slcD lo hi (.lst ds) = some (.own (.lst (cutD ds lo hi))) := id rfl
@[simp] theorem rev_tup (ds) : revD (.tup ds) = some (.val (.tup ds.reverse)) := id rfl
@[simp] theorem rev_lst (ds) : revD (.lst ds) = some (.own (.lst ds.reverse)) := id rfl
@[simp] theorem is_int_int (i) : isD .int (.int i) = some true := id rfl
@[simp] theorem is_tup_tup (i) : isD .tuple (.tup i) = some true := id rfl
@[simp] theorem is_str_str (i) : isD .str (.str i) = some true := id rfl
@[simp] theorem pl_non : Dat.plain .non = true := by rw [Dat.plain]
@[simp] theorem pl_bl (b) : Dat.plain (.bl b) = true := by rw [Dat.plain]
@[simp] theorem pl_int (b) : Dat.plain (.int b) = true := by rw [Dat.plain]
@[simp] theorem pl_str (b) : Dat.plain (.str b) = true := by rw [Dat.plain]
@[simp] theorem pl_tup (ds) : Dat.plain (.tup ds) = plainAll ds := by rw [Dat.plain]
@[simp] theorem pl_lst (ds) : Dat.plain (.lst ds) = plainAll ds := by rw [Dat.plain]
@[simp] theorem pls_nil : plainAll [] = true := by rw [plainAll]
@[simp] theorem pls_cons (d ds) : plainAll (d :: ds) = (d.plain && plainAll ds) := by rw [plainAll]
@[simp] theorem dep_non : Dat.dep .non = 0 := by simp [Dat.dep]
@[simp] theorem dep_bl (b) : Dat.dep (.bl b) = 0 := by simp [Dat.dep]
@[simp] theorem dep_int (b) : Dat.dep (.int b) = 0 := by simp [Dat.dep]
@[simp] theorem dep_str (b) : Dat.dep (.str b) = 0 := by simp [Dat.dep]
@[simp] theorem dep_tup (b) : Dat.dep (.tup b) = 1 + depAll b := by rw [Dat.dep]
@[simp] theorem dep_lst (b) : Dat.dep (.lst b) = 1 + depAll b := by rw [Dat.dep]
@[simp] theorem deps_nil : depAll [] = 0 := by rw [depAll]
@[simp] theorem deps_cons (d ds) : depAll (d :: ds) = max d.dep (depAll ds) := by rw [depAll]
@[simp] theorem eqv_tup (xs ys) : eqv (.tup xs) (.tup ys) = eqvAll xs ys := by rw [eqv]
@[simp] theorem eqv_lst (xs ys) : eqv (.lst xs) (.lst ys) = eqvAll xs ys := by rw [eqv]
@[simp] theorem eqvs_nil : eqvAll [] [] = true := by rw [eqvAll]
@[simp] theorem eqvs_cons (x xs y ys) : eqvAll (x :: xs) (y :: ys) = (eqv x y && eqvAll xs ys) := by rw [eqvAll]
@[simp] theorem eqvs_nc (y ys) : eqvAll [] (y :: ys) = false := by simp [eqvAll]
@[simp] theorem eqvs_cn (y ys) : eqvAll (y :: ys) [] = false := by simp [eqvAll]
@[simp] theorem fsetnil (ρ : Env) : setAll ρ [] = ρ := id rfl
@[simp] theorem fsetcons (ρ : Env) (p ps) : setAll ρ (p :: ps) = setAll (ρ.set p.1 p.2) ps := id rfl
theorem tgt_tup {is : List Nat} {ds : List Dat} {ρ : Env} (h : is.length = ds.length) : tgtF (.tup is) (.tup ds) ρ = some (setAll ρ (is.zip (ds.map Sl.val))) := by
  show (if is.length = ds.length then _ else _) = _
  rw [if_pos h]
@[simp] theorem eqv_str (x y : Str) : eqv (.str x) (.str y) = decide (x = y) := by
  rw [eqv]; exact Bool.beq_eq_decide_eq x y
@[simp] theorem eqv_int (x y : Int) : eqv (.int x) (.int y) = decide (x = y) := by
  rw [eqv]; exact Bool.beq_eq_decide_eq x y
@[simp ↓] theorem dat_lst (ds : List Dat) : (Own.lst ds).dat = .lst ds := id rfl

/-! ### comprehensions of one clause -/
theorem lcOut_inv {body : Dat → List Dat → MH → (List Dat → MH → Prop) → Prop} {P : List Dat → MH → Prop} (I : List Dat → List Dat → MH → Prop)
    (hb : ∀ d ds acc M, I (d :: ds) acc M → body d acc M fun acc M => I ds acc M) (mono : ∀ d acc M (k k' : List Dat → MH → Prop), (∀ a m, k a m → k' a m) → body d acc M k → body d acc M k') (hf : ∀ acc M, I [] acc M → P acc M) :
    ∀ ds acc M, I ds acc M → lcOut body ds acc M P
  | [], acc, M, h => hf _ _ h
  | d :: ds, acc, M, h => mono _ _ _ _ _ (fun a m z => lcOut_inv I hb mono hf ds a m z) (hb d ds acc M h)
section
variable {Γ : Kn} {elt : E} {t : Tg} {it : It} {ifs : Es} {own : List Nat} {ρ : Env} {M : MH} {P : List Dat → MH → Prop}
theorem lcS_inv (I : List Dat → List Dat → MH → Prop) (hn : noOwn ρ own = true) (hs : wpIt Γ (fun _ _ => False) false it ρ M fun ds ρ1 M1 => ρ1 = ρ ∧ I ds [] M1)
    (hb : ∀ d ds acc M, I (d :: ds) acc M → oP (tgtF t d (wipeE ρ own)) fun ρ2 => wpIf Γ (fun _ _ => False) ifs ρ2 M fun b ρ3 M3 => ρ3 = ρ2 ∧ (b = false → I ds acc M3) ∧ (b = true → wpE Γ (fun _ _ => False) elt ρ2 M3 fun r ρ4 M4 => oQ (escD r ρ4) fun v ρ5 => ρ5 = ρ2 ∧ acc.length < sizeLine ∧ I ds (acc ++ [v]) M4))
    (hf : ∀ acc M, I [] acc M → P acc M) : lcS Γ elt (.cons t it ifs .nil) own ρ M P := by
  unfold lcS wpG
  refine ⟨hn, wpIt_mono it (fun ds ρ1 M1 ⟨e, h⟩ => ⟨e, ?_⟩) hs⟩
  refine lcOut_inv I ?_ ?_ hf _ _ _ h
  · intro d ds acc M h
    refine oP_mono (hb d ds acc M h) fun ρ2 _ h2 => wpIf_mono ifs (fun b ρ3 M3 ⟨e1, e2, e3⟩ => ⟨e1, ?_⟩) h2
    cases b with
    | false => exact e2 rfl
    | true =>
      show wpG Γ _ _ _ _ _ _ _ _
      unfold wpG
      refine wpE_mono elt (fun r ρ4 M4 h4 => ?_) (e3 rfl)
      refine oP_mono (show oP (escD r ρ4) fun p => p.2 = ρ2 ∧ acc.length < sizeLine ∧ I ds (acc ++ [p.1]) M4 from h4) fun p _ h5 => h5
  · intro d acc M k k' g h
    refine oP_mono h fun ρ2 _ h2 => wpIf_mono ifs (fun b ρ3 M3 ⟨e1, e2⟩ => ⟨e1, ?_⟩) h2
    cases b with
    | false => exact g _ _ e2
    | true => exact wpG_mono .nil (fun ρ M k k' g h => wpE_mono elt (fun _ _ _ h => oP_mono h fun _ _ h => ⟨h.1, g _ _ h.2⟩) h) g e2
/-- .. that changes nothing: f of each -/
theorem lcS_fm (ds : List Dat) (f : Dat → Option Dat) (hn : noOwn ρ own = true) (hl : ds.length ≤ sizeLine) (hs : wpIt Γ (fun _ _ => False) false it ρ M fun ds' ρ1 M1 => ρ1 = ρ ∧ ds' = ds ∧ M1 = M)
    (hb : ∀ d, d ∈ ds → oP (tgtF t d (wipeE ρ own)) fun ρ2 => wpIf Γ (fun _ _ => False) ifs ρ2 M fun b ρ3 M3 => ρ3 = ρ2 ∧ M3 = M ∧ (b = false → f d = none) ∧ (b = true → wpE Γ (fun _ _ => False) elt ρ2 M fun r ρ4 M4 => oQ (escD r ρ4) fun v ρ5 => ρ5 = ρ2 ∧ M4 = M ∧ f d = some v))
    (hP : P (ds.filterMap f) M) : lcS Γ elt (.cons t it ifs .nil) own ρ M P := by
  refine lcS_inv (fun ds' acc M' => M' = M ∧ ∃ pre, ds = pre ++ ds' ∧ acc = pre.filterMap f) hn (wpIt_mono it (fun ds' ρ1 M1 ⟨h1, h2, h3⟩ => ⟨h1, h3, [], by simp [h2], rfl⟩) hs) ?_ ?_
  · rintro d ds' acc M' ⟨rfl, pre, rfl, rfl⟩
    refine oP_mono (hb d (by simp)) fun ρ2 _ h2 => wpIf_mono ifs (fun b ρ3 M3 ⟨e1, e2, e3, e4⟩ => ⟨e1, fun hbb => ?_, fun hbb => ?_⟩) h2
    · exact ⟨e2, pre ++ [d], by simp, by simp [e3 hbb]⟩
    · subst e2
      refine wpE_mono elt (fun r ρ4 M4 h4 => ?_) (e4 hbb)
      have h4 : oP (escD r ρ4) fun p => p.2 = ρ2 ∧ M4 = M3 ∧ f d = some p.1 := h4
      show oP (escD r ρ4) fun p => p.2 = ρ2 ∧ _ ∧ _
      refine oP_mono h4 fun p _ ⟨h5, h6, h7⟩ => ⟨h5, ?_, h6, pre ++ [d], by simp, by simp [h7]⟩
      have := List.length_filterMap_le f pre
      simp at hl
      omega
  · rintro acc M' ⟨rfl, pre, h1, rfl⟩
    simp at h1
    subst h1
    exact hP
theorem lcS_map (ds : List Dat) (f : Dat → Dat) (hn : noOwn ρ own = true) (hl : ds.length ≤ sizeLine) (hs : wpIt Γ (fun _ _ => False) false it ρ M fun ds' ρ1 M1 => ρ1 = ρ ∧ ds' = ds ∧ M1 = M)
    (hb : ∀ d, d ∈ ds → oP (tgtF t d (wipeE ρ own)) fun ρ2 => wpE Γ (fun _ _ => False) elt ρ2 M fun r ρ4 M4 => oQ (escD r ρ4) fun v ρ5 => ρ5 = ρ2 ∧ M4 = M ∧ f d = v)
    (hP : P (ds.map f) M) : lcS Γ elt (.cons t it .nil .nil) own ρ M P := by
  refine lcS_fm ds (fun d => some (f d)) hn hl hs (fun d hd => ?_) (by rw [List.filterMap_eq_map']; exact hP)
  refine oP_mono (hb d hd) fun ρ2 _ h2 => ?_
  show ρ2 = ρ2 ∧ M = M ∧ _ ∧ _
  refine ⟨rfl, rfl, fun z => (nomatch z), fun _ => wpE_mono elt (fun r ρ4 M4 h => ?_) h2⟩
  have h : oP (escD r ρ4) fun p => p.2 = ρ2 ∧ M4 = M ∧ f d = p.1 := h
  show oP (escD r ρ4) fun p => p.2 = ρ2 ∧ M4 = M ∧ some (f d) = some p.1
  exact oP_mono h fun p _ ⟨a, b, c⟩ => ⟨a, b, by rw [c]⟩
end
section
variable {Γ : Kn} {elt : E} {t : Tg} {it : It} {ifs : Es} {own : List Nat} {ρ : Env} {M : MH} {P : List Dat → MH → Prop}
/-- .. over things by an encoding -/
theorem lcS_fmE {α : Type} (l : List α) (enc : α → Dat) (f : α → Option Dat) (hn : noOwn ρ own = true) (hl : l.length ≤ sizeLine) (hs : wpIt Γ (fun _ _ => False) false it ρ M fun ds' ρ1 M1 => ρ1 = ρ ∧ ds' = l.map enc ∧ M1 = M)
    (hb : ∀ a, a ∈ l → oP (tgtF t (enc a) (wipeE ρ own)) fun ρ2 => wpIf Γ (fun _ _ => False) ifs ρ2 M fun b ρ3 M3 => ρ3 = ρ2 ∧ M3 = M ∧ (b = false → f a = none) ∧ (b = true → wpE Γ (fun _ _ => False) elt ρ2 M fun r ρ4 M4 => oQ (escD r ρ4) fun v ρ5 => ρ5 = ρ2 ∧ M4 = M ∧ f a = some v))
    (hP : P (l.filterMap f) M) : lcS Γ elt (.cons t it ifs .nil) own ρ M P := by
  refine lcS_inv (fun ds' acc M' => M' = M ∧ ∃ pre rest, l = pre ++ rest ∧ ds' = rest.map enc ∧ acc = pre.filterMap f) hn (wpIt_mono it (fun ds' ρ1 M1 ⟨h1, h2, h3⟩ => ⟨h1, h3, [], l, rfl, h2, rfl⟩) hs) ?_ ?_
  · rintro d ds' acc M' ⟨rfl, pre, rest, rfl, h2, rfl⟩
    cases rest with
    | nil => cases h2
    | cons a rest =>
      rw [List.map_cons] at h2
      obtain ⟨rfl, rfl⟩ := List.cons.inj h2
      refine oP_mono (hb a (by simp)) fun ρ2 _ h2 => wpIf_mono ifs (fun b ρ3 M3 ⟨e1, e2, e3, e4⟩ => ⟨e1, fun hbb => ?_, fun hbb => ?_⟩) h2
      · exact ⟨e2, pre ++ [a], rest, by simp, rfl, by simp [e3 hbb]⟩
      · subst e2
        refine wpE_mono elt (fun r ρ4 M4 h4 => ?_) (e4 hbb)
        have h4 : oP (escD r ρ4) fun p => p.2 = ρ2 ∧ M4 = M3 ∧ f a = some p.1 := h4
        show oP (escD r ρ4) fun p => p.2 = ρ2 ∧ _ ∧ _
        refine oP_mono h4 fun p _ ⟨h5, h6, h7⟩ => ⟨h5, ?_, h6, pre ++ [a], rest, by simp, rfl, by simp [h7]⟩
        have := List.length_filterMap_le f pre
        simp at hl
        omega
  · rintro acc M' ⟨rfl, pre, rest, h1, h2, rfl⟩
    obtain rfl : rest = [] := by simpa using h2.symm
    simp at h1
    subst h1
    exact hP
theorem lcS_mapE {α : Type} (l : List α) (enc : α → Dat) (f : α → Dat) (hn : noOwn ρ own = true) (hl : l.length ≤ sizeLine) (hs : wpIt Γ (fun _ _ => False) false it ρ M fun ds' ρ1 M1 => ρ1 = ρ ∧ ds' = l.map enc ∧ M1 = M)
    (hb : ∀ a, a ∈ l → oP (tgtF t (enc a) (wipeE ρ own)) fun ρ2 => wpE Γ (fun _ _ => False) elt ρ2 M fun r ρ4 M4 => oQ (escD r ρ4) fun v ρ5 => ρ5 = ρ2 ∧ M4 = M ∧ f a = v)
    (hP : P (l.map f) M) : lcS Γ elt (.cons t it .nil .nil) own ρ M P := by
  refine lcS_fmE l enc (fun d => some (f d)) hn hl hs (fun d hd => ?_) (by rw [List.filterMap_eq_map']; exact hP)
  refine oP_mono (hb d hd) fun ρ2 _ h2 => ?_
  show ρ2 = ρ2 ∧ M = M ∧ _ ∧ _
  refine ⟨rfl, rfl, fun z => (nomatch z), fun _ => wpE_mono elt (fun r ρ4 M4 h => ?_) h2⟩
  have h : oP (escD r ρ4) fun p => p.2 = ρ2 ∧ M4 = M ∧ f d = p.1 := h
  show oP (escD r ρ4) fun p => p.2 = ρ2 ∧ M4 = M ∧ some (f d) = some p.1
  exact oP_mono h fun p _ ⟨a, b, c⟩ => ⟨a, b, by rw [c]⟩
end
@[simp ↓] theorem itD_val (d : Dat) (ρ : Env) : itD false (.val d) ρ = (seqD d).map fun ds => (ds, ρ) := id rfl
@[simp ↓] theorem itD_valT (d : Dat) (ρ : Env) : itD true (.val d) ρ = (seqD d).map fun ds => (ds, ρ) := id rfl
@[simp ↓] theorem itD_own (ds : List Dat) (ρ : Env) : itD false (.own (.lst ds)) ρ = some (ds, ρ) := id rfl
@[simp ↓] theorem itD_ownT (ds : List Dat) (ρ : Env) : itD true (.own (.lst ds)) ρ = some (ds, ρ) := id rfl
@[simp ↓] theorem seq_tup (ds : List Dat) : seqD (.tup ds) = some ds := id rfl
@[simp ↓] theorem seq_lst (ds : List Dat) : seqD (.lst ds) = some ds := id rfl
end Mi

set_option maxHeartbeats 4000000
/-! Mi20: the texts that the program and the laws write. -/
namespace Mi
open PySem PySem.Spec PyProof.Rows L2
def txts0 : List Str := ["add", "less", "times", "part", "greater", "copy", "swap", "more", "nines", "left", "right", "again", "no kind", "no text", " ", "too many", "InvalidFactors", "InvalidFrame", "InvalidIndex", "InvalidKind"]
def txts1 : List Str := ["InvalidNumber", "InvalidParts", "InvalidStep", "InvalidText", "NothingToUndo", "TooMany", "Unlike", "+", "told", "no number", "no frame", "InvalidText +", "", "0", "InvalidNumber +", "InvalidFrame +", "no parts", "more 0", "no factors", "\n"]
def txts2 : List Str := ["0123456789", "end", "again ", "no step", "no steps", "nothing to undo", "an abacus is not iterated over", "x", "InvalidKind +", "frame", "2", "1", "not as many numbers", "unlike kinds", "no rod", "a frame is not iterated over", "InvalidStep +", "TooMany +", "NothingToUndo +", "InvalidFactors +"]
def txts3 : List Str := ["InvalidParts +", "again 2\nmore 0\nend", "3", "4", "5", "6", "7", "8", "9", "again 2", "add 0 0", "times 0 1", "part 0 9", "left 3", "again 5", "end 1", "More 0", "copy 0", "nines 0 0", "times 0 02"]
def txts4 : List Str := ["swap 0  0", "again 2 2", "add 0 -1", "again 2\nend", "again 2\nmore 0", "again 2\nagain 2\nmore 0\nend\nend", "more 0\n\nmore 0", "add 0", "more 0\nmore 00", "InvalidIndex +", "Unlike +", "no piece", ":", "2 1 1"]
def txts : List Str := txts0 ++ txts1 ++ txts2 ++ txts3 ++ txts4
def wS (i : Nat) : Str := txts.getD i Str.empty
theorem txts_ne : (List.range 94).all (fun i => (List.range 94).all fun j => decide (wS i = wS j) == decide (i = j)) = true := by decide +kernel
@[simp] theorem wS_eq {i j : Nat} (hi : i < 94) (hj : j < 94) : (wS i = wS j) ↔ i = j := by
  have h1 := List.all_eq_true.mp txts_ne i (List.mem_range.mpr hi)
  have h2 := eq_of_beq (List.all_eq_true.mp h1 j (List.mem_range.mpr hj))
  constructor
  · intro e; exact of_decide_eq_true (h2 ▸ decide_eq_true e)
  · intro e; exact of_decide_eq_true (h2.symm ▸ decide_eq_true e)
end Mi

set_option maxHeartbeats 400000
/-! A1: kinds. -/
namespace Mi
open PySem PySem.Spec PyProof.Rows L2
def tab_SHAPES : List (Str × Dat) := [((wS 0), (.int 3)), ((wS 1), (.int 3)), ((wS 2), (.int 3)), ((wS 3), (.int 3)), ((wS 4), (.int 3)), ((wS 5), (.int 3)), ((wS 6), (.int 3)), ((wS 7), (.int 2)), ((wS 8), (.int 2)), ((wS 9), (.int 2)), ((wS 10), (.int 2))]
/-! is_int(value, low, high) -/
def N_is_int : List Str := ["value", "low", "high"]
def b_is_int : Ss := (.cons (.ret (.bop .And (.cons (.isi (.var 0) .int) (.cons (.not (.isi (.var 0) .bool)) (.cons (.chn .LtE .LtE (.var 1) (.var 0) (.var 2)) .nil)))))
    .nil)
def g_is_int : Kn := kn [] [] []

def isInt (v : Dat) (lo hi : Int) : Bool := match v with
  | .int i => decide (lo ≤ i) && decide (i ≤ hi)
  | _ => false
def sp_is_int : Spec := pur (fun (a : Dat × Int × Int) => [a.1, .int a.2.1, .int a.2.2]) (fun a => a.1.plain = true) (fun a => .val (.bl (isInt a.1 a.2.1 a.2.2)))
theorem k_is_int : Keeps g_is_int N_is_int.length 3 b_is_int sp_is_int := by
  rintro ds M Q X ⟨⟨v, lo, hi⟩, rfl, hv, hQ⟩
  refine ⟨rfl, ?_⟩
  simp only at hQ hv
  simp [b_is_int, startE, N_is_int]
  cases v <;> simp [isD, truD, cmpD, ordD, isInt, Dat.plain] at hQ hv ⊢ <;> try assumption
  rename_i i
  by_cases h : lo ≤ i <;> simp [h, cmpD, ordD] at hQ ⊢ <;> exact hQ
@[simp ↓, simp] theorem is_int_go {M : MH} {X : PX} {P : PE_} {ρ : Env} {v : Dat} {lo hi : Int} (hv : v.plain = true) : callS sp_is_int [v, .int lo, .int hi] M X P ρ = P (.val (.bl (isInt v lo hi))) ρ M :=
  callS_pur (v, lo, hi) rfl hv (by rintro ⟨a, b, c⟩ h; cases h; rfl)
theorem isInt_true {v : Dat} {lo hi : Int} : isInt v lo hi = true ↔ ∃ i, v = .int i ∧ lo ≤ i ∧ i ≤ hi := by
  cases v <;> simp [isInt]
@[simp] theorem isInt_int {i lo hi : Int} : isInt (.int i) lo hi = (decide (lo ≤ i) && decide (i ≤ hi)) := rfl
theorem rngL_zero (lo : Int) : rngL lo 0 = [] := rfl
theorem rngL_succ (lo : Int) (n : Nat) : rngL lo (n + 1) = .int lo :: rngL (lo + 1) n := by
  unfold rngL
  rw [List.range_succ_eq_map, List.map_cons, List.map_map]
  congr 1
  · simp
  · apply List.map_congr_left
    intro i _
    simp; omega
theorem rngL_cons {lo : Int} {n : Nat} {d : Dat} {ds : List Dat} (h : d :: ds = rngL lo n) : ∃ m, n = m + 1 ∧ d = .int lo ∧ ds = rngL (lo + 1) m := by
  cases n with
  | zero => cases h
  | succ m =>
    rw [rngL_succ] at h
    cases h
    exact ⟨m, rfl, rfl, rfl⟩
theorem rngL_nil {lo : Int} {n : Nat} (h : [] = rngL lo n) : n = 0 := by
  cases n with
  | zero => rfl
  | succ m => rw [rngL_succ] at h; cases h
/-! power(base, many) -/
def N_power : List Str := ["base", "many", "found", "turn"]
def b_power : Ss := (.cons (.asg 2 (.cst (.int 1)))
    (.cons (.for_ (.var 3) (.rng (.cons (.var 1) .nil))
    (.cons (.asg 2 (.bin .Mult (.var 2) (.var 0)))
    .nil))
    (.cons (.ret (.var 2))
    .nil)))
def g_power : Kn := kn [] [] []

def sp_power : Spec := pur (fun (a : Int × Int) => [.int a.1, .int a.2]) (fun a => a.1.natAbs < 2 ^ 64 ∧ 0 ≤ a.2 ∧ a.2 < 2 ^ 62) (fun a => .val (.int (a.1 ^ a.2.toNat)))
theorem k_power : Keeps g_power N_power.length 2 b_power sp_power := by
  rintro ds M Q X ⟨⟨b, n⟩, rfl, ⟨hb, hn, hn2⟩, hQ⟩
  refine ⟨rfl, ?_⟩
  simp only at hQ hb hn hn2
  simp [b_power, startE, N_power, rngD]
  rw [if_pos (by constructor <;> omega)]
  simp
  refine forS_inv (fun ds ρ M' => M' = M ∧ ∃ (k m : Nat) (x : Sl), ds = rngL k m ∧ k + m = n.toNat ∧ ρ = [.val (.int b), .val (.int n), .val (.int (b ^ k)), x]) ⟨rfl, 0, n.toNat, .no, rfl, by omega, by simp⟩ ?_ ?_
  · rintro ρ M ⟨rfl, k, m, x, h1, h2, rfl⟩
    have := rngL_nil h1
    have : k = n.toNat := by omega
    subst this
    simpa using hQ
  · rintro d ds ρ M ⟨rfl, k, m, x, h1, h2, rfl⟩
    obtain ⟨m', rfl, rfl, rfl⟩ := rngL_cons h1
    simp [binD, mulD]
    rw [if_pos (by simp [mulOk]; omega)]
    simp
    exact ⟨k + 1, m', ⟨by push_cast; rfl, by omega, by rw [Int.pow_succ]⟩⟩
@[simp ↓, simp] theorem power_go {M : MH} {X : PX} {P : PE_} {ρ : Env} {b n : Int} (hb : b.natAbs < 2 ^ 64) (h0 : 0 ≤ n) (h1 : n < 2 ^ 62) : callS sp_power [.int b, .int n] M X P ρ = P (.val (.int (b ^ n.toNat))) ρ M :=
  callS_pur (b, n) rfl ⟨hb, h0, h1⟩ (by rintro ⟨a, b⟩ h; cases h; rfl)
/-! is_kind(value) -/
def N_is_kind : List Str := ["value"]
def b_is_kind : Ss := (.cons (.ife (.bop .Or (.cons (.not (.isi (.var 0) .tuple)) (.cons (.cmp .NotEq (.bf .len (.var 0)) (.cst (.int 3))) (.cons (.not (.call "is_int" (.cons (.idx (.var 0) (.cst (.int 0))) (.cons (.cst (.int 2)) (.cons (.cst (.int 10)) .nil))))) .nil))))
    (.cons (.ret (.cst (.bl false)))
    .nil)
    .nil)
    (.cons (.ife (.bop .Or (.cons (.not (.call "is_int" (.cons (.idx (.var 0) (.cst (.int 1))) (.cons (.cst (.int 1)) (.cons (.idx (.var 0) (.cst (.int 0))) .nil))))) (.cons (.not (.call "is_int" (.cons (.idx (.var 0) (.cst (.int 2))) (.cons (.cst (.int 1)) (.cons (.cst (.int 3)) .nil))))) .nil)))
    (.cons (.ret (.cst (.bl false)))
    .nil)
    .nil)
    (.cons (.ret (.cmp .LtE (.call "power" (.cons (.idx (.var 0) (.cst (.int 0))) (.cons (.idx (.var 0) (.cst (.int 2))) .nil))) (.glb "MOST_LETTERS")))
    .nil)))
def g_is_kind : Kn := kn [("power", sp_power), ("is_int", sp_is_int)] [("MOST_LETTERS", (.int 100))] []
@[simp ↓] theorem g_is_kind_power : g_is_kind.fn "power" = some sp_power := by kernel_rfl
@[simp ↓] theorem g_is_kind_is_int : g_is_kind.fn "is_int" = some sp_is_int := by kernel_rfl
@[simp ↓] theorem g_is_kind_MOST_LETTERS : g_is_kind.gl "MOST_LETTERS" = some (.int 100) := by kernel_rfl

def isKind (v : Dat) : Bool := match v with
  | .tup [.int b, .int f, .int d] => decide (2 ≤ b ∧ b ≤ 10 ∧ 1 ≤ f ∧ f ≤ b ∧ 1 ≤ d ∧ d ≤ 3 ∧ b ^ d.toNat ≤ 100)
  | _ => false
def sp_is_kind : Spec := pur (fun (v : Dat) => [v]) (fun v => v.plain = true) (fun v => .val (.bl (isKind v)))
theorem k_is_kind : Keeps g_is_kind N_is_kind.length 1 b_is_kind sp_is_kind := by
  rintro ds M Q X ⟨v, rfl, hv, hQ⟩
  refine ⟨rfl, ?_⟩
  simp only at hQ hv
  simp [b_is_kind, startE, N_is_kind]
  cases v with
  | tup ds =>
    match ds with
    | [a, b, c] =>
      simp at hv
      simp [hv]
      by_cases ha : isInt a 2 10 = true
      · obtain ⟨a, rfl, h1, h2⟩ := isInt_true.mp ha
        simp [hv, h1, h2]
        by_cases hb : isInt b 1 a = true
        · obtain ⟨b, rfl, h3, h4⟩ := isInt_true.mp hb
          simp [hv, h3, h4]
          by_cases hc : isInt c 1 3 = true
          · obtain ⟨c, rfl, h5, h6⟩ := isInt_true.mp hc
            have e1 : a.natAbs < 2 ^ 64 := by omega
            have e2 : 0 ≤ c := by omega
            have e3 : c < 2 ^ 62 := by omega
            simp [h5, h6]
            rw [power_go e1 e2 e3]
            simpa [isKind, h1, h2, h3, h4, h5, h6] using hQ
          · have : isKind (.tup [.int a, .int b, c]) = false := by
              cases c <;> simp [isKind, isInt] at hc ⊢
              omega
            rw [this] at hQ
            simp at hc
            simp [hc, hQ]
        · have : isKind (.tup [.int a, b, c]) = false := by
            cases b <;> cases c <;> simp [isKind, isInt] at hb ⊢
            omega
          rw [this] at hQ
          simp at hb
          simp [hb, hQ]
      · have : isKind (.tup [a, b, c]) = false := by
          cases a <;> cases b <;> cases c <;> simp [isKind, isInt] at ha ⊢
          omega
        rw [this] at hQ
        simp at ha
        simp [ha, hQ]
    | [] => simp; exact hQ
    | [_] => simp; simpa [isKind] using hQ
    | [_, _] => simp; simpa [isKind] using hQ
    | _ :: _ :: _ :: _ :: l =>
      have e : ¬ ((l.length : Int) + 1 + 1 + 1 + 1 = 3) := by omega
      simp [e]
      simpa [isKind] using hQ
  | _ => first | (simp [isD]; exact hQ) | (simp [Dat.plain] at hv)
@[simp ↓, simp] theorem is_kind_go {M : MH} {X : PX} {P : PE_} {ρ : Env} {v : Dat} (hv : v.plain = true) : callS sp_is_kind [v] M X P ρ = P (.val (.bl (isKind v))) ρ M :=
  callS_pur v rfl hv (by rintro a h; cases h; rfl)
end Mi

set_option maxHeartbeats 1000000
/-! B2: kinds, steps, texts by types. -/
namespace Mi
open PySem PySem.Spec PyProof.Rows L2

structure Kd where
  b : Int
  f : Int
  d : Int
def kD (k : Kd) : Dat := .tup [.int k.b, .int k.f, .int k.d]
structure OkK (k : Kd) : Prop where
  b1 : 2 ≤ k.b
  b2 : k.b ≤ 10
  f1 : 1 ≤ k.f
  f2 : k.f ≤ k.b
  d1 : 1 ≤ k.d
  d2 : k.d ≤ 3
  p : k.b ^ k.d.toNat ≤ 100
inductive Wd where
  | add | less | times | part | greater | copy | swap | more | nines | left | right
  deriving DecidableEq
def Wd.n : Wd → Nat
  | .add => 0 | .less => 1 | .times => 2 | .part => 3 | .greater => 4 | .copy => 5 | .swap => 6 | .more => 7 | .nines => 8 | .left => 9 | .right => 10
def Wd.tri : Wd → Bool
  | .more => false | .nines => false | .left => false | .right => false
  | _ => true
structure Pl where
  w : Wd
  i : Int
  x : Int
def plD (p : Pl) : Dat := match p.w.tri with
  | true => .tup [.str (wS p.w.n), .int p.i, .int p.x]
  | false => .tup [.str (wS p.w.n), .int p.i]
def OkPl (k : Kd) (p : Pl) : Prop := 0 ≤ p.i ∧ p.i < k.d ∧ match p.w with
  | .times => 2 ≤ p.x ∧ p.x ≤ 9
  | .part => 2 ≤ p.x ∧ p.x ≤ 9
  | .more => True | .nines => True | .left => True | .right => True
  | _ => 0 ≤ p.x ∧ p.x < k.d
inductive St' where
  | pl (p : Pl)
  | again (n : Int) (ps : List Pl)
def stD : St' → Dat
  | .pl p => plD p
  | .again n ps => .tup [.str (wS 11), .int n, .tup (ps.map plD)]
def OkSt (k : Kd) : St' → Prop
  | .pl p => OkPl k p
  | .again n ps => 2 ≤ n ∧ n ≤ 4 ∧ 1 ≤ ps.length ∧ ps.length ≤ 3 ∧ ∀ p ∈ ps, OkPl k p
def txD (t : List St') : Dat := .tup (t.map stD)

@[simp] theorem plD_plain (p : Pl) : (plD p).plain = true := by
  unfold plD; cases p.w.tri <;> simp
theorem kD_eq {k k' : Kd} (h : kD k = kD k') : k = k' := by
  cases k; cases k'; simp [kD] at h; simp [h]
@[simp] theorem eq_tupstr {s t : Str} : eqD (.str s) (.str t) = some (decide (s = t)) := eq_str' s t

theorem isKind_ok {k : Kd} (h : OkK k) : isKind (kD k) = true := by
  obtain ⟨h1, h2, h3, h4, h5, h6, h7⟩ := h
  simp [isKind, kD, *]
@[simp] theorem kD_plain (k : Kd) : (kD k).plain = true := by simp [kD]

/-- an item among texts -/
theorem in_tup {d : Dat} {ds : List Dat} (h : d.plain = true) (h2 : plainAll ds = true) (h3 : d.dep ≤ 60) : inD d (.tup ds) = some (ds.any fun y => eqv y d) := by
  have e : (if d.plain && plainAll ds && decide (d.dep ≤ 60) then some (ds.any fun y => eqv y d) else none) = some (ds.any fun y => eqv y d) := by
    rw [if_pos (by simp [h, h2, h3])]
  cases d <;> exact e
@[simp] theorem in_str {s : Str} {ds : List Dat} (h2 : plainAll ds = true) : inD (.str s) (.tup ds) = some (ds.any fun y => eqv y (.str s)) := in_tup rfl h2 (by simp [Dat.dep])
/-! ### a single step among all values -/
def allW : List Wd := [.add, .less, .times, .part, .greater, .copy, .swap, .more, .nines, .left, .right]
theorem allW_mem (x : Wd) : x ∈ allW := by cases x <;> simp [allW]
@[simp] theorem wn_lt (x : Wd) : x.n < 94 := by cases x <;> decide
theorem wn_inj {x y : Wd} (h : x.n = y.n) : x = y := by cases x <;> cases y <;> first | rfl | cases h
theorem wd_or (w : Str) : (∃ x : Wd, w = wS x.n) ∨ ∀ x : Wd, w ≠ wS x.n := by
  by_cases h : ∃ x : Wd, w = wS x.n
  · exact .inl h
  · exact .inr fun x e => h ⟨x, e⟩
def wdOf (w : Str) : Option Wd := allW.find? fun x => decide (w = wS x.n)
@[simp] theorem wdOf_wS (x : Wd) : wdOf (wS x.n) = some x := by
  unfold wdOf
  cases x <;> simp [allW, Wd.n]
theorem wdOf_no {w : Str} (h : ∀ x : Wd, w ≠ wS x.n) : wdOf w = none := by
  unfold wdOf
  rw [List.find?_eq_none]
  intro x _
  simp [h x]
def plW (x : Wd) (a : Int) (b : Option Int) : Option Pl := match x.tri, b with
  | true, some j => some ⟨x, a, j⟩
  | false, none => some ⟨x, a, 0⟩
  | _, _ => none
def plOf : Dat → Option Pl
  | .tup [.str w, .int i] => (wdOf w).bind fun x => plW x i none
  | .tup [.str w, .int i, .int j] => (wdOf w).bind fun x => plW x i (some j)
  | _ => none
def okPlB (k : Kd) (p : Pl) : Bool := decide (0 ≤ p.i) && (decide (p.i < k.d) && match p.w with
  | .times => decide (2 ≤ p.x) && decide (p.x ≤ 9)
  | .part => decide (2 ≤ p.x) && decide (p.x ≤ 9)
  | .more => true | .nines => true | .left => true | .right => true
  | _ => decide (0 ≤ p.x) && decide (p.x < k.d))
theorem okPlB_iff {k : Kd} {p : Pl} : okPlB k p = true ↔ OkPl k p := by
  obtain ⟨w, i, x⟩ := p
  cases w <;> simp [okPlB, OkPl]
def isPlain (k : Kd) (v : Dat) : Bool := match plOf v with
  | some p => okPlB k p
  | none => false
theorem plOf_ok {v : Dat} {p : Pl} (h : plOf v = some p) : v = plD p := by
  unfold plOf at h
  split at h
  · rename_i w i
    rcases wd_or w with ⟨x, rfl⟩ | hw
    · simp at h
      cases x <;> simp [plW, Wd.tri] at h <;> subst h <;> simp [plD, Wd.tri]
    · rw [wdOf_no hw] at h; cases h
  · rename_i w i j
    rcases wd_or w with ⟨x, rfl⟩ | hw
    · simp at h
      cases x <;> simp [plW, Wd.tri] at h <;> subst h <;> simp [plD, Wd.tri]
    · rw [wdOf_no hw] at h; cases h
  · cases h
theorem isPlain_inv {k : Kd} {v : Dat} (h : isPlain k v = true) : ∃ p, v = plD p ∧ OkPl k p := by
  unfold isPlain at h
  split at h
  · rename_i p e
    exact ⟨p, plOf_ok e, okPlB_iff.mp h⟩
  · cases h
@[simp] theorem isPlain_pl {k : Kd} {p : Pl} (h : OkPl k p) : isPlain k (plD p) = true := by
  obtain ⟨w, i, x⟩ := p
  obtain ⟨h1, h2, h3⟩ := h
  cases w <;> simp [isPlain, plD, Wd.tri, plOf, plW, okPlB] at h1 h2 h3 ⊢ <;> simp [wdOf, allW, Wd.n, plW, Wd.tri, okPlB, h1, h2, h3]
theorem isPlain2 (k : Kd) (x : Wd) (a : Dat) : isPlain k (.tup [.str (wS x.n), a]) = (!x.tri && isInt a 0 (k.d - 1)) := by
  have e : ∀ i : Int, decide (i < k.d) = decide (i ≤ k.d - 1) := fun i => by congr 1; exact propext ⟨fun _ => by omega, fun _ => by omega⟩
  cases a <;> simp [isPlain, plOf, isInt]
  cases x <;> simp [plW, Wd.tri, okPlB, e]
theorem isPlain3 (k : Kd) (x : Wd) (a b : Dat) : isPlain k (.tup [.str (wS x.n), a, b]) = (x.tri && (isInt a 0 (k.d - 1) && (if x = .times ∨ x = .part then isInt b 2 9 else isInt b 0 (k.d - 1)))) := by
  have e : ∀ i : Int, decide (i < k.d) = decide (i ≤ k.d - 1) := fun i => by congr 1; exact propext ⟨fun _ => by omega, fun _ => by omega⟩
  cases a <;> cases b <;> simp [isPlain, plOf, isInt]
  cases x <;> simp [plW, Wd.tri, okPlB, e, Bool.and_assoc]
theorem isPlain_len {k : Kd} {a b c d : Dat} {l : List Dat} : isPlain k (.tup (a :: b :: c :: d :: l)) = false := by
  simp [isPlain, plOf]
theorem isPlain_no {k : Kd} {w : Str} {l : List Dat} (h : ∀ x : Wd, w ≠ wS x.n) : isPlain k (.tup (.str w :: l)) = false := by
  unfold isPlain plOf
  split
  · rename_i p e
    split at e
    · rename_i w' i h2; cases h2; rw [wdOf_no h] at e; cases e
    · rename_i w' i j h2; cases h2; rw [wdOf_no h] at e; cases e
    · cases e
  · rfl
theorem shapes_no {w : Str} (h : ∀ x : Wd, w ≠ wS x.n) : getS w tab_SHAPES = none := by
  have h0 := h .add; have h1 := h .less; have h2 := h .times; have h3 := h .part; have h4 := h .greater; have h5 := h .copy; have h6 := h .swap; have h7 := h .more; have h8 := h .nines; have h9 := h .left; have h10 := h .right
  simp only [Wd.n] at h0 h1 h2 h3 h4 h5 h6 h7 h8 h9 h10
  simp [tab_SHAPES, getS, h0, h1, h2, h3, h4, h5, h6, h7, h8, h9, h10]
theorem shapes_wd (x : Wd) : getS (wS x.n) tab_SHAPES = some (.int (if x.tri then 3 else 2)) := by
  cases x <;> simp [tab_SHAPES, getS, Wd.n, Wd.tri]
@[simp] theorem eq_nil (l : List Dat) : (plainAll l = true) → eqD (.tup l) (.tup []) = some (decide (l = [])) := by
  intro h
  unfold eqD
  rw [if_pos (by simp [h, Dat.plain, plainAll, Dat.dep, depAll])]
  cases l <;> simp [eqv, eqvAll]
/-! is_plain(kind, value) -/
def N_is_plain : List Str := ["kind", "value"]
def b_is_plain : Ss := (.cons (.ife (.bop .Or (.cons (.not (.isi (.var 1) .tuple)) (.cons (.cmp .Eq (.var 1) (.tup .nil)) (.cons (.not (.isi (.idx (.var 1) (.cst (.int 0))) .str)) .nil))))
    (.cons (.ret (.cst (.bl false)))
    .nil)
    .nil)
    (.cons (.ife (.bop .Or (.cons (.cmp .NotEq (.gget "SHAPES" (.idx (.var 1) (.cst (.int 0))) (.cst (.int 0))) (.bf .len (.var 1))) (.cons (.not (.call "is_int" (.cons (.idx (.var 1) (.cst (.int 1))) (.cons (.cst (.int 0)) (.cons (.bin .Sub (.idx (.var 0) (.cst (.int 2))) (.cst (.int 1))) .nil))))) .nil)))
    (.cons (.ret (.cst (.bl false)))
    .nil)
    .nil)
    (.cons (.ife (.cmp .In (.idx (.var 1) (.cst (.int 0))) (.tup (.cons (.cst (.str (wS 2))) (.cons (.cst (.str (wS 3))) .nil))))
    (.cons (.ret (.call "is_int" (.cons (.idx (.var 1) (.cst (.int 2))) (.cons (.cst (.int 2)) (.cons (.cst (.int 9)) .nil)))))
    .nil)
    .nil)
    (.cons (.ret (.bop .Or (.cons (.cmp .Eq (.bf .len (.var 1)) (.cst (.int 2))) (.cons (.call "is_int" (.cons (.idx (.var 1) (.cst (.int 2))) (.cons (.cst (.int 0)) (.cons (.bin .Sub (.idx (.var 0) (.cst (.int 2))) (.cst (.int 1))) .nil)))) .nil))))
    .nil))))
def g_is_plain : Kn := kn [("is_int", sp_is_int)] [] [("SHAPES", tab_SHAPES)]
@[simp ↓] theorem g_is_plain_is_int : g_is_plain.fn "is_int" = some sp_is_int := by kernel_rfl
@[simp ↓] theorem g_is_plain_SHAPES : g_is_plain.tab "SHAPES" = some tab_SHAPES := by kernel_rfl

def sp_is_plain : Spec := pur (fun (a : Kd × Dat) => [kD a.1, a.2]) (fun a => OkK a.1 ∧ a.2.plain = true) (fun a => .val (.bl (isPlain a.1 a.2)))
@[simp ↓, simp] theorem is_plain_go {M : MH} {X : PX} {P : PE_} {ρ : Env} {k : Kd} {v : Dat} (hk : OkK k) (hv : v.plain = true) : callS sp_is_plain [kD k, v] M X P ρ = P (.val (.bl (isPlain k v))) ρ M :=
  callS_pur (k, v) rfl ⟨hk, hv⟩ (by
    rintro ⟨a, b⟩ h
    simp at h
    obtain rfl := kD_eq h.1
    rw [h.2])
theorem k_is_plain : Keeps g_is_plain N_is_plain.length 2 b_is_plain sp_is_plain := by
  rintro ds M Q X ⟨⟨k, v⟩, rfl, ⟨hk, hv⟩, hQ⟩
  refine ⟨rfl, ?_⟩
  simp only at hQ hk hv
  have i2 : ∀ M : MH, idxD M (kD k) (.int 2) = some (.int k.d) := fun M => by simp [kD]
  cases v with
  | tup ds =>
    have hp : plainAll ds = true := by simpa using hv
    match ds, hp, hQ with
    | [], hp, hQ => simp [b_is_plain, startE, N_is_plain]; exact hQ
    | v0 :: rest, hp, hQ =>
      have h0 : v0.plain = true ∧ plainAll rest = true := by simpa using hp
      cases v0 with
      | str w =>
        rcases wd_or w with ⟨x, rfl⟩ | hw
        · match rest, h0, hQ with
          | [], h0, hQ =>
            have e : isPlain k (.tup [.str (wS x.n)]) = false := rfl
            rw [e] at hQ
            cases x <;> simp [b_is_plain, startE, N_is_plain, hp, shapes_wd, Wd.tri] <;> assumption
          | [a], h0, hQ =>
            rw [isPlain2] at hQ
            have ha : a.plain = true := by simpa using h0.2
            by_cases h : isInt a 0 (k.d - 1) = true
            · cases x <;> simp [h, Wd.tri, Wd.n] at hQ <;> simp [b_is_plain, startE, N_is_plain, hp, shapes_wd, Wd.tri, Wd.n, tab_SHAPES, getS, i2, ha, h] <;> assumption
            · simp at h
              cases x <;> simp [h, Wd.tri, Wd.n] at hQ <;> simp [b_is_plain, startE, N_is_plain, hp, shapes_wd, Wd.tri, Wd.n, tab_SHAPES, getS, i2, ha, h] <;> assumption
          | [a, b], h0, hQ =>
            rw [isPlain3] at hQ
            have ha : a.plain = true ∧ b.plain = true := by simpa using h0.2
            by_cases h : isInt a 0 (k.d - 1) = true
            · cases x <;> simp [h, Wd.tri, Wd.n] at hQ <;> simp [b_is_plain, startE, N_is_plain, hp, shapes_wd, Wd.tri, Wd.n, tab_SHAPES, getS, i2, ha, h] <;> assumption
            · simp at h
              cases x <;> simp [h, Wd.tri, Wd.n] at hQ <;> simp [b_is_plain, startE, N_is_plain, hp, shapes_wd, Wd.tri, Wd.n, tab_SHAPES, getS, i2, ha, h] <;> assumption
          | a :: b :: c :: l, h0, hQ =>
            rw [isPlain_len] at hQ
            have hh : a.plain = true ∧ b.plain = true ∧ c.plain = true ∧ plainAll l = true := by simpa using h0.2
            have e3 : ¬ ((3 : Int) = (l.length : Int) + 1 + 1 + 1 + 1) := by omega
            have e2 : ¬ ((2 : Int) = (l.length : Int) + 1 + 1 + 1 + 1) := by omega
            cases x <;> simp [b_is_plain, startE, N_is_plain, hp, shapes_wd, Wd.tri, Wd.n, tab_SHAPES, getS, e3, e2, hh] <;> assumption
        · rw [isPlain_no hw] at hQ
          have e : ¬ ((0 : Int) = (rest.length : Int) + 1) := by omega
          simp [b_is_plain, startE, N_is_plain, hp, shapes_no hw, e] <;> assumption
      | _ => first | (simp [b_is_plain, startE, N_is_plain, hp, isD]; exact hQ) | (simp [Dat.plain] at h0)
  | _ => first | (simp [b_is_plain, startE, N_is_plain, isD]; exact hQ) | (simp [Dat.plain] at hv)
theorem plD_inj {p q : Pl} (h : plD p = plD q) : p.w = q.w ∧ p.i = q.i ∧ (p.w.tri = true → p.x = q.x) := by
  obtain ⟨w, i, x⟩ := p
  obtain ⟨w', i', x'⟩ := q
  cases w <;> cases w' <;> simp [plD, Wd.tri, Wd.n] at h ⊢ <;> exact h
end Mi

set_option maxHeartbeats 1000000
/-! B3: steps, walks. -/
namespace Mi
open PySem PySem.Spec PyProof.Rows L2

@[simp] theorem idx_pl0 (M : MH) (p : Pl) : idxD M (plD p) (.int 0) = some (.str (wS p.w.n)) := by
  obtain ⟨w, i, x⟩ := p; cases w <;> simp [plD, Wd.tri]
@[simp] theorem idx_pl1 (M : MH) (p : Pl) : idxD M (plD p) (.int 1) = some (.int p.i) := by
  obtain ⟨w, i, x⟩ := p; cases w <;> simp [plD, Wd.tri]
theorem idx_pl2 (M : MH) (p : Pl) (h : p.w.tri = true) : idxD M (plD p) (.int 2) = some (.int p.x) := by
  obtain ⟨w, i, x⟩ := p; cases w <;> simp [plD, Wd.tri] at h ⊢
@[simp] theorem idx_pl2_add (M : MH) (i x : Int) : idxD M (plD ⟨.add, i, x⟩) (.int 2) = some (.int x) := idx_pl2 M _ rfl
@[simp] theorem idx_pl2_less (M : MH) (i x : Int) : idxD M (plD ⟨.less, i, x⟩) (.int 2) = some (.int x) := idx_pl2 M _ rfl
@[simp] theorem idx_pl2_times (M : MH) (i x : Int) : idxD M (plD ⟨.times, i, x⟩) (.int 2) = some (.int x) := idx_pl2 M _ rfl
@[simp] theorem idx_pl2_part (M : MH) (i x : Int) : idxD M (plD ⟨.part, i, x⟩) (.int 2) = some (.int x) := idx_pl2 M _ rfl
@[simp] theorem idx_pl2_greater (M : MH) (i x : Int) : idxD M (plD ⟨.greater, i, x⟩) (.int 2) = some (.int x) := idx_pl2 M _ rfl
@[simp] theorem idx_pl2_copy (M : MH) (i x : Int) : idxD M (plD ⟨.copy, i, x⟩) (.int 2) = some (.int x) := idx_pl2 M _ rfl
@[simp] theorem idx_pl2_swap (M : MH) (i x : Int) : idxD M (plD ⟨.swap, i, x⟩) (.int 2) = some (.int x) := idx_pl2 M _ rfl
@[simp] theorem len_pl (M : MH) (p : Pl) : callD M .len (plD p) = some (.val (.int (if p.w.tri then 3 else 2))) := by
  obtain ⟨w, i, x⟩ := p; cases w <;> simp [plD, Wd.tri]
@[simp] theorem tup_pl (p : Pl) : isD .tuple (plD p) = some true := by
  obtain ⟨w, i, x⟩ := p; cases w <;> simp [plD, Wd.tri]
@[simp] theorem dep_pl (p : Pl) : (plD p).dep = 1 := by
  obtain ⟨w, i, x⟩ := p; cases w <;> simp [plD, Wd.tri]
@[simp] theorem n_again (w : Wd) : (w.n = 11) = False := by cases w <;> simp [Wd.n]
@[simp] theorem n_lt (w : Wd) : w.n < 94 := by cases w <;> simp [Wd.n]
@[simp] theorem idx_kD0 (M : MH) (k : Kd) : idxD M (kD k) (.int 0) = some (.int k.b) := by simp [kD]
@[simp] theorem idx_kD1 (M : MH) (k : Kd) : idxD M (kD k) (.int 1) = some (.int k.f) := by simp [kD]
@[simp] theorem idx_kD2 (M : MH) (k : Kd) : idxD M (kD k) (.int 2) = some (.int k.d) := by simp [kD]

theorem all_true {α : Type} (l : List α) : blsD (l.map fun _ => Dat.bl true) = some (l.map fun _ => true) := by
  induction l with
  | nil => rfl
  | cons a l ih => simp [blsD, ih]
theorem blsD_map {α : Type} (l : List α) (g : α → Bool) : blsD (l.map fun x => Dat.bl (g x)) = some (l.map g) := by
  induction l with
  | nil => rfl
  | cons a l ih => simp [blsD, ih]
theorem all_map {α : Type} (l : List α) (g : α → Bool) : ((l.map g).all id) = l.all g := by
  induction l with
  | nil => rfl
  | cons a l ih => simp
theorem plainAll_mem {l : List Dat} (h : plainAll l = true) : ∀ d ∈ l, d.plain = true := by
  induction l with
  | nil => intro d hd; cases hd
  | cons a l ih =>
    have h' : a.plain = true ∧ plainAll l = true := by simpa using h
    intro d hd
    rcases List.mem_cons.mp hd with rfl | hd
    · exact h'.1
    · exact ih h'.2 d hd
/-- a step among all values -/
def isStep (k : Kd) (v : Dat) : Bool := match v with
  | .tup [.str w, n, c] => if w = wS 11 then isInt n 2 4 && (match c with
      | .tup ps => decide (1 ≤ ps.length) && (decide (ps.length ≤ 3) && ps.all (isPlain k))
      | _ => false) else isPlain k v
  | v => isPlain k v
theorem isPlain_again {k : Kd} {l : List Dat} : isPlain k (.tup (.str (wS 11) :: l)) = false := isPlain_no fun x => by
  intro e; rw [wS_eq (by decide) (wn_lt x)] at e; cases x <;> cases e
theorem eq_str_any {d : Dat} {s : Str} (h : d.plain = true) : eqD d (.str s) = some (match d with | .str t => decide (t = s) | _ => false) := by
  unfold eqD
  rw [if_pos (by simp [h, Dat.plain, Dat.dep])]
  cases d <;> simp [eqv] <;> (try simp [Dat.plain] at h)
  rfl
/-! is_step(kind, value) -/
def N_is_step : List Str := ["kind", "value", "step"]
def b_is_step : Ss := (.cons (.ife (.bop .Or (.cons (.not (.isi (.var 1) .tuple)) (.cons (.cmp .NotEq (.bf .len (.var 1)) (.cst (.int 3))) (.cons (.cmp .NotEq (.idx (.var 1) (.cst (.int 0))) (.cst (.str (wS 11)))) (.cons (.not (.isi (.idx (.var 1) (.cst (.int 0))) .str)) .nil)))))
    (.cons (.ret (.call "is_plain" (.cons (.var 0) (.cons (.var 1) .nil))))
    .nil)
    .nil)
    (.cons (.ife (.bop .Or (.cons (.not (.call "is_int" (.cons (.idx (.var 1) (.cst (.int 1))) (.cons (.cst (.int 2)) (.cons (.cst (.int 4)) .nil))))) (.cons (.not (.isi (.idx (.var 1) (.cst (.int 2))) .tuple)) (.cons (.not (.chn .LtE .LtE (.cst (.int 1)) (.bf .len (.idx (.var 1) (.cst (.int 2)))) (.cst (.int 3)))) .nil))))
    (.cons (.ret (.cst (.bl false)))
    .nil)
    .nil)
    (.cons (.ret (.bf .all (.lc (.call "is_plain" (.cons (.var 0) (.cons (.var 2) .nil))) (.cons (.var 2) (.seq (.idx (.var 1) (.cst (.int 2)))) .nil .nil) [2])))
    .nil)))
def g_is_step : Kn := kn [("is_plain", sp_is_plain), ("is_int", sp_is_int)] [] []
@[simp ↓] theorem g_is_step_is_plain : g_is_step.fn "is_plain" = some sp_is_plain := by kernel_rfl
@[simp ↓] theorem g_is_step_is_int : g_is_step.fn "is_int" = some sp_is_int := by kernel_rfl

def sp_is_step : Spec := pur (fun (a : Kd × Dat) => [kD a.1, a.2]) (fun a => OkK a.1 ∧ a.2.plain = true) (fun a => .val (.bl (isStep a.1 a.2)))
@[simp ↓, simp] theorem is_step_go {M : MH} {X : PX} {P : PE_} {ρ : Env} {k : Kd} {v : Dat} (hk : OkK k) (hv : v.plain = true) : callS sp_is_step [kD k, v] M X P ρ = P (.val (.bl (isStep k v))) ρ M :=
  callS_pur (k, v) rfl ⟨hk, hv⟩ (by
    rintro ⟨a, b⟩ h
    simp at h
    obtain rfl := kD_eq h.1
    rw [h.2])
theorem isStep_n {k : Kd} {v : Dat} (h : ∀ w n c, v ≠ .tup [.str w, n, c]) : isStep k v = isPlain k v := by
  unfold isStep
  split
  · exact absurd rfl (h _ _ _)
  · rfl
theorem isStep_a {k : Kd} {n c : Dat} : isStep k (.tup [.str (wS 11), n, c]) = (isInt n 2 4 && (match c with
      | .tup ps => decide (1 ≤ ps.length) && (decide (ps.length ≤ 3) && ps.all (isPlain k))
      | _ => false)) := by
  simp [isStep]
theorem isStep_w {k : Kd} {w : Str} {n c : Dat} (h : w ≠ wS 11) : isStep k (.tup [.str w, n, c]) = isPlain k (.tup [.str w, n, c]) := by
  show (if w = wS 11 then _ else _) = _
  rw [if_neg h]
theorem step_again {M : MH} {X : PX} {Q : Rv → MH → Prop} {k : Kd} (hk : OkK k) {b c : Dat} (hb' : b.plain = true) (hc' : c.plain = true) (hQ : Q (.val (.bl (isStep k (.tup [.str (wS 11), b, c])))) M) :
    wpSs g_is_step X b_is_step (startE N_is_step.length [kD k, .tup [.str (wS 11), b, c]]) M { nx := fun _ M' => Q (.val .non) M', rt := Q } := by
  rw [isStep_a] at hQ
  by_cases hb : isInt b 2 4 = true
  · rw [hb, Bool.true_and] at hQ
    cases c with
    | tup ps =>
      have hps : plainAll ps = true := by simpa using hc'
      by_cases h1 : 1 ≤ ps.length
      · by_cases h3 : ps.length ≤ 3
        · have e1 : (1 : Int) ≤ (ps.length : Int) := by omega
          have e2 : (ps.length : Int) ≤ 3 := by omega
          have e3 : ¬ (3 : Int) < (ps.length : Int) := by omega
          simp [b_is_step, startE, N_is_step, hb', hb, e1, e2, e3]
          refine lcS_map ps (fun d => .bl (isPlain k d)) rfl (by simp [sizeLine_eq]; omega) (by simp) ?_ ?_
          · intro d hd
            have := plainAll_mem hps d hd
            simp [wipeE, hk, this]
          · simp only [h1, h3, decide_true, Bool.true_and] at hQ
            simp [callD, blsD_map, all_map]
            exact hQ
        · have e1 : (1 : Int) ≤ (ps.length : Int) := by omega
          have e2 : ¬ (ps.length : Int) ≤ 3 := by omega
          have e3 : (3 : Int) < (ps.length : Int) := by omega
          simp only [h3, decide_false, Bool.false_and, Bool.and_false] at hQ
          simp [b_is_step, startE, N_is_step, hb', hb, e1, e2, e3, hQ]
      · have e0 : ps = [] := by cases ps with
          | nil => rfl
          | cons x l => simp at h1
        subst e0
        simp only [h1, decide_false, Bool.false_and] at hQ
        simp [b_is_step, startE, N_is_step, hb', hb, hQ]
    | _ => first | (simp [b_is_step, startE, N_is_step, hb', hb, isD]; exact hQ) | (simp [Dat.plain] at hc')
  · simp only [Bool.not_eq_true] at hb
    rw [hb, Bool.false_and] at hQ
    simp [b_is_step, startE, N_is_step, hb', hb, hQ]
theorem step_word {M : MH} {X : PX} {Q : Rv → MH → Prop} {k : Kd} (hk : OkK k) {a b c : Dat} (hh : a.plain = true ∧ b.plain = true ∧ c.plain = true) (ha : a ≠ .str (wS 11)) (hQ : Q (.val (.bl (isPlain k (.tup [a, b, c])))) M) :
    wpSs g_is_step X b_is_step (startE N_is_step.length [kD k, .tup [a, b, c]]) M { nx := fun _ M' => Q (.val .non) M', rt := Q } := by
  have e : eqD a (.str (wS 11)) = some false := by
    rw [eq_str_any hh.1]
    cases a <;> simp at ha ⊢
    exact ha
  simp [b_is_step, startE, N_is_step, hh, e, hk, hQ]
theorem step_short {M : MH} {X : PX} {Q : Rv → MH → Prop} {k : Kd} (hk : OkK k) {ds : List Dat} (hh : plainAll ds = true) (ha : ¬ ((ds.length : Int) = 3)) (hQ : Q (.val (.bl (isPlain k (.tup ds)))) M) :
    wpSs g_is_step X b_is_step (startE N_is_step.length [kD k, .tup ds]) M { nx := fun _ M' => Q (.val .non) M', rt := Q } := by
  simp [b_is_step, startE, N_is_step, hh, ha, hk, hQ]
theorem step_other {M : MH} {X : PX} {Q : Rv → MH → Prop} {k : Kd} (hk : OkK k) {v : Dat} (hv : v.plain = true) (h : isD .tuple v = some false) (hQ : Q (.val (.bl (isPlain k v))) M) :
    wpSs g_is_step X b_is_step (startE N_is_step.length [kD k, v]) M { nx := fun _ M' => Q (.val .non) M', rt := Q } := by
  simp [b_is_step, startE, N_is_step, hv, h, hk, hQ]
theorem k_is_step : Keeps g_is_step N_is_step.length 2 b_is_step sp_is_step := by
  rintro ds M Q X ⟨⟨k, v⟩, rfl, ⟨hk, hv⟩, hQ⟩
  refine ⟨rfl, ?_⟩
  simp only at hQ hk hv
  have els : (∀ w n c, v ≠ .tup [.str w, n, c]) → Q (.val (.bl (isPlain k v))) M := fun h => by rw [isStep_n h] at hQ; exact hQ
  cases v with
  | tup ds =>
    have hp : plainAll ds = true := by simpa using hv
    by_cases h3 : ds.length = 3
    · obtain ⟨a, b, c, rfl⟩ : ∃ a b c, ds = [a, b, c] := by
        match ds, h3 with
        | [a, b, c], _ => exact ⟨a, b, c, rfl⟩
      have hh : a.plain = true ∧ b.plain = true ∧ c.plain = true := by simpa using hp
      by_cases ha : a = .str (wS 11)
      · subst ha; exact step_again hk hh.2.1 hh.2.2 hQ
      · refine step_word hk hh ha ?_
        cases a with
        | str w => rw [isStep_w (fun e => ha (by rw [e]))] at hQ; exact hQ
        | _ => exact els (fun w n c e => by cases e)
    · exact step_short hk hp (by omega) (els (fun w n c e => h3 (by cases e; rfl)))
  | _ => first | exact step_other hk hv rfl (els (fun w n c e => by cases e)) | (simp [Dat.plain] at hv)
theorem isStep_pl {k : Kd} (p : Pl) : isStep k (plD p) = isPlain k (plD p) := by
  obtain ⟨w, i, x⟩ := p
  cases w <;> simp [plD, Wd.tri, isStep, Wd.n]
theorem all_plain {k : Kd} {ps : List Pl} (h : ∀ p ∈ ps, OkPl k p) : (ps.map plD).all (isPlain k) = true := by
  rw [List.all_eq_true]
  intro d hd
  obtain ⟨p, hp, rfl⟩ := List.mem_map.mp hd
  exact isPlain_pl (h p hp)
@[simp] theorem isStep_st {k : Kd} {s : St'} (h : OkSt k s) : isStep k (stD s) = true := by
  cases s with
  | pl p => rw [stD, isStep_pl]; exact isPlain_pl h
  | again n ps =>
    obtain ⟨h1, h2, h3, h4, h5⟩ := h
    have := all_plain h5
    simp [stD, isStep, h1, h2]
    simp at this
    exact ⟨by omega, by omega, this⟩
theorem unmap {ps : List Dat} {k : Kd} (h : ps.all (isPlain k) = true) : ∃ qs : List Pl, ps = qs.map plD ∧ ∀ q ∈ qs, OkPl k q := by
  induction ps with
  | nil => exact ⟨[], rfl, fun _ h => by cases h⟩
  | cons d ps ih =>
    simp only [List.all_cons, Bool.and_eq_true] at h
    obtain ⟨q, rfl, hq⟩ := isPlain_inv h.1
    obtain ⟨qs, rfl, hqs⟩ := ih h.2
    exact ⟨q :: qs, rfl, fun x hx => by
      rcases List.mem_cons.mp hx with rfl | hx
      · exact hq
      · exact hqs x hx⟩
theorem isStep_inv {k : Kd} {v : Dat} (h : isStep k v = true) : ∃ s, v = stD s ∧ OkSt k s := by
  unfold isStep at h
  split at h
  · rename_i w n c
    split at h
    · rename_i hw
      subst hw
      simp only [Bool.and_eq_true] at h
      obtain ⟨hn, h⟩ := h
      obtain ⟨i, rfl, i1, i2⟩ := isInt_true.mp hn
      split at h
      · rename_i ps
        simp only [Bool.and_eq_true, decide_eq_true_eq] at h
        obtain ⟨h1, h3, h4⟩ := h
        obtain ⟨qs, rfl, hqs⟩ := unmap h4
        simp at h1 h3
        exact ⟨.again i qs, rfl, i1, i2, by omega, h3, hqs⟩
      · cases h
    · obtain ⟨p, e, hp⟩ := isPlain_inv h
      exact ⟨.pl p, e, hp⟩
  · obtain ⟨p, e, hp⟩ := isPlain_inv h
    exact ⟨.pl p, e, hp⟩
def wkOf : St' → List Pl
  | .pl p => [p]
  | .again n ps => (List.replicate n.toNat ps).flatten
def walksOf (t : List St') : List Pl := t.flatMap wkOf
def SzS : St' → Prop
  | .pl _ => True
  | .again n ps => 0 ≤ n ∧ n ≤ 4 ∧ ps.length ≤ 3
def SzT (t : List St') : Prop := t.length ≤ 1000 ∧ ∀ s ∈ t, SzS s
theorem wkOf_len {s : St'} (h : SzS s) : (wkOf s).length ≤ 12 := by
  cases s with
  | pl p => simp [wkOf]
  | again n ps =>
    obtain ⟨h1, h2, h3⟩ := h
    simp only [wkOf, List.length_flatten, List.map_replicate, List.sum_replicate_nat]
    have : n.toNat ≤ 4 := by omega
    exact Nat.mul_le_mul this h3
theorem walksOf_len : ∀ {t : List St'}, (∀ s ∈ t, SzS s) → (walksOf t).length ≤ 12 * t.length
  | [], _ => by simp [walksOf]
  | s :: t, h => by
    have h1 := wkOf_len (h s (by simp))
    have h2 := walksOf_len (t := t) fun s hs => h s (by simp [hs])
    simp only [walksOf, List.flatMap_cons, List.length_append, List.length_cons] at h2 ⊢
    omega
/-! walks_of(text) -/
def N_walks_of : List Str := ["text", "found", "step"]
def b_walks_of : Ss := (.cons (.asg 1 (.tup .nil))
    (.cons (.for_ (.var 2) (.seq (.var 0))
    (.cons (.asg 1 (.bin .Add (.var 1) (.ite (.cmp .Eq (.idx (.var 2) (.cst (.int 0))) (.cst (.str (wS 11)))) (.bin .Mult (.idx (.var 2) (.cst (.int 2))) (.idx (.var 2) (.cst (.int 1)))) (.tup (.cons (.var 2) .nil)))))
    .nil))
    (.cons (.ret (.var 1))
    .nil)))
def g_walks_of : Kn := kn [] [] []

def sp_walks_of : Spec := pur (fun (t : List St') => [txD t]) SzT (fun t => .val (.tup ((walksOf t).map plD)))
theorem k_walks_of : Keeps g_walks_of N_walks_of.length 1 b_walks_of sp_walks_of := by
  rintro ds M Q X ⟨t, rfl, ⟨hl, ht⟩, hQ⟩
  refine ⟨rfl, ?_⟩
  simp only at hQ
  simp [b_walks_of, startE, N_walks_of, txD]
  refine forS_inv (fun ds ρ M' => M' = M ∧ ∃ (done rest : List St') (x : Sl), t = done ++ rest ∧ ds = rest.map stD ∧ ρ = [.val (txD t), .val (.tup ((walksOf done).map plD)), x]) ⟨rfl, [], t, .no, rfl, rfl, rfl⟩ ?_ ?_
  · rintro ρ M ⟨rfl, done, rest, x, rfl, h2, rfl⟩
    obtain rfl : rest = [] := by simpa using h2.symm
    simpa using hQ
  · rintro d ds ρ M ⟨rfl, done, rest, x, h1, h2, rfl⟩
    cases rest with
    | nil => simp at h2
    | cons s rest =>
      simp at h2
      obtain ⟨rfl, rfl⟩ := h2
      have hs := ht s (by rw [h1]; simp)
      have hd : (walksOf done).length ≤ 12 * done.length := walksOf_len fun s hs => ht s (by rw [h1]; simp [hs])
      have hdl : done.length ≤ 1000 := by have := congrArg List.length h1; simp at this; omega
      have e : walksOf (done ++ [s]) = walksOf done ++ wkOf s := by simp [walksOf]
      cases s with
      | pl p =>
        have hz : ((walksOf done).map plD).length + [plD p].length ≤ sizeLine := by simp [sizeLine_eq]; omega
        simp [stD]
        rw [add_tup hz]
        simp
        exact ⟨done ++ [.pl p], rest, by simp [h1], rfl, by rw [e]; simp [wkOf]⟩
      | again n ps =>
        obtain ⟨g1, g2, g3⟩ := hs
        have hk := wkOf_len (s := .again n ps) ⟨g1, g2, g3⟩
        have hz : ((walksOf done).map plD).length + ((wkOf (.again n ps)).map plD).length ≤ sizeLine := by simp [sizeLine_eq]; omega
        have e2 : (List.replicate n.toNat (ps.map plD)).flatten = (wkOf (.again n ps)).map plD := by
          simp [wkOf, List.map_flatten]
        have hm : n ≤ 1000 ∧ -1000 ≤ n ∧ (ps.map plD).length ≤ 1000 := by simp; omega
        simp [stD]
        rw [mul_tup hm, e2]
        simp
        rw [add_tup hz]
        simp
        exact ⟨done ++ [.again n ps], rest, by simp [h1], rfl, by rw [e]; simp⟩
theorem stD_inj' {s s' : St'} (h : stD s = stD s') : (wkOf s).map plD = (wkOf s').map plD := by
  cases s with
  | pl p =>
    cases s' with
    | pl q => simp [stD] at h; simp [wkOf, h]
    | again n ps => obtain ⟨w, i, x⟩ := p; cases w <;> simp [stD, plD, Wd.tri, Wd.n] at h
  | again n ps =>
    cases s' with
    | pl q => obtain ⟨w, i, x⟩ := q; cases w <;> simp [stD, plD, Wd.tri, Wd.n] at h
    | again n' ps' =>
      simp [stD] at h
      obtain ⟨rfl, h⟩ := h
      simp [wkOf, List.map_flatten, h]
theorem txD_inj' : ∀ {t t' : List St'}, txD t = txD t' → (walksOf t).map plD = (walksOf t').map plD
  | [], [], _ => rfl
  | [], _ :: _, h => by simp [txD] at h
  | _ :: _, [], h => by simp [txD] at h
  | s :: t, s' :: t', h => by
    simp [txD] at h
    have h1 := stD_inj' h.1
    have h2 := txD_inj' (t := t) (t' := t') (by simp [txD, h.2])
    simp only [walksOf, List.flatMap_cons, List.map_append] at h2 ⊢
    rw [h1, h2]
@[simp ↓, simp] theorem walks_of_go {M : MH} {X : PX} {P : PE_} {ρ : Env} {t : List St'} (h : SzT t) : callS sp_walks_of [txD t] M X P ρ = P (.val (.tup ((walksOf t).map plD))) ρ M :=
  callS_pur t rfl h (by intro b h; rw [txD_inj' (List.cons.inj h).1])
def width (k : Kd) (p : Pl) : Int := match p.w with
  | .times => p.x | .part => p.x
  | .left => k.b | .right => k.b
  | .add => 2 | .less => 2 | .more => 2
  | .greater => 3
  | _ => 1
/-! width(kind, step) -/
def N_width : List Str := ["kind", "step"]
def b_width : Ss := (.cons (.ife (.cmp .In (.idx (.var 1) (.cst (.int 0))) (.tup (.cons (.cst (.str (wS 2))) (.cons (.cst (.str (wS 3))) .nil))))
    (.cons (.ret (.idx (.var 1) (.cst (.int 2))))
    .nil)
    .nil)
    (.cons (.ife (.cmp .In (.idx (.var 1) (.cst (.int 0))) (.tup (.cons (.cst (.str (wS 9))) (.cons (.cst (.str (wS 10))) .nil))))
    (.cons (.ret (.idx (.var 0) (.cst (.int 0))))
    .nil)
    .nil)
    (.cons (.ret (.dget [(wS 0), (wS 1), (wS 7), (wS 4)] [(.int 2), (.int 2), (.int 2), (.int 3)] (.idx (.var 1) (.cst (.int 0))) (.cst (.int 1))))
    .nil)))
def g_width : Kn := kn [] [] []

def sp_width : Spec := pur (fun (a : Kd × Pl) => [kD a.1, plD a.2]) (fun a => True) (fun a => .val (.int (width a.1 a.2)))
theorem k_width : Keeps g_width N_width.length 2 b_width sp_width := by
  rintro ds M Q X ⟨⟨k, p⟩, rfl, _, hQ⟩
  refine ⟨rfl, ?_⟩
  obtain ⟨w, i, x⟩ := p
  cases w <;> simp [width] at hQ <;> simp [b_width, startE, N_width, Wd.n, getS, hQ]
@[simp ↓, simp] theorem width_go {M : MH} {X : PX} {P : PE_} {ρ : Env} {k : Kd} {p : Pl} : callS sp_width [kD k, plD p] M X P ρ = P (.val (.int (width k p))) ρ M :=
  callS_pur (k, p) rfl True.intro (by
    rintro ⟨k', ⟨w, i, x⟩⟩ h
    obtain ⟨w', i', x'⟩ := p
    simp at h
    obtain ⟨h1, h2⟩ := h
    obtain rfl := kD_eq h1
    obtain ⟨h3, h4, h5⟩ := plD_inj h2
    simp only at h3 h4 h5
    subst h3
    cases w <;> simp [Wd.tri] at h5 <;> simp [width, h5])
/-! is_from_left(step) -/
def N_is_from_left : List Str := ["step"]
def b_is_from_left : Ss := (.cons (.ret (.cmp .In (.idx (.var 0) (.cst (.int 0))) (.glb "FROM_LEFT")))
    .nil)
def g_is_from_left : Kn := kn [] [("FROM_LEFT", (.tup [(.str (wS 3)), (.str (wS 4)), (.str (wS 10))]))] []
@[simp ↓] theorem g_is_from_left_FROM_LEFT : g_is_from_left.gl "FROM_LEFT" = some (.tup [(.str (wS 3)), (.str (wS 4)), (.str (wS 10))]) := by kernel_rfl

def fromLeft (p : Pl) : Bool := match p.w with
  | .part => true | .greater => true | .right => true
  | _ => false
def sp_is_from_left : Spec := pur (fun (p : Pl) => [plD p]) (fun a => True) (fun p => .val (.bl (fromLeft p)))
theorem k_is_from_left : Keeps g_is_from_left N_is_from_left.length 1 b_is_from_left sp_is_from_left := by
  rintro ds M Q X ⟨p, rfl, _, hQ⟩
  refine ⟨rfl, ?_⟩
  obtain ⟨w, i, x⟩ := p
  cases w <;> simp [fromLeft] at hQ <;> simp [b_is_from_left, startE, N_is_from_left, Wd.n, hQ]
@[simp ↓, simp] theorem is_from_left_go {M : MH} {X : PX} {P : PE_} {ρ : Env} {p : Pl} : callS sp_is_from_left [plD p] M X P ρ = P (.val (.bl (fromLeft p))) ρ M :=
  callS_pur p rfl True.intro (by intro b h; obtain ⟨h3, _, _⟩ := plD_inj (List.cons.inj h).1; simp [fromLeft, h3])
end Mi

set_option maxHeartbeats 1000000
/-! B4: texts, frames, needs. -/
namespace Mi
open PySem PySem.Spec PyProof.Rows L2

theorem width_bd {k : Kd} {p : Pl} (hk : OkK k) (hp : OkPl k p) : 1 ≤ width k p ∧ width k p ≤ 10 := by
  obtain ⟨w, i, x⟩ := p
  obtain ⟨h1, h2, h3⟩ := hp
  have := hk.b1
  have := hk.b2
  cases w <;> simp [width] at h3 ⊢ <;> omega
theorem okSt_sz {k : Kd} {s : St'} (h : OkSt k s) : SzS s := by
  cases s with
  | pl p => trivial
  | again n ps => obtain ⟨h1, h2, h3, h4, h5⟩ := h; exact ⟨by omega, h2, h4⟩
theorem okSt_wk {k : Kd} {s : St'} (h : OkSt k s) : ∀ p ∈ wkOf s, OkPl k p := by
  cases s with
  | pl p => intro q hq; simp [wkOf] at hq; subst hq; exact h
  | again n ps =>
    obtain ⟨h1, h2, h3, h4, h5⟩ := h
    intro q hq
    simp only [wkOf, List.mem_flatten, List.mem_replicate] at hq
    obtain ⟨l, ⟨_, rfl⟩, hq⟩ := hq
    exact h5 q hq
def OkT (k : Kd) (t : List St') : Prop := ∀ s ∈ t, OkSt k s
theorem OkT.wk {k : Kd} {t : List St'} (h : OkT k t) : ∀ p ∈ walksOf t, OkPl k p := by
  intro p hp
  simp only [walksOf, List.mem_flatMap] at hp
  obtain ⟨s, hs, hp⟩ := hp
  exact okSt_wk (h s hs) p hp
def totalOf (k : Kd) (ps : List Pl) : Int := ps.foldl (fun a p => a * width k p) 1
def isText (k : Kd) (t : List St') : Bool := decide ((t.length : Int) ≤ 6) && (decide (((walksOf t).length : Int) ≤ 8) && decide (totalOf k (walksOf t) ≤ 40))
theorem mulOk_r {i j : Int} (h1 : -(2 ^ 64) < j) (h2 : j < 2 ^ 64) : mulOk i j = true := by
  unfold mulOk; exact decide_eq_true (.inr (.inl ⟨h1, h2⟩))
theorem mulOk_l {i j : Int} (h1 : -(2 ^ 64) < i) (h2 : i < 2 ^ 64) : mulOk i j = true := by
  unfold mulOk; exact decide_eq_true (.inl ⟨h1, h2⟩)
theorem all_ofTrue {α : Type} {l : List α} {g : α → Dat} (h : ∀ a ∈ l, g a = .bl true) : blsD (l.map g) = some (l.map fun _ => true) := by
  induction l with
  | nil => rfl
  | cons a l ih => simp [blsD, h a (by simp), ih fun b hb => h b (by simp [hb])]
theorem all_t {α : Type} (l : List α) : ((l.map fun _ => true).all id) = true := by simp
theorem width_map {k : Kd} : ∀ {l l' : List Pl}, l.map plD = l'.map plD → l.map (width k) = l'.map (width k) := by
  intro l
  induction l with
  | nil => intro l' h; cases l' with
    | nil => rfl
    | cons => simp at h
  | cons p l ih =>
    intro l' h
    cases l' with
    | nil => simp at h
    | cons q l' =>
      simp at h
      obtain ⟨e1, e2, e3⟩ := plD_inj h.1
      simp [ih h.2]
      obtain ⟨w, i, x⟩ := p
      obtain ⟨w', i', x'⟩ := q
      simp only at e1 e2 e3
      subst e1
      cases w <;> simp [Wd.tri] at e3 <;> simp [width, e3]
theorem totalOf_map (k : Kd) (l : List Pl) (a : Int) : l.foldl (fun a p => a * width k p) a = (l.map (width k)).foldl (fun a x => a * x) a := by
  rw [List.foldl_map]
theorem isText_inj {k : Kd} {t t' : List St'} (h : txD t = txD t') : isText k t = isText k t' := by
  have h1 := txD_inj' h
  have h2 : t.length = t'.length := by have := congrArg (fun d => match d with | Dat.tup ds => ds.length | _ => 0) h; simpa [txD] using this
  have h3 := congrArg List.length h1
  simp at h3
  unfold isText totalOf
  rw [h2, h3, totalOf_map, totalOf_map, width_map h1]
open Classical in
/-- a text among all values -/
noncomputable def isTextV (k : Kd) (v : Dat) : Bool := decide (∃ t, v = txD t ∧ OkT k t ∧ isText k t = true)
theorem isTextV_true {k : Kd} {v : Dat} : isTextV k v = true ↔ ∃ t, v = txD t ∧ OkT k t ∧ isText k t = true := by simp [isTextV]
theorem isTextV_false {k : Kd} {v : Dat} (h : ∀ t, v = txD t → OkT k t → isText k t = true → False) : isTextV k v = false := by
  cases e : isTextV k v with
  | false => rfl
  | true => obtain ⟨t, h1, h2, h3⟩ := isTextV_true.mp e; exact (h t h1 h2 h3).elim
theorem isTextV_tx {k : Kd} {t : List St'} (h : OkT k t) : isTextV k (txD t) = isText k t := by
  cases e : isText k t with
  | true => exact isTextV_true.mpr ⟨t, rfl, h, e⟩
  | false => exact isTextV_false fun t' h1 _ h3 => by rw [isText_inj h1, h3] at e; cases e
theorem unstep {ps : List Dat} {k : Kd} (h : ps.all (isStep k) = true) : ∃ qs : List St', ps = qs.map stD ∧ OkT k qs := by
  induction ps with
  | nil => exact ⟨[], rfl, fun _ h => by cases h⟩
  | cons d ps ih =>
    simp only [List.all_cons, Bool.and_eq_true] at h
    obtain ⟨q, rfl, hq⟩ := isStep_inv h.1
    obtain ⟨qs, rfl, hqs⟩ := ih h.2
    exact ⟨q :: qs, rfl, fun x hx => by
      rcases List.mem_cons.mp hx with rfl | hx
      · exact hq
      · exact hqs x hx⟩
theorem all_step {k : Kd} {t : List St'} (h : OkT k t) : (t.map stD).all (isStep k) = true := by
  rw [List.all_eq_true]
  intro d hd
  obtain ⟨p, hp, rfl⟩ := List.mem_map.mp hd
  exact isStep_st (h p hp)
/-! is_text_of(kind, value) -/
def N_is_text_of : List Str := ["kind", "value", "total", "step"]
def b_is_text_of : Ss := (.cons (.ife (.bop .Or (.cons (.not (.isi (.var 1) .tuple)) (.cons (.cmp .Gt (.bf .len (.var 1)) (.glb "MOST_STEPS")) (.cons (.not (.bf .all (.lc (.call "is_step" (.cons (.var 0) (.cons (.var 3) .nil))) (.cons (.var 3) (.seq (.var 1)) .nil .nil) [3]))) .nil))))
    (.cons (.ret (.cst (.bl false)))
    .nil)
    .nil)
    (.cons (.asg 2 (.cst (.int 1)))
    (.cons (.for_ (.var 3) (.seq (.call "walks_of" (.cons (.var 1) .nil)))
    (.cons (.asg 2 (.bin .Mult (.var 2) (.call "width" (.cons (.var 0) (.cons (.var 3) .nil)))))
    .nil))
    (.cons (.ret (.bop .And (.cons (.cmp .LtE (.bf .len (.call "walks_of" (.cons (.var 1) .nil))) (.glb "MOST_WALKS")) (.cons (.cmp .LtE (.var 2) (.glb "MOST_NOTES")) .nil))))
    .nil))))
def g_is_text_of : Kn := kn [("walks_of", sp_walks_of), ("width", sp_width), ("is_step", sp_is_step)] [("MOST_NOTES", (.int 40)), ("MOST_WALKS", (.int 8)), ("MOST_STEPS", (.int 6))] []
@[simp ↓] theorem g_is_text_of_walks_of : g_is_text_of.fn "walks_of" = some sp_walks_of := by kernel_rfl
@[simp ↓] theorem g_is_text_of_width : g_is_text_of.fn "width" = some sp_width := by kernel_rfl
@[simp ↓] theorem g_is_text_of_is_step : g_is_text_of.fn "is_step" = some sp_is_step := by kernel_rfl
@[simp ↓] theorem g_is_text_of_MOST_NOTES : g_is_text_of.gl "MOST_NOTES" = some (.int 40) := by kernel_rfl
@[simp ↓] theorem g_is_text_of_MOST_WALKS : g_is_text_of.gl "MOST_WALKS" = some (.int 8) := by kernel_rfl
@[simp ↓] theorem g_is_text_of_MOST_STEPS : g_is_text_of.gl "MOST_STEPS" = some (.int 6) := by kernel_rfl

noncomputable def sp_is_text_of : Spec := pur (fun (a : Kd × Dat) => [kD a.1, a.2]) (fun a => OkK a.1 ∧ a.2.plain = true) (fun a => .val (.bl (isTextV a.1 a.2)))
@[simp ↓, simp] theorem is_text_of_go {M : MH} {X : PX} {P : PE_} {ρ : Env} {k : Kd} {v : Dat} (hk : OkK k) (hv : v.plain = true) : callS sp_is_text_of [kD k, v] M X P ρ = P (.val (.bl (isTextV k v))) ρ M :=
  callS_pur (k, v) rfl ⟨hk, hv⟩ (by
    rintro ⟨a, b⟩ h
    simp at h
    obtain rfl := kD_eq h.1
    rw [h.2])
theorem text_in {M : MH} {X : PX} {Q : Rv → MH → Prop} {k : Kd} {t : List St'} (hk : OkK k) (ht : OkT k t) (hl' : t.length ≤ 6) (hv : (txD t).plain = true) (hQ : Q (.val (.bl (isText k t))) M) :
    wpSs g_is_text_of X b_is_text_of (startE N_is_text_of.length [kD k, txD t]) M { nx := fun _ M' => Q (.val .non) M', rt := Q } := by
  have e0 : isD .tuple (txD t) = some true := rfl
  have e1 : callD M .len (txD t) = some (.val (.int t.length)) := by simp [txD]
  have hl : ¬ (6 : Int) < t.length := by omega
  have hz : SzT t := ⟨by omega, fun s hs => okSt_sz (ht s hs)⟩
  have hp : plainAll (t.map stD) = true := by simpa [txD] using hv
  simp [b_is_text_of, startE, N_is_text_of, e0, e1, hl]
  obtain ⟨ds, hd, he, hpp, hll⟩ : ∃ ds, txD t = .tup ds ∧ ds.all (isStep k) = true ∧ plainAll ds = true ∧ ds.length ≤ 6 := ⟨_, rfl, all_step ht, hp, by simpa using hl'⟩
  refine lcS_map ds (fun d => .bl (isStep k d)) rfl (by simp [sizeLine_eq]; omega) (by simp [hd]) ?_ ?_
  · intro d hd
    have := plainAll_mem hpp d hd
    simp [wipeE, hk, this]
  · clear hd
    simp [callD, blsD_map, all_map, he, hz]
    refine forS_inv (fun ds ρ M' => M' = M ∧ ∃ (done rest : List Pl) (x : Sl), walksOf t = done ++ rest ∧ ds = rest.map plD ∧ ρ = [.val (kD k), .val (txD t), .val (.int (totalOf k done)), x]) ⟨rfl, [], walksOf t, .no, rfl, rfl, rfl⟩ ?_ ?_
    · rintro ρ M ⟨rfl, done, rest, x, h1, h2, rfl⟩
      obtain rfl : rest = [] := by simpa using h2.symm
      simp at h1
      simp [hz]
      rw [← h1]
      have e6 : ((t.length : Int) ≤ 6) := by omega
      by_cases h8 : ((walksOf t).length : Int) ≤ 8
      · simp [h8]
        simpa [isText, e6, h8] using hQ
      · simp [h8]
        simpa [isText, e6, h8] using hQ
    · rintro d ds ρ M ⟨rfl, done, rest, x, h1, h2, rfl⟩
      cases rest with
      | nil => simp at h2
      | cons p rest =>
        simp at h2
        obtain ⟨rfl, rfl⟩ := h2
        obtain ⟨w1, w2⟩ := width_bd hk (ht.wk p (by rw [h1]; simp))
        simp
        rw [mul_int (mulOk_r (by omega) (by omega))]
        simp
        exact ⟨done ++ [p], rest, by simp [h1], rfl, by simp [totalOf]⟩
theorem k_is_text_of : Keeps g_is_text_of N_is_text_of.length 2 b_is_text_of sp_is_text_of := by
  rintro ds M Q X ⟨⟨k, v⟩, rfl, ⟨hk, hv⟩, hQ⟩
  refine ⟨rfl, ?_⟩
  simp only at hQ hk hv
  cases v with
  | tup ds =>
    have hp : plainAll ds = true := by simpa using hv
    by_cases hl : (6 : Int) < ds.length
    · rw [isTextV_false (fun t e _ h => by
        unfold isText at h
        have := congrArg (fun d => match d with | Dat.tup l => l.length | _ => 0) e
        simp [txD] at this h
        omega)] at hQ
      simp [b_is_text_of, startE, N_is_text_of, hl, hQ]
    · cases ha : ds.all (isStep k) with
      | true =>
        obtain ⟨t, rfl, ht⟩ := unstep ha
        have e : Dat.tup (t.map stD) = txD t := rfl
        rw [e, isTextV_tx ht] at hQ
        exact text_in hk ht (by simp at hl; omega) hv hQ
      | false =>
        rw [isTextV_false (fun t e h _ => by
          cases e
          rw [all_step h] at ha; cases ha)] at hQ
        simp [b_is_text_of, startE, N_is_text_of, hl]
        refine lcS_map ds (fun d => .bl (isStep k d)) rfl (by simp [sizeLine_eq]; omega) (by simp) ?_ ?_
        · intro d hd
          have := plainAll_mem hp d hd
          simp [wipeE, hk, this]
        · simp [callD, blsD_map, all_map, ha]
          exact hQ
  | _ => first | (exfalso; simp [Dat.plain] at hv; done) | (rw [isTextV_false (fun t e _ _ => by cases e)] at hQ; simp [b_is_text_of, startE, N_is_text_of, isD, hQ])

/-! ### frames -/
def rodD (r : List Int) : Dat := .tup (r.map Dat.int)
def frD (f : List (List Int)) : Dat := .tup (f.map rodD)
def OkR (k : Kd) (r : List Int) : Prop := (r.length : Int) = k.d ∧ ∀ x ∈ r, 0 ≤ x ∧ x < k.b
def OkF (k : Kd) (f : List (List Int)) : Prop := ∀ r ∈ f, OkR k r
theorem map_int_inj : ∀ {a b : List Int}, a.map Dat.int = b.map Dat.int → a = b
  | [], [], _ => rfl
  | [], _ :: _, h => by simp at h
  | _ :: _, [], h => by simp at h
  | x :: a, y :: b, h => by simp at h; rw [h.1, map_int_inj h.2]
theorem rodD_inj {r r' : List Int} (h : rodD r = rodD r') : r = r' := by simp [rodD] at h; exact map_int_inj h
theorem map_rod_inj : ∀ {a b : List (List Int)}, a.map rodD = b.map rodD → a = b
  | [], [], _ => rfl
  | [], _ :: _, h => by simp at h
  | _ :: _, [], h => by simp at h
  | x :: a, y :: b, h => by simp at h; rw [rodD_inj h.1, map_rod_inj h.2]
theorem frD_inj {f f' : List (List Int)} (h : frD f = frD f') : f = f' := by simp [frD] at h; exact map_rod_inj h
/-- a digit -/
def dg (r : List Int) (i : Int) : Int := r.getD i.toNat 0
theorem idx_rod {M : MH} {r : List Int} {i : Int} (h : 0 ≤ i) (h2 : i < r.length) : idxD M (rodD r) (.int i) = some (.int (dg r i)) := by
  show L2.atI (r.map Dat.int) i = _
  unfold L2.atI ixN
  rw [if_pos h, if_pos (by simpa using h2)]
  have : i.toNat < r.length := by omega
  simp [dg, List.getElem?_eq_getElem this, List.getD_eq_getElem?_getD]
@[simp] theorem plain_ints (r : List Int) : plainAll (r.map Dat.int) = true := by
  induction r with
  | nil => simp
  | cons a r ih => simp [ih]
@[simp] theorem rodD_plain (r : List Int) : (rodD r).plain = true := by simp [rodD]
@[simp] theorem tup_rod (r : List Int) : isD .tuple (rodD r) = some true := rfl
@[simp] theorem len_rod (M : MH) (r : List Int) : callD M .len (rodD r) = some (.val (.int r.length)) := by simp [rodD]
@[simp] theorem tup_fr (r : List (List Int)) : isD .tuple (frD r) = some true := rfl
@[simp] theorem len_fr (M : MH) (r : List (List Int)) : callD M .len (frD r) = some (.val (.int r.length)) := by simp [frD]
/-! number_of(kind, frame, field) -/
def N_number_of : List Str := ["kind", "frame", "field", "found", "rod"]
def b_number_of : Ss := (.cons (.asg 3 (.cst (.int 0)))
    (.cons (.for_ (.var 4) (.seq (.var 1))
    (.cons (.asg 3 (.bin .Add (.bin .Mult (.var 3) (.idx (.var 0) (.cst (.int 0)))) (.idx (.var 4) (.var 2))))
    .nil))
    (.cons (.ret (.var 3))
    .nil)))
def g_number_of : Kn := kn [] [] []

def numOf (k : Kd) (f : List (List Int)) (i : Int) : Int := f.foldl (fun a r => a * k.b + (dg r i)) 0
def sp_number_of : Spec := pur (fun (a : Kd × List (List Int) × Int) => [kD a.1, frD a.2.1, .int a.2.2]) (fun a => OkK a.1 ∧ OkF a.1 a.2.1 ∧ 0 ≤ a.2.2 ∧ a.2.2 < a.1.d) (fun a => .val (.int (numOf a.1 a.2.1 a.2.2)))
theorem k_number_of : Keeps g_number_of N_number_of.length 3 b_number_of sp_number_of := by
  rintro ds M Q X ⟨⟨k, f, i⟩, rfl, ⟨hk, hf, h0, h1⟩, hQ⟩
  refine ⟨rfl, ?_⟩
  simp only at hQ hk hf h0 h1
  simp [b_number_of, startE, N_number_of, frD]
  refine forS_inv (fun ds ρ M' => M' = M ∧ ∃ (done rest : List (List Int)) (x : Sl), f = done ++ rest ∧ ds = rest.map rodD ∧ ρ = [.val (kD k), .val (frD f), .val (.int i), .val (.int (numOf k done i)), x]) ⟨rfl, [], f, .no, rfl, rfl, rfl⟩ ?_ ?_
  · rintro ρ M ⟨rfl, done, rest, x, rfl, h2, rfl⟩
    obtain rfl : rest = [] := by simpa using h2.symm
    simpa using hQ
  · rintro d ds ρ M ⟨rfl, done, rest, x, e1, h2, rfl⟩
    cases rest with
    | nil => simp at h2
    | cons r rest =>
      simp at h2
      obtain ⟨rfl, rfl⟩ := h2
      have hr := hf r (by rw [e1]; simp)
      have b1 := hk.b1
      have b2 := hk.b2
      have m1 := mul_int (mulOk_r (i := numOf k done i) (j := k.b) (by omega) (by omega))
      have m2 : ∀ M : MH, idxD M (rodD r) (.int i) = some (.int (dg r i)) := fun M => idx_rod h0 (by rw [hr.1]; exact h1)
      simp [m1, m2]
      exact ⟨done ++ [r], rest, by simp [e1], rfl, by simp [numOf]⟩
@[simp ↓, simp] theorem number_of_go {M : MH} {X : PX} {P : PE_} {ρ : Env} {k : Kd} {f : List (List Int)} {i : Int} (hk : OkK k) (hf : OkF k f) (h0 : 0 ≤ i) (h1 : i < k.d) : callS sp_number_of [kD k, frD f, .int i] M X P ρ = P (.val (.int (numOf k f i))) ρ M :=
  callS_pur (k, f, i) rfl ⟨hk, hf, h0, h1⟩ (by
    rintro ⟨k', f', i'⟩ h
    simp at h
    obtain ⟨g1, g2, rfl⟩ := h
    obtain rfl := kD_eq g1
    obtain rfl := frD_inj g2
    rfl)
open Classical in
noncomputable def isRod (k : Kd) (v : Dat) : Bool := decide (∃ r, v = rodD r ∧ OkR k r)
theorem isRod_true {k : Kd} {v : Dat} : isRod k v = true ↔ ∃ r, v = rodD r ∧ OkR k r := by simp [isRod]
theorem isRod_false {k : Kd} {v : Dat} (h : ∀ r, v = rodD r → OkR k r → False) : isRod k v = false := by
  cases e : isRod k v with
  | false => rfl
  | true => obtain ⟨t, h1, h2⟩ := isRod_true.mp e; exact (h t h1 h2).elim
theorem unints {b : Int} : ∀ {ds : List Dat}, ds.all (fun d => isInt d 0 (b - 1)) = true → ∃ r : List Int, ds = r.map Dat.int ∧ ∀ x ∈ r, 0 ≤ x ∧ x < b
  | [], _ => ⟨[], rfl, fun _ h => by cases h⟩
  | d :: ds, h => by
    simp only [List.all_cons, Bool.and_eq_true] at h
    obtain ⟨i, rfl, h1, h2⟩ := isInt_true.mp h.1
    obtain ⟨r, rfl, hr⟩ := unints h.2
    exact ⟨i :: r, rfl, fun x hx => by
      rcases List.mem_cons.mp hx with rfl | hx
      · omega
      · exact hr x hx⟩
theorem isRod_tup {k : Kd} {ds : List Dat} (h : (ds.length : Int) = k.d) : isRod k (.tup ds) = ds.all (fun d => isInt d 0 (k.b - 1)) := by
  cases e : ds.all (fun d => isInt d 0 (k.b - 1)) with
  | true => obtain ⟨r, rfl, hr⟩ := unints e; exact isRod_true.mpr ⟨r, rfl, by simpa using h, hr⟩
  | false =>
    refine isRod_false fun r e2 hr => ?_
    simp only [rodD, Dat.tup.injEq] at e2
    subst e2
    have : (r.map Dat.int).all (fun d => isInt d 0 (k.b - 1)) = true := by
      rw [List.all_eq_true]
      intro d hd
      obtain ⟨x, hx, rfl⟩ := List.mem_map.mp hd
      obtain ⟨x1, x2⟩ := hr.2 x hx
      simp [isInt]; omega
    rw [this] at e; cases e
/-! is_rod(kind, value) -/
def N_is_rod : List Str := ["kind", "value", "figure"]
def b_is_rod : Ss := (.cons (.ife (.bop .Or (.cons (.not (.isi (.var 1) .tuple)) (.cons (.cmp .NotEq (.bf .len (.var 1)) (.idx (.var 0) (.cst (.int 2)))) .nil)))
    (.cons (.ret (.cst (.bl false)))
    .nil)
    .nil)
    (.cons (.ret (.bf .all (.lc (.call "is_int" (.cons (.var 2) (.cons (.cst (.int 0)) (.cons (.bin .Sub (.idx (.var 0) (.cst (.int 0))) (.cst (.int 1))) .nil)))) (.cons (.var 2) (.seq (.var 1)) .nil .nil) [2])))
    .nil))
def g_is_rod : Kn := kn [("is_int", sp_is_int)] [] []
@[simp ↓] theorem g_is_rod_is_int : g_is_rod.fn "is_int" = some sp_is_int := by kernel_rfl

noncomputable def sp_is_rod : Spec := pur (fun (a : Kd × Dat) => [kD a.1, a.2]) (fun a => OkK a.1 ∧ a.2.plain = true) (fun a => .val (.bl (isRod a.1 a.2)))
@[simp ↓, simp] theorem is_rod_go {M : MH} {X : PX} {P : PE_} {ρ : Env} {k : Kd} {v : Dat} (hk : OkK k) (hv : v.plain = true) : callS sp_is_rod [kD k, v] M X P ρ = P (.val (.bl (isRod k v))) ρ M :=
  callS_pur (k, v) rfl ⟨hk, hv⟩ (by
    rintro ⟨a, b⟩ h
    simp at h
    obtain rfl := kD_eq h.1
    rw [h.2])
theorem k_is_rod : Keeps g_is_rod N_is_rod.length 2 b_is_rod sp_is_rod := by
  rintro ds M Q X ⟨⟨k, v⟩, rfl, ⟨hk, hv⟩, hQ⟩
  refine ⟨rfl, ?_⟩
  simp only at hQ hk hv
  have hd := hk.d2
  cases v with
  | tup ds =>
    have hp : plainAll ds = true := by simpa using hv
    by_cases h1 : (ds.length : Int) = k.d
    · rw [isRod_tup h1] at hQ
      simp [b_is_rod, startE, N_is_rod, h1]
      refine lcS_map ds (fun d => .bl (isInt d 0 (k.b - 1))) rfl (by simp [sizeLine_eq]; omega) (by simp) ?_ ?_
      · intro d hd
        have := plainAll_mem hp d hd
        simp [wipeE, this]
      · simp [callD, blsD_map, all_map]
        simpa using hQ
    · rw [isRod_false (fun r e h => h1 (by
        have := h.1
        simp only [rodD, Dat.tup.injEq] at e
        subst e; simpa using this))] at hQ
      simp [b_is_rod, startE, N_is_rod, h1, hQ]
  | _ => first | (exfalso; simp [Dat.plain] at hv; done) | (rw [isRod_false (fun t e _ => by cases e)] at hQ; simp [b_is_rod, startE, N_is_rod, isD, hQ])
open Classical in
noncomputable def areRods (k : Kd) (v : Dat) (m : Int) : Bool := decide (∃ f, v = frD f ∧ OkF k f ∧ (f.length : Int) ≤ m)
theorem areRods_true {k : Kd} {v : Dat} {m : Int} : areRods k v m = true ↔ ∃ f, v = frD f ∧ OkF k f ∧ (f.length : Int) ≤ m := by simp [areRods]
theorem areRods_false {k : Kd} {v : Dat} {m : Int} (h : ∀ f, v = frD f → OkF k f → (f.length : Int) ≤ m → False) : areRods k v m = false := by
  cases e : areRods k v m with
  | false => rfl
  | true => obtain ⟨t, h1, h2, h3⟩ := areRods_true.mp e; exact (h t h1 h2 h3).elim
theorem unrods {k : Kd} : ∀ {ds : List Dat}, ds.all (isRod k) = true → ∃ f : List (List Int), ds = f.map rodD ∧ OkF k f
  | [], _ => ⟨[], rfl, fun _ h => by cases h⟩
  | d :: ds, h => by
    simp only [List.all_cons, Bool.and_eq_true] at h
    obtain ⟨i, rfl, h1⟩ := isRod_true.mp h.1
    obtain ⟨r, rfl, hr⟩ := unrods h.2
    exact ⟨i :: r, rfl, fun x hx => by
      rcases List.mem_cons.mp hx with rfl | hx
      · exact h1
      · exact hr x hx⟩
theorem areRods_tup {k : Kd} {ds : List Dat} {m : Int} (h : (ds.length : Int) ≤ m) : areRods k (.tup ds) m = ds.all (isRod k) := by
  cases e : ds.all (isRod k) with
  | true => obtain ⟨f, rfl, hf⟩ := unrods e; exact areRods_true.mpr ⟨f, rfl, hf, by simpa using h⟩
  | false =>
    refine areRods_false fun f e2 hf _ => ?_
    simp only [frD, Dat.tup.injEq] at e2
    subst e2
    have : (f.map rodD).all (isRod k) = true := by
      rw [List.all_eq_true]
      intro d hd
      obtain ⟨x, hx, rfl⟩ := List.mem_map.mp hd
      exact isRod_true.mpr ⟨x, rfl, hf x hx⟩
    rw [this] at e; cases e
/-! are_rods(kind, value, most) -/
def N_are_rods : List Str := ["kind", "value", "most", "rod"]
def b_are_rods : Ss := (.cons (.ret (.bop .And (.cons (.isi (.var 1) .tuple) (.cons (.cmp .LtE (.bf .len (.var 1)) (.var 2)) (.cons (.bf .all (.lc (.call "is_rod" (.cons (.var 0) (.cons (.var 3) .nil))) (.cons (.var 3) (.seq (.var 1)) .nil .nil) [3])) .nil)))))
    .nil)
def g_are_rods : Kn := kn [("is_rod", sp_is_rod)] [] []
@[simp ↓] theorem g_are_rods_is_rod : g_are_rods.fn "is_rod" = some sp_is_rod := by kernel_rfl

noncomputable def sp_are_rods : Spec := pur (fun (a : Kd × Dat × Int) => [kD a.1, a.2.1, .int a.2.2]) (fun a => OkK a.1 ∧ a.2.1.plain = true ∧ a.2.2 ≤ 100000) (fun a => .val (.bl (areRods a.1 a.2.1 a.2.2)))
@[simp ↓, simp] theorem are_rods_go {M : MH} {X : PX} {P : PE_} {ρ : Env} {k : Kd} {v : Dat} {m : Int} (hk : OkK k) (hv : v.plain = true) (hm : m ≤ 100000) : callS sp_are_rods [kD k, v, .int m] M X P ρ = P (.val (.bl (areRods k v m))) ρ M :=
  callS_pur (k, v, m) rfl ⟨hk, hv, hm⟩ (by
    rintro ⟨a, b, c⟩ h
    simp at h
    obtain ⟨h1, rfl, rfl⟩ := h
    obtain rfl := kD_eq h1
    rfl)
theorem k_are_rods : Keeps g_are_rods N_are_rods.length 3 b_are_rods sp_are_rods := by
  rintro ds M Q X ⟨⟨k, v, m⟩, rfl, ⟨hk, hv, hm⟩, hQ⟩
  refine ⟨rfl, ?_⟩
  simp only at hQ hk hv hm
  cases v with
  | tup ds =>
    have hp : plainAll ds = true := by simpa using hv
    by_cases h1 : (ds.length : Int) ≤ m
    · rw [areRods_tup h1] at hQ
      simp [b_are_rods, startE, N_are_rods, h1]
      refine lcS_map ds (fun d => .bl (isRod k d)) rfl (by simp [sizeLine_eq]; omega) (by simp) ?_ ?_
      · intro d hd
        have := plainAll_mem hp d hd
        simp [wipeE, hk, this]
      · simp [callD, blsD_map, all_map]
        simpa using hQ
    · rw [areRods_false (fun f e _ h => h1 (by
        simp only [frD, Dat.tup.injEq] at e
        subst e; simpa using h))] at hQ
      simp [b_are_rods, startE, N_are_rods, h1, hQ]
  | _ => first | (exfalso; simp [Dat.plain] at hv; done) | (rw [areRods_false (fun t e _ _ => by cases e)] at hQ; simp [b_are_rods, startE, N_are_rods, isD, hQ])
end Mi

set_option maxHeartbeats 1000000
/-! B5: needs that raise; number, walks. -/
namespace Mi
open PySem PySem.Spec PyProof.Rows L2
def okIf (b : Bool) (r : Rv) (e : Exc) : Except Exc Rv := match b with
  | true => .ok r
  | false => .error e
@[simp] theorem okIf_t (r : Rv) (e : Exc) : okIf true r e = .ok r := id rfl
@[simp] theorem okIf_f (r : Rv) (e : Exc) : okIf false r e = .error e := id rfl
def eK : Exc := ⟨"InvalidKind", none⟩
def eF : Exc := ⟨"InvalidFrame", none⟩
def eN : Exc := ⟨"InvalidNumber", none⟩
def eT (i : Int) : Exc := ⟨"InvalidText", some ("line", .int i)⟩
/-! need_kind(kind) -/
def N_need_kind : List Str := ["kind"]
def b_need_kind : Ss := (.cons (.ife (.not (.call "is_kind" (.cons (.var 0) .nil)))
    (.cons (.rai "InvalidKind" (.cons (.cst (.str (wS 12))) .nil))
    .nil)
    .nil)
    .nil)
def g_need_kind : Kn := kn [("is_kind", sp_is_kind)] [] [] [("InvalidKind", none)]
@[simp ↓] theorem g_need_kind_InvalidKind : g_need_kind.exc "InvalidKind" = some none := by kernel_rfl
@[simp ↓] theorem g_need_kind_is_kind : g_need_kind.fn "is_kind" = some sp_is_kind := by kernel_rfl

def sp_need_kind : Spec := purX (fun (v : Dat) => [v]) (fun v => v.plain = true) (fun v => okIf (isKind v) (.val .non) eK)
theorem k_need_kind : Keeps g_need_kind N_need_kind.length 1 b_need_kind sp_need_kind := by
  rintro ds M Q X ⟨v, rfl, hv, hQ⟩
  refine ⟨rfl, ?_⟩
  cases h : isKind v <;> simp [h] at hQ <;> simp [b_need_kind, startE, N_need_kind, hv, h] <;> exact hQ
theorem need_kindV_go {M : MH} {X : PX} {P : PE_} {ρ : Env} {v : Dat} (hv : v.plain = true) : callS sp_need_kind [v] M X P ρ = exD X (fun r M => P r ρ M) M (okIf (isKind v) (.val .non) eK) :=
  callS_purX v rfl hv (by intro b h; simp at h; rw [h])
@[simp ↓, simp] theorem need_kind_go {M : MH} {X : PX} {P : PE_} {ρ : Env} {k : Kd} (hk : OkK k) : callS sp_need_kind [kD k] M X P ρ = P (.val .non) ρ M := by
  rw [need_kindV_go (kD_plain k), isKind_ok hk]; rfl
/-! need_frame(kind, frame) -/
def N_need_frame : List Str := ["kind", "frame"]
def b_need_frame : Ss := (.cons (.ife (.not (.call "are_rods" (.cons (.var 0) (.cons (.var 1) (.cons (.glb "MOST_RODS") .nil)))))
    (.cons (.rai "InvalidFrame" (.cons (.cst (.str (wS 30))) .nil))
    .nil)
    .nil)
    .nil)
def g_need_frame : Kn := kn [("are_rods", sp_are_rods)] [("MOST_RODS", (.int 60))] [] [("InvalidFrame", none)]
@[simp ↓] theorem g_need_frame_InvalidFrame : g_need_frame.exc "InvalidFrame" = some none := by kernel_rfl
@[simp ↓] theorem g_need_frame_are_rods : g_need_frame.fn "are_rods" = some sp_are_rods := by kernel_rfl
@[simp ↓] theorem g_need_frame_MOST_RODS : g_need_frame.gl "MOST_RODS" = some (.int 60) := by kernel_rfl

noncomputable def sp_need_frame : Spec := purX (fun (a : Kd × Dat) => [kD a.1, a.2]) (fun a => OkK a.1 ∧ a.2.plain = true) (fun a => okIf (areRods a.1 a.2 60) (.val .non) eF)
theorem k_need_frame : Keeps g_need_frame N_need_frame.length 2 b_need_frame sp_need_frame := by
  rintro ds M Q X ⟨⟨k, v⟩, rfl, ⟨hk, hv⟩, hQ⟩
  refine ⟨rfl, ?_⟩
  simp only at hk hv
  cases h : areRods k v 60 <;> simp [h] at hQ <;> simp [b_need_frame, startE, N_need_frame, hk, hv, h] <;> exact hQ
@[simp ↓, simp] theorem need_frame_go {M : MH} {X : PX} {P : PE_} {ρ : Env} {k : Kd} {v : Dat} (hk : OkK k) (hv : v.plain = true) : callS sp_need_frame [kD k, v] M X P ρ = exD X (fun r M => P r ρ M) M (okIf (areRods k v 60) (.val .non) eF) :=
  callS_purX (k, v) rfl ⟨hk, hv⟩ (by rintro ⟨a, b⟩ h; simp at h; obtain ⟨h, rfl⟩ := h; obtain rfl := kD_eq h; rfl)
/-! need_text(kind, text) -/
def N_need_text : List Str := ["kind", "text"]
def b_need_text : Ss := (.cons (.ife (.not (.call "is_text_of" (.cons (.var 0) (.cons (.var 1) .nil))))
    (.cons (.rai "InvalidText" (.cons (.cst (.int 0)) .nil))
    .nil)
    .nil)
    .nil)
def g_need_text : Kn := kn [("is_text_of", sp_is_text_of)] [] [] [("InvalidText", (some ("line" : Str)))]
@[simp ↓] theorem g_need_text_InvalidText : g_need_text.exc "InvalidText" = some (some ("line" : Str)) := by kernel_rfl
@[simp ↓] theorem g_need_text_is_text_of : g_need_text.fn "is_text_of" = some sp_is_text_of := by kernel_rfl

noncomputable def sp_need_text : Spec := purX (fun (a : Kd × Dat) => [kD a.1, a.2]) (fun a => OkK a.1 ∧ a.2.plain = true) (fun a => okIf (isTextV a.1 a.2) (.val .non) (eT 0))
theorem k_need_text : Keeps g_need_text N_need_text.length 2 b_need_text sp_need_text := by
  rintro ds M Q X ⟨⟨k, v⟩, rfl, ⟨hk, hv⟩, hQ⟩
  refine ⟨rfl, ?_⟩
  simp only at hk hv
  cases h : isTextV k v <;> simp [h] at hQ <;> simp [b_need_text, startE, N_need_text, hk, hv, h] <;> exact hQ
@[simp ↓, simp] theorem need_text_go {M : MH} {X : PX} {P : PE_} {ρ : Env} {k : Kd} {v : Dat} (hk : OkK k) (hv : v.plain = true) : callS sp_need_text [kD k, v] M X P ρ = exD X (fun r M => P r ρ M) M (okIf (isTextV k v) (.val .non) (eT 0)) :=
  callS_purX (k, v) rfl ⟨hk, hv⟩ (by rintro ⟨a, b⟩ h; simp at h; obtain ⟨h, rfl⟩ := h; obtain rfl := kD_eq h; rfl)
/-! need_number(number, low, high) -/
def N_need_number : List Str := ["number", "low", "high"]
def b_need_number : Ss := (.cons (.ife (.not (.call "is_int" (.cons (.var 0) (.cons (.var 1) (.cons (.var 2) .nil)))))
    (.cons (.rai "InvalidNumber" (.cons (.cst (.str (wS 29))) .nil))
    .nil)
    .nil)
    .nil)
def g_need_number : Kn := kn [("is_int", sp_is_int)] [] [] [("InvalidNumber", none)]
@[simp ↓] theorem g_need_number_InvalidNumber : g_need_number.exc "InvalidNumber" = some none := by kernel_rfl
@[simp ↓] theorem g_need_number_is_int : g_need_number.fn "is_int" = some sp_is_int := by kernel_rfl

def sp_need_number : Spec := purX (fun (a : Dat × Int × Int) => [a.1, .int a.2.1, .int a.2.2]) (fun a => a.1.plain = true) (fun a => okIf (isInt a.1 a.2.1 a.2.2) (.val .non) eN)
theorem k_need_number : Keeps g_need_number N_need_number.length 3 b_need_number sp_need_number := by
  rintro ds M Q X ⟨⟨v, lo, hi⟩, rfl, hv, hQ⟩
  refine ⟨rfl, ?_⟩
  simp only at hv
  cases h : isInt v lo hi <;> simp [h] at hQ <;> simp [b_need_number, startE, N_need_number, hv, h] <;> exact hQ
@[simp ↓, simp] theorem need_number_go {M : MH} {X : PX} {P : PE_} {ρ : Env} {v : Dat} {lo hi : Int} (hv : v.plain = true) : callS sp_need_number [v, .int lo, .int hi] M X P ρ = exD X (fun r M => P r ρ M) M (okIf (isInt v lo hi) (.val .non) eN) :=
  callS_purX (v, lo, hi) rfl hv (by rintro ⟨a, b, c⟩ h; simp at h; obtain ⟨rfl, rfl, rfl⟩ := h; rfl)
/-! need_both(kind, text) -/
def N_need_both : List Str := ["kind", "text"]
def b_need_both : Ss := (.cons (.exp (.call "need_kind" (.cons (.var 0) .nil)))
    (.cons (.exp (.call "need_text" (.cons (.var 0) (.cons (.var 1) .nil))))
    .nil))
def g_need_both : Kn := kn [("need_text", sp_need_text), ("need_kind", sp_need_kind)] [] []
@[simp ↓] theorem g_need_both_need_text : g_need_both.fn "need_text" = some sp_need_text := by kernel_rfl
@[simp ↓] theorem g_need_both_need_kind : g_need_both.fn "need_kind" = some sp_need_kind := by kernel_rfl

noncomputable def sp_need_both : Spec := purX (fun (a : Kd × Dat) => [kD a.1, a.2]) (fun a => OkK a.1 ∧ a.2.plain = true) (fun a => okIf (isTextV a.1 a.2) (.val .non) (eT 0))
theorem k_need_both : Keeps g_need_both N_need_both.length 2 b_need_both sp_need_both := by
  rintro ds M Q X ⟨⟨k, v⟩, rfl, ⟨hk, hv⟩, hQ⟩
  refine ⟨rfl, ?_⟩
  simp only at hk hv
  cases h : isTextV k v <;> simp [h] at hQ <;> simp [b_need_both, startE, N_need_both, hk, hv, h] <;> exact hQ
@[simp ↓, simp] theorem need_both_go {M : MH} {X : PX} {P : PE_} {ρ : Env} {k : Kd} {v : Dat} (hk : OkK k) (hv : v.plain = true) : callS sp_need_both [kD k, v] M X P ρ = exD X (fun r M => P r ρ M) M (okIf (isTextV k v) (.val .non) (eT 0)) :=
  callS_purX (k, v) rfl ⟨hk, hv⟩ (by rintro ⟨a, b⟩ h; simp at h; obtain ⟨h, rfl⟩ := h; obtain rfl := kD_eq h; rfl)
/-! ### what values tell -/
def intOf : Dat → Int
  | .int i => i
  | _ => 0
def rodOf : Dat → List Int
  | .tup ds => ds.map intOf
  | _ => []
def frOf : Dat → List (List Int)
  | .tup ds => ds.map rodOf
  | _ => []
@[simp] theorem rodOf_D (r : List Int) : rodOf (rodD r) = r := by
  show (r.map Dat.int).map intOf = r
  rw [List.map_map]; exact List.map_id' r
@[simp] theorem frOf_D (f : List (List Int)) : frOf (frD f) = f := by
  show (f.map rodD).map rodOf = f
  rw [List.map_map]
  conv => rhs; rw [← List.map_id f]
  exact List.map_congr_left fun r _ => rodOf_D r
/-! number(kind, frame, field) -/
def N_number : List Str := ["kind", "frame", "field"]
def b_number : Ss := (.cons (.exp (.call "need_kind" (.cons (.var 0) .nil)))
    (.cons (.exp (.call "need_frame" (.cons (.var 0) (.cons (.var 1) .nil))))
    (.cons (.exp (.call "need_number" (.cons (.var 2) (.cons (.cst (.int 0)) (.cons (.bin .Sub (.idx (.var 0) (.cst (.int 2))) (.cst (.int 1))) .nil)))))
    (.cons (.ret (.call "number_of" (.cons (.var 0) (.cons (.var 1) (.cons (.var 2) .nil)))))
    .nil))))
def g_number : Kn := kn [("number_of", sp_number_of), ("need_number", sp_need_number), ("need_frame", sp_need_frame), ("need_kind", sp_need_kind)] [] []
@[simp ↓] theorem g_number_number_of : g_number.fn "number_of" = some sp_number_of := by kernel_rfl
@[simp ↓] theorem g_number_need_number : g_number.fn "need_number" = some sp_need_number := by kernel_rfl
@[simp ↓] theorem g_number_need_frame : g_number.fn "need_frame" = some sp_need_frame := by kernel_rfl
@[simp ↓] theorem g_number_need_kind : g_number.fn "need_kind" = some sp_need_kind := by kernel_rfl

def exN : Bool → Bool → Rv → Except Exc Rv
  | false, _, _ => .error eF
  | true, false, _ => .error eN
  | true, true, r => .ok r
noncomputable def sp_number : Spec := purX (fun (a : Kd × Dat × Dat) => [kD a.1, a.2.1, a.2.2]) (fun a => OkK a.1 ∧ a.2.1.plain = true ∧ a.2.2.plain = true)
  (fun a => exN (areRods a.1 a.2.1 60) (isInt a.2.2 0 (a.1.d - 1)) (.val (.int (numOf a.1 (frOf a.2.1) (intOf a.2.2)))))
theorem k_number : Keeps g_number N_number.length 3 b_number sp_number := by
  rintro ds M Q X ⟨⟨k, v, f⟩, rfl, ⟨hk, hv, hf⟩, hQ⟩
  refine ⟨rfl, ?_⟩
  simp only at hk hv hf hQ
  cases h : areRods k v 60 with
  | false =>
    simp [h, exN] at hQ
    simp [b_number, startE, N_number, hk, hv, h, hQ]
  | true =>
    obtain ⟨fr, rfl, h1, h2⟩ := areRods_true.mp h
    cases h3 : isInt f 0 (k.d - 1) with
    | false =>
      simp [h, h3, exN] at hQ
      simp [b_number, startE, N_number, hk, hv, h, hf, h3, hQ]
    | true =>
      obtain ⟨i, rfl, i0, i1⟩ := isInt_true.mp h3
      simp [h, i0, i1, exN, intOf] at hQ
      have i2 : i < k.d := by omega
      simp [b_number, startE, N_number, hk, hv, h, i0, i1]
      rw [number_of_go hk h1 i0 i2]
      exact hQ
theorem number_goV {M : MH} {X : PX} {P : PE_} {ρ : Env} {k : Kd} {v f : Dat} (hk : OkK k) (hv : v.plain = true) (hf : f.plain = true) :
    callS sp_number [kD k, v, f] M X P ρ = exD X (fun r M => P r ρ M) M (exN (areRods k v 60) (isInt f 0 (k.d - 1)) (.val (.int (numOf k (frOf v) (intOf f))))) :=
  callS_purX (k, v, f) rfl ⟨hk, hv, hf⟩ (by rintro ⟨a, b, c⟩ h; simp at h; obtain ⟨h, rfl, rfl⟩ := h; obtain rfl := kD_eq h; rfl)
@[simp] theorem plain_frD (a : List (List Int)) : (frD a).plain = true := by
  have : ∀ a : List (List Int), plainAll (a.map rodD) = true := by
    intro a
    induction a with
    | nil => simp
    | cons x a ih => simp [ih]
  simp [frD, this]
theorem number_go {M : MH} {X : PX} {P : PE_} {ρ : Env} {k : Kd} {f : List (List Int)} {i : Int} (hk : OkK k) (hf : OkF k f) (hl : f.length ≤ 60) (h0 : 0 ≤ i) (h1 : i < k.d) :
    callS sp_number [kD k, frD f, .int i] M X P ρ = P (.val (.int (numOf k f i))) ρ M := by
  rw [number_goV hk (plain_frD f) (by simp), areRods_true.mpr ⟨f, rfl, hf, by omega⟩, isInt_true.mpr ⟨i, rfl, h0, by omega⟩]
  simp [exN, intOf]
/-! walks(kind, text) -/
def N_walks : List Str := ["kind", "text", "step"]
def b_walks : Ss := (.cons (.exp (.call "need_both" (.cons (.var 0) (.cons (.var 1) .nil))))
    (.cons (.ret (.lc (.tup (.cons (.ite (.call "is_from_left" (.cons (.var 2) .nil)) (.cst (.str (wS 9))) (.cst (.str (wS 10)))) (.cons (.call "width" (.cons (.var 0) (.cons (.var 2) .nil))) .nil))) (.cons (.var 2) (.seq (.call "walks_of" (.cons (.var 1) .nil))) .nil .nil) [2]))
    .nil))
def g_walks : Kn := kn [("walks_of", sp_walks_of), ("width", sp_width), ("is_from_left", sp_is_from_left), ("need_both", sp_need_both)] [] []
@[simp ↓] theorem g_walks_walks_of : g_walks.fn "walks_of" = some sp_walks_of := by kernel_rfl
@[simp ↓] theorem g_walks_width : g_walks.fn "width" = some sp_width := by kernel_rfl
@[simp ↓] theorem g_walks_is_from_left : g_walks.fn "is_from_left" = some sp_is_from_left := by kernel_rfl
@[simp ↓] theorem g_walks_need_both : g_walks.fn "need_both" = some sp_need_both := by kernel_rfl

def sideW (p : Pl) : Dat := .str (if fromLeft p then wS 9 else wS 10)
def wkL (k : Kd) (t : List St') : List Dat := (walksOf t).map fun p => .tup [sideW p, .int (width k p)]
open Classical in
noncomputable def txOf (v : Dat) : List St' := if h : ∃ t, v = txD t then h.choose else []
theorem isText_len {k : Kd} {t : List St'} (h : isText k t = true) : t.length ≤ 6 := by
  unfold isText at h
  simp at h
  omega
theorem okT_sz {k : Kd} {t : List St'} (h : OkT k t) (hl : t.length ≤ 1000) : SzT t := ⟨hl, fun s hs => okSt_sz (h s hs)⟩
theorem wk_inj {t t' : List St'} (h : txD t = txD t') (k : Kd) : wkL k t = wkL k t' := by
  have h := txD_inj' h
  unfold wkL
  revert h
  generalize walksOf t = a
  generalize walksOf t' = b
  intro h
  induction a generalizing b with
  | nil => cases b with
    | nil => rfl
    | cons => simp at h
  | cons p a ih => cases b with
    | nil => simp at h
    | cons q b =>
      simp at h
      obtain ⟨e1, e2, e3⟩ := plD_inj h.1
      obtain ⟨w, i, x⟩ := p
      obtain ⟨w', i', x'⟩ := q
      simp only at e1 e2 e3
      subst e1
      simp only [List.map_cons, ih b h.2]
      congr 1
      cases w <;> simp [Wd.tri] at e3 <;> simp [sideW, width, fromLeft, e3]
theorem txOf_D (t : List St') (k : Kd) : wkL k (txOf (txD t)) = wkL k t := by
  have h : ∃ t', txD t = txD t' := ⟨t, rfl⟩
  unfold txOf
  rw [dif_pos h]
  exact (wk_inj h.choose_spec k).symm
noncomputable def sp_walks : Spec := purX (fun (a : Kd × Dat) => [kD a.1, a.2]) (fun a => OkK a.1 ∧ a.2.plain = true) (fun a => okIf (isTextV a.1 a.2) (.own (.lst (wkL a.1 (txOf a.2)))) (eT 0))
theorem k_walks : Keeps g_walks N_walks.length 2 b_walks sp_walks := by
  rintro ds M Q X ⟨⟨k, v⟩, rfl, ⟨hk, hv⟩, hQ⟩
  refine ⟨rfl, ?_⟩
  simp only at hk hv hQ
  cases h : isTextV k v with
  | false =>
    simp [h] at hQ
    simp [b_walks, startE, N_walks, hk, hv, h, hQ]
  | true =>
    obtain ⟨t, rfl, ht, hx⟩ := isTextV_true.mp h
    simp [h] at hQ
    rw [txOf_D] at hQ
    have hl := isText_len hx
    have hz := okT_sz ht (by omega)
    simp [b_walks, startE, N_walks, hk, hv, h]
    have hw := walksOf_len hz.2
    refine lcS_mapE (walksOf t) plD (fun p => .tup [sideW p, .int (width k p)]) rfl (by rw [sizeLine_eq]; omega) (by simp [hz]) ?_ ?_
    · intro p hp
      cases hf : fromLeft p <;> simp [wipeE, hf, sideW]
    · simpa [wkL] using hQ
theorem walks_goV {M : MH} {X : PX} {P : PE_} {ρ : Env} {k : Kd} {v : Dat} (hk : OkK k) (hv : v.plain = true) :
    callS sp_walks [kD k, v] M X P ρ = exD X (fun r M => P r ρ M) M (okIf (isTextV k v) (.own (.lst (wkL k (txOf v)))) (eT 0)) :=
  callS_purX (k, v) rfl ⟨hk, hv⟩ (by rintro ⟨a, b⟩ h; simp at h; obtain ⟨h, rfl⟩ := h; obtain rfl := kD_eq h; rfl)
@[simp] theorem plain_stD (s : St') : (stD s).plain = true := by
  cases s with
  | pl p => simp [stD]
  | again n ps =>
    have : ∀ a : List Pl, plainAll (a.map plD) = true := by
      intro a
      induction a with
      | nil => simp
      | cons x a ih => simp [ih]
    simp [stD, this]
@[simp] theorem plain_txD (t : List St') : (txD t).plain = true := by
  have : ∀ a : List St', plainAll (a.map stD) = true := by
    intro a
    induction a with
    | nil => simp
    | cons x a ih => simp [ih]
  simp [txD, this]
theorem walks_go {M : MH} {X : PX} {P : PE_} {ρ : Env} {k : Kd} {t : List St'} (hk : OkK k) (ht : OkT k t) (hx : isText k t = true) : callS sp_walks [kD k, txD t] M X P ρ = P (.own (.lst (wkL k t))) ρ M := by
  rw [walks_goV hk (plain_txD t), isTextV_tx ht, hx, txOf_D]; rfl
end Mi

set_option maxHeartbeats 1000000
/-! C1: a plain step at one rod -/
namespace Mi
open PySem PySem.Spec PyProof.Rows L2
/-! first_note(step) -/
def N_first_note : List Str := ["step"]
def b_first_note : Ss := (.cons (.ret (.bf .int (.cmp .Eq (.idx (.var 0) (.cst (.int 0))) (.cst (.str (wS 7))))))
    .nil)
def g_first_note : Kn := kn [] [] []

def firstNote (p : Pl) : Int := if p.w = .more then 1 else 0
def sp_first_note : Spec := pur (fun (p : Pl) => [plD p]) (fun a => True) (fun p => .val (.int (firstNote p)))
theorem k_first_note : Keeps g_first_note N_first_note.length 1 b_first_note sp_first_note := by
  rintro ds M Q X ⟨p, rfl, _, hQ⟩
  refine ⟨rfl, ?_⟩
  obtain ⟨w, i, x⟩ := p
  cases w <;> simp [firstNote] at hQ <;> simp [b_first_note, startE, N_first_note, Wd.n, hQ]
@[simp ↓, simp] theorem first_note_go {M : MH} {X : PX} {P : PE_} {ρ : Env} {p : Pl} : callS sp_first_note [plD p] M X P ρ = P (.val (.int (firstNote p))) ρ M :=
  callS_pur p rfl True.intro (by intro b h; obtain ⟨h3, _, _⟩ := plD_inj (List.cons.inj h).1; simp [firstNote, h3])
/-! with_digit(rod, field, digit) -/
def N_with_digit : List Str := ["rod", "field", "digit"]
def b_with_digit : Ss := (.cons (.ret (.bin .Add (.bin .Add (.slc (.var 0) .nil (.cons (.var 1) .nil)) (.tup (.cons (.var 2) .nil))) (.slc (.var 0) (.cons (.bin .Add (.var 1) (.cst (.int 1))) .nil) .nil)))
    .nil)
def g_with_digit : Kn := kn [] [] []

theorem cut_to {α : Type} {xs : List α} {i : Int} (h0 : 0 ≤ i) (h1 : i ≤ xs.length) : cutD xs none (some i) = xs.take i.toNat := by
  unfold cutD
  have e : ¬ i < 0 := by omega
  have e2 : min i.toNat xs.length = i.toNat := by omega
  simp [HT.sIx, e, e2]
theorem cut_from {α : Type} {xs : List α} {i : Int} (h0 : 0 ≤ i) (h1 : i ≤ xs.length) : cutD xs (some i) none = xs.drop i.toNat := by
  unfold cutD
  have e : ¬ i < 0 := by omega
  have e2 : min i.toNat xs.length = i.toNat := by omega
  simp [HT.sIx, e, e2]
  rw [List.take_of_length_le (by simp)]
def sp_with_digit : Spec := pur (fun (a : List Int × Int × Int) => [rodD a.1, .int a.2.1, .int a.2.2]) (fun a => 0 ≤ a.2.1 ∧ a.2.1 < a.1.length ∧ a.1.length ≤ 1000) (fun a => .val (rodD (a.1.set a.2.1.toNat a.2.2)))
theorem k_with_digit : Keeps g_with_digit N_with_digit.length 3 b_with_digit sp_with_digit := by
  rintro ds M Q X ⟨⟨r, i, v⟩, rfl, ⟨h0, h1, hl⟩, hQ⟩
  refine ⟨rfl, ?_⟩
  simp only at h0 h1 hl hQ
  have e1 : cutD (r.map Dat.int) none (some i) = (r.map Dat.int).take i.toNat := cut_to h0 (by simp; omega)
  have e2 : cutD (r.map Dat.int) (some (i + 1)) none = (r.map Dat.int).drop (i + 1).toNat := cut_from (by omega) (by simp; omega)
  have z1 : ((r.map Dat.int).take i.toNat).length + [Dat.int v].length ≤ sizeLine := by simp [sizeLine_eq]; omega
  have z2 : ((r.map Dat.int).take i.toNat ++ [Dat.int v]).length + ((r.map Dat.int).drop (i + 1).toNat).length ≤ sizeLine := by simp [sizeLine_eq]; omega
  simp [b_with_digit, startE, N_with_digit, rodD]
  rw [e1, add_tup z1]
  simp [e2]
  have z3 := add_tup z2
  simp only [List.append_assoc, List.singleton_append] at z3
  rw [add_tup z2]
  simp only [oPs, yRv_go, zRet_go, takeR_val, yRet_go]
  have e3 : (r.map Dat.int).take i.toNat ++ [Dat.int v] ++ (r.map Dat.int).drop (i + 1).toNat = (r.set i.toNat v).map Dat.int := by
    have : (i + 1).toNat = i.toNat + 1 := by omega
    rw [this, List.map_set, List.set_eq_take_append_cons_drop, if_pos (by simp; omega)]
    simp
  rw [e3]
  simpa [rodD] using hQ
theorem with_digit_go {M : MH} {X : PX} {P : PE_} {ρ : Env} {r : List Int} {i v : Int} (h0 : 0 ≤ i) (h1 : i < r.length) (hl : r.length ≤ 1000) : callS sp_with_digit [rodD r, .int i, .int v] M X P ρ = P (.val (rodD (r.set i.toNat v))) ρ M :=
  callS_pur (r, i, v) rfl ⟨h0, h1, hl⟩ (by
    rintro ⟨r', i', v'⟩ h
    simp at h
    obtain ⟨g1, rfl, rfl⟩ := h
    obtain rfl := rodD_inj g1
    rfl)

/-! ### one rod -/
def wrk1 (b : Int) (w : Wd) (x mine note : Int) : Int × Int := match w with
  | .times => ((mine * x + note) % b, (mine * x + note) / b)
  | .part => ((note * b + mine) / x, (note * b + mine) % x)
  | .more => ((mine + note) % b, (mine + note) / b)
  | .nines => (b - 1 - mine, 0)
  | _ => (note, mine)
def wrk2 (b : Int) (w : Wd) (mine other note : Int) : Int × Int := match w with
  | .add => ((mine + other + note) % b, (mine + other + note) / b)
  | .less => ((mine - other - note) % b, if mine - other - note < 0 then 1 else 0)
  | .greater => (if (if note = 0 ∧ mine ≠ other then (if other < mine then 1 else 2) else note) = 2 then other else mine, if note = 0 ∧ mine ≠ other then (if other < mine then 1 else 2) else note)
  | _ => (other, 0)
def wrk (k : Kd) (p : Pl) (r : List Int) (note : Int) : List Int × Int :=
  let m := (dg r p.i)
  let o := (dg r p.x)
  if p.w = .times ∨ p.w = .part ∨ p.w.tri = false then (r.set p.i.toNat (wrk1 k.b p.w p.x m note).1, (wrk1 k.b p.w p.x m note).2)
  else if p.w = .swap then ((r.set p.i.toNat o).set p.x.toNat m, 0)
  else (r.set p.i.toNat (wrk2 k.b p.w m o note).1, (wrk2 k.b p.w m o note).2)
theorem log_small {i : Int} (h0 : 0 < i) (h1 : i ≤ 100) : i.natAbs.log2 < 9000 := by
  have := Nat.log2_le_self i.natAbs
  omega
theorem fdiv_small {i j : Int} (h0 : 0 < j) (h1 : j ≤ 100) : binD .FloorDiv (.int i) (.int j) = some (.val (.int (i / j))) := fdiv_int ⟨h0, log_small h0 h1⟩
/-! worked_one(base, step, mine, note) -/
def N_worked_one : List Str := ["base", "step", "mine", "note", "total"]
def b_worked_one : Ss := (.cons (.ife (.cmp .Eq (.idx (.var 1) (.cst (.int 0))) (.cst (.str (wS 2))))
    (.cons (.asg 4 (.bin .Add (.bin .Mult (.var 2) (.idx (.var 1) (.cst (.int 2)))) (.var 3)))
    (.cons (.ret (.tup (.cons (.bin .Mod (.var 4) (.var 0)) (.cons (.bin .FloorDiv (.var 4) (.var 0)) .nil))))
    .nil))
    .nil)
    (.cons (.ife (.cmp .Eq (.idx (.var 1) (.cst (.int 0))) (.cst (.str (wS 3))))
    (.cons (.asg 4 (.bin .Add (.bin .Mult (.var 3) (.var 0)) (.var 2)))
    (.cons (.ret (.tup (.cons (.bin .FloorDiv (.var 4) (.idx (.var 1) (.cst (.int 2)))) (.cons (.bin .Mod (.var 4) (.idx (.var 1) (.cst (.int 2)))) .nil))))
    .nil))
    .nil)
    (.cons (.ife (.cmp .Eq (.idx (.var 1) (.cst (.int 0))) (.cst (.str (wS 7))))
    (.cons (.ret (.tup (.cons (.bin .Mod (.bin .Add (.var 2) (.var 3)) (.var 0)) (.cons (.bin .FloorDiv (.bin .Add (.var 2) (.var 3)) (.var 0)) .nil))))
    .nil)
    .nil)
    (.cons (.ife (.cmp .Eq (.idx (.var 1) (.cst (.int 0))) (.cst (.str (wS 8))))
    (.cons (.ret (.tup (.cons (.bin .Sub (.bin .Sub (.var 0) (.cst (.int 1))) (.var 2)) (.cons (.cst (.int 0)) .nil))))
    .nil)
    .nil)
    (.cons (.ret (.tup (.cons (.var 3) (.cons (.var 2) .nil))))
    .nil)))))
def g_worked_one : Kn := kn [] [] []

def sp_worked_one : Spec := pur (fun (a : Int × Pl × Int × Int) => [.int a.1, plD a.2.1, .int a.2.2.1, .int a.2.2.2]) (fun a => 2 ≤ a.1 ∧ a.1 ≤ 10 ∧ (a.2.1.w = .times ∨ a.2.1.w = .part ∨ a.2.1.w.tri = false) ∧ (a.2.1.w.tri = true → 2 ≤ a.2.1.x ∧ a.2.1.x ≤ 9) ∧ 0 ≤ a.2.2.1 ∧ a.2.2.1 < 10)
  (fun a => .val (.tup [.int (wrk1 a.1 a.2.1.w a.2.1.x a.2.2.1 a.2.2.2).1, .int (wrk1 a.1 a.2.1.w a.2.1.x a.2.2.1 a.2.2.2).2]))
theorem k_worked_one : Keeps g_worked_one N_worked_one.length 4 b_worked_one sp_worked_one := by
  rintro ds M Q X ⟨⟨b, ⟨w, i, x⟩, m, n⟩, rfl, ⟨h1, h2, h3, h4, h5, h6⟩, hQ⟩
  refine ⟨rfl, ?_⟩
  simp only at h1 h2 h3 h4 h5 h6 hQ
  have fd : ∀ t, binD .FloorDiv (.int t) (.int b) = some (.val (.int (t / b))) := fun t => fdiv_small (by omega) (by omega)
  have md : ∀ t, binD .Mod (.int t) (.int b) = some (.val (.int (t % b))) := fun t => mod_int (by omega)
  cases w <;> simp [Wd.tri] at h3 h4
  · have e := mul_int (mulOk_l (i := m) (j := x) (by omega) (by omega))
    simp [b_worked_one, startE, N_worked_one, Wd.n, e, fd, md]
    simpa [wrk1] using hQ
  · have e := mul_int (mulOk_r (i := n) (j := b) (by omega) (by omega))
    have fx : ∀ t, binD .FloorDiv (.int t) (.int x) = some (.val (.int (t / x))) := fun t => fdiv_small (by omega) (by omega)
    have mx : ∀ t, binD .Mod (.int t) (.int x) = some (.val (.int (t % x))) := fun t => mod_int (by omega)
    simp [b_worked_one, startE, N_worked_one, Wd.n, e, fx, mx]
    simpa [wrk1] using hQ
  all_goals
    simp [b_worked_one, startE, N_worked_one, Wd.n, fd, md]
    simpa [wrk1] using hQ
theorem worked_one_go {M : MH} {X : PX} {P : PE_} {ρ : Env} {b m n : Int} {p : Pl} (h1 : 2 ≤ b) (h2 : b ≤ 10) (h3 : p.w = .times ∨ p.w = .part ∨ p.w.tri = false) (h4 : p.w.tri = true → 2 ≤ p.x ∧ p.x ≤ 9) (h5 : 0 ≤ m) (h6 : m < 10) :
    callS sp_worked_one [.int b, plD p, .int m, .int n] M X P ρ = P (.val (.tup [.int (wrk1 b p.w p.x m n).1, .int (wrk1 b p.w p.x m n).2])) ρ M :=
  callS_pur (b, p, m, n) rfl ⟨h1, h2, h3, h4, h5, h6⟩ (by
    rintro ⟨b', ⟨w, i, x⟩, m', n'⟩ h
    obtain ⟨w', i', x'⟩ := p
    simp at h
    obtain ⟨rfl, h, rfl, rfl⟩ := h
    obtain ⟨e1, e2, e3⟩ := plD_inj h
    simp only at e1 e2 e3
    subst e1
    cases w <;> simp [Wd.tri] at e3 <;> simp [wrk1, e3])
/-! worked_two(base, step, rod, note) -/
def N_worked_two : List Str := ["base", "step", "rod", "note", "mine", "other", "total"]
def b_worked_two : Ss := (.cons (.asgL [4, 5] (.cons (.idx (.var 2) (.idx (.var 1) (.cst (.int 1)))) (.cons (.idx (.var 2) (.idx (.var 1) (.cst (.int 2)))) .nil)))
    (.cons (.ife (.cmp .Eq (.idx (.var 1) (.cst (.int 0))) (.cst (.str (wS 0))))
    (.cons (.asg 6 (.bin .Add (.bin .Add (.var 4) (.var 5)) (.var 3)))
    (.cons (.ret (.tup (.cons (.bin .Mod (.var 6) (.var 0)) (.cons (.bin .FloorDiv (.var 6) (.var 0)) .nil))))
    .nil))
    .nil)
    (.cons (.ife (.cmp .Eq (.idx (.var 1) (.cst (.int 0))) (.cst (.str (wS 1))))
    (.cons (.asg 6 (.bin .Sub (.bin .Sub (.var 4) (.var 5)) (.var 3)))
    (.cons (.ret (.tup (.cons (.bin .Mod (.var 6) (.var 0)) (.cons (.bf .int (.cmp .Lt (.var 6) (.cst (.int 0)))) .nil))))
    .nil))
    .nil)
    (.cons (.ife (.cmp .Eq (.idx (.var 1) (.cst (.int 0))) (.cst (.str (wS 4))))
    (.cons (.ife (.bop .And (.cons (.cmp .Eq (.var 3) (.cst (.int 0))) (.cons (.cmp .NotEq (.var 4) (.var 5)) .nil)))
    (.cons (.asg 3 (.ite (.cmp .Gt (.var 4) (.var 5)) (.cst (.int 1)) (.cst (.int 2))))
    .nil)
    .nil)
    (.cons (.ret (.tup (.cons (.ite (.cmp .Eq (.var 3) (.cst (.int 2))) (.var 5) (.var 4)) (.cons (.var 3) .nil))))
    .nil))
    .nil)
    (.cons (.ret (.tup (.cons (.var 5) (.cons (.cst (.int 0)) .nil))))
    .nil)))))
def g_worked_two : Kn := kn [] [] []

def sp_worked_two : Spec := pur (fun (a : Int × Pl × List Int × Int) => [.int a.1, plD a.2.1, rodD a.2.2.1, .int a.2.2.2]) (fun a => 2 ≤ a.1 ∧ a.1 ≤ 10 ∧ (a.2.1.w = .add ∨ a.2.1.w = .less ∨ a.2.1.w = .greater ∨ a.2.1.w = .copy) ∧ 0 ≤ a.2.1.i ∧ a.2.1.i < a.2.2.1.length ∧ 0 ≤ a.2.1.x ∧ a.2.1.x < a.2.2.1.length)
  (fun a => .val (.tup [.int (wrk2 a.1 a.2.1.w (dg a.2.2.1 a.2.1.i) (dg a.2.2.1 a.2.1.x) a.2.2.2).1, .int (wrk2 a.1 a.2.1.w (dg a.2.2.1 a.2.1.i) (dg a.2.2.1 a.2.1.x) a.2.2.2).2]))
theorem k_worked_two : Keeps g_worked_two N_worked_two.length 4 b_worked_two sp_worked_two := by
  rintro ds M Q X ⟨⟨b, ⟨w, i, x⟩, r, n⟩, rfl, ⟨h1, h2, h3, h4, h5, h6, h7⟩, hQ⟩
  refine ⟨rfl, ?_⟩
  simp only at h1 h2 h3 h4 h5 h6 h7 hQ
  have fd : ∀ t, binD .FloorDiv (.int t) (.int b) = some (.val (.int (t / b))) := fun t => fdiv_small (by omega) (by omega)
  have md : ∀ t, binD .Mod (.int t) (.int b) = some (.val (.int (t % b))) := fun t => mod_int (by omega)
  have r1 : ∀ M : MH, idxD M (rodD r) (.int i) = some (.int (dg r i)) := fun M => idx_rod h4 h5
  have r2 : ∀ M : MH, idxD M (rodD r) (.int x) = some (.int (dg r x)) := fun M => idx_rod h6 h7
  generalize (dg r i) = m at *
  generalize (dg r x) = o at *
  cases w <;> simp at h3
  · simp [b_worked_two, startE, N_worked_two, Wd.n, fd, md, r1, r2]
    simpa [wrk2] using hQ
  · simp [b_worked_two, startE, N_worked_two, Wd.n, fd, md, r1, r2]
    simpa [wrk2] using hQ
  · simp [b_worked_two, startE, N_worked_two, Wd.n, fd, md, r1, r2]
    simp only [wrk2] at hQ
    by_cases c1 : n = 0
    · subst c1
      by_cases c2 : m = o
      · simp [c2] at hQ ⊢; exact hQ
      · by_cases c3 : o < m
        · simp [c2, c3] at hQ ⊢; exact hQ
        · simp [c2, c3] at hQ ⊢; exact hQ
    · by_cases c4 : n = 2
      · subst c4
        simp at hQ ⊢; exact hQ
      · simp [c1, c4] at hQ ⊢; exact hQ
  · simp [b_worked_two, startE, N_worked_two, Wd.n, fd, md, r1, r2]
    simpa [wrk2] using hQ
theorem wrk2_inj {b : Int} {p p' : Pl} {r : List Int} {n : Int} (h : plD p' = plD p) : wrk2 b p'.w (dg r p'.i) (dg r p'.x) n = wrk2 b p.w (dg r p.i) (dg r p.x) n ∨ p.w.tri = false := by
  obtain ⟨e1, e2, e3⟩ := plD_inj h
  cases ht : p.w.tri with
  | false => exact .inr rfl
  | true => rw [e1, e2, e3 (e1 ▸ ht)]; exact .inl rfl
theorem worked_two_go {M : MH} {X : PX} {P : PE_} {ρ : Env} {b n : Int} {p : Pl} {r : List Int} (h1 : 2 ≤ b) (h2 : b ≤ 10) (h3 : p.w = .add ∨ p.w = .less ∨ p.w = .greater ∨ p.w = .copy) (h4 : 0 ≤ p.i) (h5 : p.i < r.length) (h6 : 0 ≤ p.x) (h7 : p.x < r.length) :
    callS sp_worked_two [.int b, plD p, rodD r, .int n] M X P ρ = P (.val (.tup [.int (wrk2 b p.w (dg r p.i) (dg r p.x) n).1, .int (wrk2 b p.w (dg r p.i) (dg r p.x) n).2])) ρ M :=
  callS_pur (b, p, r, n) rfl ⟨h1, h2, h3, h4, h5, h6, h7⟩ (by
    rintro ⟨b', p', r', n'⟩ h
    simp at h
    obtain ⟨rfl, h, g, rfl⟩ := h
    obtain rfl := rodD_inj g
    have := wrk2_inj (b := b') (r := r') (n := n') h
    rcases this with e | e
    · simp only [e]
    · rcases h3 with z | z | z | z <;> rw [z] at e <;> cases e)
/-! worked(kind, step, rod, note) -/
def N_worked : List Str := ["kind", "step", "rod", "note", "digit", "later"]
def b_worked : Ss := (.cons (.ife (.bop .Or (.cons (.cmp .In (.idx (.var 1) (.cst (.int 0))) (.tup (.cons (.cst (.str (wS 2))) (.cons (.cst (.str (wS 3))) .nil)))) (.cons (.cmp .Eq (.bf .len (.var 1)) (.cst (.int 2))) .nil)))
    (.cons (.asgU [4, 5] (.call "worked_one" (.cons (.idx (.var 0) (.cst (.int 0))) (.cons (.var 1) (.cons (.idx (.var 2) (.idx (.var 1) (.cst (.int 1)))) (.cons (.var 3) .nil))))))
    (.cons (.ret (.tup (.cons (.call "with_digit" (.cons (.var 2) (.cons (.idx (.var 1) (.cst (.int 1))) (.cons (.var 4) .nil)))) (.cons (.var 5) .nil))))
    .nil))
    .nil)
    (.cons (.ife (.cmp .Eq (.idx (.var 1) (.cst (.int 0))) (.cst (.str (wS 6))))
    (.cons (.ret (.tup (.cons (.call "with_digit" (.cons (.call "with_digit" (.cons (.var 2) (.cons (.idx (.var 1) (.cst (.int 1))) (.cons (.idx (.var 2) (.idx (.var 1) (.cst (.int 2)))) .nil)))) (.cons (.idx (.var 1) (.cst (.int 2))) (.cons (.idx (.var 2) (.idx (.var 1) (.cst (.int 1)))) .nil)))) (.cons (.cst (.int 0)) .nil))))
    .nil)
    .nil)
    (.cons (.asgU [4, 5] (.call "worked_two" (.cons (.idx (.var 0) (.cst (.int 0))) (.cons (.var 1) (.cons (.var 2) (.cons (.var 3) .nil))))))
    (.cons (.ret (.tup (.cons (.call "with_digit" (.cons (.var 2) (.cons (.idx (.var 1) (.cst (.int 1))) (.cons (.var 4) .nil)))) (.cons (.var 5) .nil))))
    .nil))))
def g_worked : Kn := kn [("with_digit", sp_with_digit), ("worked_two", sp_worked_two), ("worked_one", sp_worked_one)] [] []
@[simp ↓] theorem g_worked_with_digit : g_worked.fn "with_digit" = some sp_with_digit := by kernel_rfl
@[simp ↓] theorem g_worked_worked_two : g_worked.fn "worked_two" = some sp_worked_two := by kernel_rfl
@[simp ↓] theorem g_worked_worked_one : g_worked.fn "worked_one" = some sp_worked_one := by kernel_rfl

def sp_worked : Spec := pur (fun (a : Kd × Pl × List Int × Int) => [kD a.1, plD a.2.1, rodD a.2.2.1, .int a.2.2.2]) (fun a => OkK a.1 ∧ OkPl a.1 a.2.1 ∧ OkR a.1 a.2.2.1)
  (fun a => .val (.tup [rodD (wrk a.1 a.2.1 a.2.2.1 a.2.2.2).1, .int (wrk a.1 a.2.1 a.2.2.1 a.2.2.2).2]))
theorem getD_bd {k : Kd} {r : List Int} (h : OkR k r) {i : Int} (h0 : 0 ≤ i) (h1 : i < k.d) : 0 ≤ (dg r i) ∧ (dg r i) < k.b := by
  have hi : i.toNat < r.length := by have := h.1; omega
  unfold dg
  rw [List.getD_eq_getElem?_getD, List.getElem?_eq_getElem hi]
  exact h.2 _ (List.getElem_mem hi)
theorem k_worked : Keeps g_worked N_worked.length 4 b_worked sp_worked := by
  rintro ds M Q X ⟨⟨k, p, r, n⟩, rfl, ⟨hk, hp, hr⟩, hQ⟩
  refine ⟨rfl, ?_⟩
  simp only at hk hp hr hQ
  obtain ⟨h1, h2, h3⟩ := id hp
  have hl := hr.1
  have hd := hk.d2
  have b1 := hk.b1
  have b2 := hk.b2
  have hi : p.i < r.length := by omega
  have m1 := getD_bd hr h1 h2
  have r1 : ∀ M : MH, idxD M (rodD r) (.int p.i) = some (.int (dg r p.i)) := fun M => idx_rod h1 hi
  have wd : ∀ (v : Int) (M : MH) (P : PE_) ρ, callS sp_with_digit [rodD r, .int p.i, .int v] M X P ρ = P (.val (rodD (r.set p.i.toNat v))) ρ M := fun v M P ρ => with_digit_go h1 hi (by omega)
  have wo : (p.w = .times ∨ p.w = .part ∨ p.w.tri = false) → ∀ (M : MH) (P : PE_) ρ, callS sp_worked_one [.int k.b, plD p, .int (dg r p.i), .int n] M X P ρ = P (.val (.tup [.int (wrk1 k.b p.w p.x (dg r p.i) n).1, .int (wrk1 k.b p.w p.x (dg r p.i) n).2])) ρ M := by
    intro hone M P ρ
    have hx : p.w.tri = true → 2 ≤ p.x ∧ p.x ≤ 9 := by
      intro ht
      rcases hone with z | z | z
      · rw [z] at h3; exact h3
      · rw [z] at h3; exact h3
      · rw [z] at ht; cases ht
    exact worked_one_go b1 b2 hone hx m1.1 (by omega)
  have hx2 : (p.w = .add ∨ p.w = .less ∨ p.w = .greater ∨ p.w = .copy ∨ p.w = .swap) → 0 ≤ p.x ∧ p.x < r.length := by
    intro hw
    have : 0 ≤ p.x ∧ p.x < k.d := by rcases hw with z | z | z | z | z <;> rw [z] at h3 <;> exact h3
    omega
  have wt : (p.w = .add ∨ p.w = .less ∨ p.w = .greater ∨ p.w = .copy) → ∀ (M : MH) (P : PE_) ρ, callS sp_worked_two [.int k.b, plD p, rodD r, .int n] M X P ρ = P (.val (.tup [.int (wrk2 k.b p.w (dg r p.i) (dg r p.x) n).1, .int (wrk2 k.b p.w (dg r p.i) (dg r p.x) n).2])) ρ M := by
    intro hw M P ρ
    have := hx2 (by rcases hw with z | z | z | z <;> simp [z])
    exact worked_two_go b1 b2 hw h1 hi this.1 this.2
  have r2 : p.w = .swap → ∀ M : MH, idxD M (rodD r) (.int p.x) = some (.int (dg r p.x)) := fun hw M => idx_rod (hx2 (by simp [hw])).1 (hx2 (by simp [hw])).2
  have wd2 : p.w = .swap → ∀ (v u : Int) (M : MH) (P : PE_) ρ, callS sp_with_digit [rodD (r.set p.i.toNat u), .int p.x, .int v] M X P ρ = P (.val (rodD ((r.set p.i.toNat u).set p.x.toNat v))) ρ M := by
    intro hw v u M P ρ
    have := hx2 (by simp [hw])
    exact with_digit_go this.1 (by simp; exact this.2) (by simp; omega)
  clear h3 hp
  obtain ⟨w, i, x⟩ := p
  simp only at wo wt r1 wd r2 wd2 hQ
  cases w
  all_goals first
    | (have wo' := wo (by simp [Wd.tri]); clear wo wt
       simp [b_worked, startE, N_worked, Wd.n, Wd.tri, r1, wo', tgtF, wd]
       simpa [wrk, Wd.tri] using hQ)
    | (have wt' := wt (by simp); clear wo wt
       simp [b_worked, startE, N_worked, Wd.n, Wd.tri, r1, wt', tgtF, wd]
       simpa [wrk, Wd.tri] using hQ)
    | (have r2' := r2 rfl
       have wd2' := wd2 rfl
       clear wo wt
       simp [b_worked, startE, N_worked, Wd.n, Wd.tri, r1, r2', tgtF, wd, wd2']
       simpa [wrk, Wd.tri] using hQ)
theorem wrk_inj {k : Kd} {p p' : Pl} {r : List Int} {n : Int} (h : plD p' = plD p) : wrk k p' r n = wrk k p r n := by
  obtain ⟨e1, e2, e3⟩ := plD_inj h
  obtain ⟨w, i, x⟩ := p
  obtain ⟨w', i', x'⟩ := p'
  simp only at e1 e2 e3
  subst e1 e2
  cases w' <;> simp [Wd.tri] at e3 <;> simp [wrk, wrk1, Wd.tri, e3]
@[simp ↓, simp] theorem worked_go {M : MH} {X : PX} {P : PE_} {ρ : Env} {k : Kd} {p : Pl} {r : List Int} {n : Int} (hk : OkK k) (hp : OkPl k p) (hr : OkR k r) : callS sp_worked [kD k, plD p, rodD r, .int n] M X P ρ = P (.val (.tup [rodD (wrk k p r n).1, .int (wrk k p r n).2])) ρ M :=
  callS_pur (k, p, r, n) rfl ⟨hk, hp, hr⟩ (by
    rintro ⟨k', p', r', n'⟩ h
    simp at h
    obtain ⟨g1, g2, g3, rfl⟩ := h
    obtain rfl := kD_eq g1
    obtain rfl := rodD_inj g3
    simp only [wrk_inj g2])
end Mi

set_option maxHeartbeats 1000000
/-! C2: walks over frames -/
namespace Mi
open PySem PySem.Spec PyProof.Rows L2
theorem set_ok {k : Kd} {r : List Int} (hr : OkR k r) {i v : Int} (h0 : 0 ≤ v) (h1 : v < k.b) : OkR k (r.set i.toNat v) := by
  refine ⟨by simp; exact hr.1, fun x hx => ?_⟩
  rcases List.mem_or_eq_of_mem_set hx with h | h
  · exact hr.2 x h
  · subst h; exact ⟨h0, h1⟩
theorem div_lt {t b x : Int} (hb : 0 < b) (h : t < b * x) : t / b < x := Int.ediv_lt_of_lt_mul hb (by rw [Int.mul_comm]; exact h)
theorem wrk_ok {k : Kd} {p : Pl} {r : List Int} {n : Int} (hk : OkK k) (hp : OkPl k p) (hr : OkR k r) (h0 : 0 ≤ n) (h1 : n < width k p) : OkR k (wrk k p r n).1 ∧ 0 ≤ (wrk k p r n).2 ∧ (wrk k p r n).2 < width k p := by
  obtain ⟨g1, g2, g3⟩ := id hp
  have b1 := hk.b1
  have m := getD_bd hr g1 g2
  have hb : (0 : Int) < k.b := by omega
  have md : ∀ t : Int, 0 ≤ t % k.b ∧ t % k.b < k.b := fun t => ⟨Int.emod_nonneg _ (by omega), Int.emod_lt_of_pos _ hb⟩
  obtain ⟨w, i, x⟩ := p
  simp only at g1 g2 g3 m
  cases w <;> simp only [width] at h1 ⊢ <;> simp [wrk, wrk1, wrk2, Wd.tri] at g3 ⊢
  · have o := getD_bd hr g3.1 g3.2
    exact ⟨set_ok hr (md _).1 (md _).2, Int.ediv_nonneg (by omega) (by omega), div_lt hb (by omega)⟩
  · have o := getD_bd hr g3.1 g3.2
    exact ⟨set_ok hr (md _).1 (md _).2, by split <;> omega, by split <;> omega⟩
  · have e : dg r i * x ≤ (k.b - 1) * x := Int.mul_le_mul_of_nonneg_right (by omega) (by omega)
    have e0 : 0 ≤ dg r i * x := Int.mul_nonneg m.1 (by omega)
    rw [Int.sub_mul, Int.one_mul] at e
    exact ⟨set_ok hr (md _).1 (md _).2, Int.ediv_nonneg (by omega) (by omega), div_lt hb (by omega)⟩
  · have e : n * k.b ≤ (x - 1) * k.b := Int.mul_le_mul_of_nonneg_right (by omega) (by omega)
    have e0 : 0 ≤ n * k.b := Int.mul_nonneg h0 (by omega)
    rw [Int.sub_mul, Int.one_mul] at e
    exact ⟨set_ok hr (Int.ediv_nonneg (by omega) (by omega)) (div_lt (by omega) (by omega)), Int.emod_nonneg _ (by omega), Int.emod_lt_of_pos _ (by omega)⟩
  · have o := getD_bd hr g3.1 g3.2
    refine ⟨set_ok hr ?_ ?_, ?_, ?_⟩ <;> repeat' split
    all_goals omega
  · have o := getD_bd hr g3.1 g3.2
    exact set_ok hr o.1 o.2
  · have o := getD_bd hr g3.1 g3.2
    exact set_ok (set_ok hr o.1 o.2) m.1 m.2
  · exact ⟨set_ok hr (md _).1 (md _).2, Int.ediv_nonneg (by omega) (by omega), div_lt hb (by omega)⟩
  · exact set_ok hr (by omega) (by omega)
  · exact ⟨set_ok hr h0 h1, m.1, m.2⟩
  · exact ⟨set_ok hr h0 h1, m.1, m.2⟩
def goR (k : Kd) (p : Pl) : List (List Int) → Int → List (List Int) × Int
  | [], n => ([], n)
  | r :: rs, n => ((wrk k p r n).1 :: (goR k p rs (wrk k p r n).2).1, (goR k p rs (wrk k p r n).2).2)
theorem goR_len {k : Kd} {p : Pl} : ∀ (f : List (List Int)) (n : Int), (goR k p f n).1.length = f.length
  | [], n => rfl
  | r :: rs, n => by simp [goR, goR_len rs]
theorem goR_snoc {k : Kd} {p : Pl} : ∀ (f : List (List Int)) (r : List Int) (n : Int), goR k p (f ++ [r]) n = ((goR k p f n).1 ++ [(wrk k p r (goR k p f n).2).1], (wrk k p r (goR k p f n).2).2)
  | [], r, n => rfl
  | s :: f, r, n => by simp [goR, goR_snoc f]
theorem goR_app {k : Kd} {p : Pl} : ∀ (f g : List (List Int)) (n : Int), goR k p (f ++ g) n = ((goR k p f n).1 ++ (goR k p g (goR k p f n).2).1, (goR k p g (goR k p f n).2).2)
  | [], g, n => rfl
  | s :: f, g, n => by simp [goR, goR_app f]
theorem goR_ok {k : Kd} {p : Pl} (hk : OkK k) (hp : OkPl k p) : ∀ (f : List (List Int)) (n : Int), OkF k f → 0 ≤ n → n < width k p → OkF k (goR k p f n).1 ∧ 0 ≤ (goR k p f n).2 ∧ (goR k p f n).2 < width k p
  | [], n, _, h0, h1 => ⟨fun r hr => by simp [goR] at hr, h0, h1⟩
  | r :: rs, n, hf, h0, h1 => by
    obtain ⟨a1, a2, a3⟩ := wrk_ok hk hp (hf r (by simp)) h0 h1
    obtain ⟨c1, c2, c3⟩ := goR_ok hk hp rs (wrk k p r n).2 (fun r hr => hf r (by simp [hr])) a2 a3
    refine ⟨fun s hs => ?_, c2, c3⟩
    simp only [goR, List.mem_cons] at hs
    rcases hs with rfl | hs
    · exact a1
    · exact c1 s hs
def walk (k : Kd) (p : Pl) (f : List (List Int)) : List (List Int) × Int := match fromLeft p with
  | true => goR k p f (firstNote p)
  | false => ((goR k p f.reverse (firstNote p)).1.reverse, (goR k p f.reverse (firstNote p)).2)
theorem first_ok {k : Kd} {p : Pl} (hk : OkK k) (hp : OkPl k p) : 0 ≤ firstNote p ∧ firstNote p < width k p := by
  have := width_bd hk hp
  obtain ⟨w, i, x⟩ := p
  have b1 := hk.b1
  cases w <;> simp [firstNote, width] at this ⊢ <;> omega
theorem walk_ok {k : Kd} {p : Pl} {f : List (List Int)} (hk : OkK k) (hp : OkPl k p) (hf : OkF k f) : OkF k (walk k p f).1 ∧ (walk k p f).1.length = f.length ∧ 0 ≤ (walk k p f).2 ∧ (walk k p f).2 < width k p := by
  obtain ⟨n0, n1⟩ := first_ok hk hp
  unfold walk
  cases fromLeft p with
  | true =>
    obtain ⟨a, b, c⟩ := goR_ok hk hp f _ hf n0 n1
    exact ⟨a, goR_len _ _, b, c⟩
  | false =>
    obtain ⟨a, b, c⟩ := goR_ok hk hp f.reverse _ (fun r hr => hf r (by simpa using hr)) n0 n1
    exact ⟨fun r hr => a r (by simpa using hr), by simp [goR_len], b, c⟩
/-! walked(kind, step, frame) -/
def N_walked : List Str := ["kind", "step", "frame", "note", "found", "rod", "new"]
def b_walked : Ss := (.cons (.asgL [3, 4] (.cons (.call "first_note" (.cons (.var 1) .nil)) (.cons (.lst .nil) .nil)))
    (.cons (.for_ (.var 5) (.seq (.ite (.call "is_from_left" (.cons (.var 1) .nil)) (.var 2) (.rev (.var 2))))
    (.cons (.asgU [6, 3] (.call "worked" (.cons (.var 0) (.cons (.var 1) (.cons (.var 5) (.cons (.var 3) .nil))))))
    (.cons (.app 4 (.var 6))
    .nil)))
    (.cons (.ret (.tup (.cons (.bf .tuple (.ite (.call "is_from_left" (.cons (.var 1) .nil)) (.var 4) (.rev (.var 4)))) (.cons (.var 3) .nil))))
    .nil)))
def g_walked : Kn := kn [("is_from_left", sp_is_from_left), ("worked", sp_worked), ("first_note", sp_first_note)] [] []
@[simp ↓] theorem g_walked_is_from_left : g_walked.fn "is_from_left" = some sp_is_from_left := by kernel_rfl
@[simp ↓] theorem g_walked_worked : g_walked.fn "worked" = some sp_worked := by kernel_rfl
@[simp ↓] theorem g_walked_first_note : g_walked.fn "first_note" = some sp_first_note := by kernel_rfl

def sp_walked : Spec := pur (fun (a : Kd × Pl × List (List Int)) => [kD a.1, plD a.2.1, frD a.2.2]) (fun a => OkK a.1 ∧ OkPl a.1 a.2.1 ∧ OkF a.1 a.2.2 ∧ a.2.2.length ≤ 1000)
  (fun a => .val (.tup [frD (walk a.1 a.2.1 a.2.2).1, .int (walk a.1 a.2.1 a.2.2).2]))
theorem k_walked : Keeps g_walked N_walked.length 3 b_walked sp_walked := by
  rintro ds M Q X ⟨⟨k, p, f⟩, rfl, ⟨hk, hp, hf, hl⟩, hQ⟩
  refine ⟨rfl, ?_⟩
  simp only at hk hp hf hl hQ
  have key : ∀ g : List (List Int), OkF k g → g.length ≤ 1000 → (∀ x y, wpSs g_walked X (.cons (.ret (.tup (.cons (.bf .tuple (.ite (.call "is_from_left" (.cons (.var 1) .nil)) (.var 4) (.rev (.var 4)))) (.cons (.var 3) .nil)))) .nil)
      [.val (kD k), .val (plD p), .val (frD f), .val (.int (goR k p g (firstNote p)).2), .own (.lst ((goR k p g (firstNote p)).1.map rodD)), x, y] M { nx := fun _ M' => Q (.val .non) M', rt := Q }) →
      forS g_walked X (.var 5) (.cons (.asgU [6, 3] (.call "worked" (.cons (.var 0) (.cons (.var 1) (.cons (.var 5) (.cons (.var 3) .nil)))))) (.cons (.app 4 (.var 6)) .nil)) (g.map rodD)
        [.val (kD k), .val (plD p), .val (frD f), .val (.int (firstNote p)), .own (.lst []), .no, .no] M
        (nxD g_walked X (.cons (.ret (.tup (.cons (.bf .tuple (.ite (.call "is_from_left" (.cons (.var 1) .nil)) (.var 4) (.rev (.var 4)))) (.cons (.var 3) .nil)))) .nil) { nx := fun _ M' => Q (.val .non) M', rt := Q }) := by
    intro g hg hgl fin
    refine forS_inv (fun ds ρ M' => M' = M ∧ ∃ (done rest : List (List Int)) (x y : Sl), g = done ++ rest ∧ ds = rest.map rodD ∧ ρ = [.val (kD k), .val (plD p), .val (frD f), .val (.int (goR k p done (firstNote p)).2), .own (.lst ((goR k p done (firstNote p)).1.map rodD)), x, y]) ⟨rfl, [], g, .no, .no, rfl, rfl, rfl⟩ ?_ ?_
    · rintro ρ M' ⟨rfl, done, rest, x, y, rfl, h2, rfl⟩
      obtain rfl : rest = [] := by simpa using h2.symm
      simp only [List.append_nil] at fin
      exact fin x y
    · rintro d ds ρ M' ⟨rfl, done, rest, x, y, e1, h2, rfl⟩
      cases rest with
      | nil => simp at h2
      | cons r rest =>
        simp at h2
        obtain ⟨rfl, rfl⟩ := h2
        have hdl : done.length ≤ 1000 := by have := congrArg List.length e1; simp at this; omega
        have lt : ((goR k p done (firstNote p)).1.map rodD).length < sizeLine := by simp [goR_len, sizeLine_eq]; omega
        simp [hk, hp, hg r (by rw [e1]; simp), tgtF, hasL, appAt]
        have lt2 : (goR k p done (firstNote p)).1.length < sizeLine := by simpa using lt
        rw [if_pos lt2]
        simp
        exact ⟨done ++ [r], rest, by simp [e1], rfl, by simp [goR_snoc]⟩
  have s1 : seqD (frD f) = some (f.map rodD) := rfl
  have s2 : revD (frD f) = some (.val (.tup (f.reverse.map rodD))) := by simp [frD]
  simp [b_walked, startE, N_walked, s1, s2]
  cases hp2 : fromLeft p with
  | true =>
    simp [s1]
    refine key f hf hl fun x y => ?_
    simp [hp2, peek, slD]
    simpa [walk, hp2, frD] using hQ
  | false =>
    simp [s2]
    rw [← List.map_reverse]
    refine key f.reverse (fun r hr => hf r (by simpa using hr)) (by simpa using hl) fun x y => ?_
    simp [hp2, peek, slD]
    simpa [walk, hp2, frD] using hQ
theorem goR_inj {k : Kd} {p p' : Pl} (h : plD p' = plD p) : ∀ (f : List (List Int)) (n : Int), goR k p' f n = goR k p f n
  | [], _ => rfl
  | r :: rs, n => by simp only [goR, wrk_inj h, goR_inj h rs]
theorem walk_inj {k : Kd} {p p' : Pl} {f : List (List Int)} (h : plD p' = plD p) : walk k p' f = walk k p f := by
  obtain ⟨e1, _, _⟩ := plD_inj h
  have e2 : fromLeft p' = fromLeft p := by unfold fromLeft; rw [e1]
  have e3 : firstNote p' = firstNote p := by unfold firstNote; rw [e1]
  unfold walk
  rw [e2, e3]
  simp only [goR_inj h]
@[simp ↓, simp] theorem walked_go {M : MH} {X : PX} {P : PE_} {ρ : Env} {k : Kd} {p : Pl} {f : List (List Int)} (hk : OkK k) (hp : OkPl k p) (hf : OkF k f) (hl : f.length ≤ 1000) : callS sp_walked [kD k, plD p, frD f] M X P ρ = P (.val (.tup [frD (walk k p f).1, .int (walk k p f).2])) ρ M :=
  callS_pur (k, p, f) rfl ⟨hk, hp, hf, hl⟩ (by
    rintro ⟨k', p', f'⟩ h
    simp at h
    obtain ⟨g1, g2, g3⟩ := h
    obtain rfl := kD_eq g1
    obtain rfl := frD_inj g3
    simp only [walk_inj g2])
/-! all_walked(kind, text, frame) -/
def N_all_walked : List Str := ["kind", "text", "frame", "found", "step", "note"]
def b_all_walked : Ss := (.cons (.asg 3 (.lst .nil))
    (.cons (.for_ (.var 4) (.seq (.call "walks_of" (.cons (.var 1) .nil)))
    (.cons (.asgU [2, 5] (.call "walked" (.cons (.var 0) (.cons (.var 4) (.cons (.var 2) .nil)))))
    (.cons (.app 3 (.tup (.cons (.var 2) (.cons (.var 5) .nil))))
    .nil)))
    (.cons (.ret (.var 3))
    .nil)))
def g_all_walked : Kn := kn [("walks_of", sp_walks_of), ("walked", sp_walked)] [] []
@[simp ↓] theorem g_all_walked_walks_of : g_all_walked.fn "walks_of" = some sp_walks_of := by kernel_rfl
@[simp ↓] theorem g_all_walked_walked : g_all_walked.fn "walked" = some sp_walked := by kernel_rfl

def walkAll (k : Kd) : List Pl → List (List Int) → List (List (List Int) × Int)
  | [], _ => []
  | p :: ps, f => walk k p f :: walkAll k ps (walk k p f).1
def leftBy (k : Kd) : List Pl → List (List Int) → List (List Int)
  | [], f => f
  | p :: ps, f => leftBy k ps (walk k p f).1
theorem leftBy_snoc {k : Kd} : ∀ (ps : List Pl) (p : Pl) (f : List (List Int)), leftBy k (ps ++ [p]) f = (walk k p (leftBy k ps f)).1
  | [], p, f => rfl
  | q :: ps, p, f => by simp [leftBy, leftBy_snoc ps]
theorem walkAll_snoc {k : Kd} : ∀ (ps : List Pl) (p : Pl) (f : List (List Int)), walkAll k (ps ++ [p]) f = walkAll k ps f ++ [walk k p (leftBy k ps f)]
  | [], p, f => rfl
  | q :: ps, p, f => by simp [walkAll, leftBy, walkAll_snoc ps]
theorem walkAll_len {k : Kd} : ∀ (ps : List Pl) (f : List (List Int)), (walkAll k ps f).length = ps.length
  | [], _ => rfl
  | p :: ps, f => by simp [walkAll, walkAll_len ps]
theorem leftBy_ok {k : Kd} (hk : OkK k) : ∀ (ps : List Pl) (f : List (List Int)), (∀ p ∈ ps, OkPl k p) → OkF k f → OkF k (leftBy k ps f) ∧ (leftBy k ps f).length = f.length
  | [], f, _, hf => ⟨hf, rfl⟩
  | p :: ps, f, hp, hf => by
    obtain ⟨a, b, _⟩ := walk_ok hk (hp p (by simp)) hf
    obtain ⟨c, d⟩ := leftBy_ok hk ps (walk k p f).1 (fun q hq => hp q (by simp [hq])) a
    exact ⟨c, d.trans b⟩
def pairD (w : List (List Int) × Int) : Dat := .tup [frD w.1, .int w.2]
def sp_all_walked : Spec := pur (fun (a : Kd × List St' × List (List Int)) => [kD a.1, txD a.2.1, frD a.2.2]) (fun a => OkK a.1 ∧ OkT a.1 a.2.1 ∧ a.2.1.length ≤ 1000 ∧ OkF a.1 a.2.2 ∧ a.2.2.length ≤ 1000)
  (fun a => .own (.lst ((walkAll a.1 (walksOf a.2.1) a.2.2).map pairD)))
theorem k_all_walked : Keeps g_all_walked N_all_walked.length 3 b_all_walked sp_all_walked := by
  rintro ds M Q X ⟨⟨k, t, f⟩, rfl, ⟨hk, ht, htl, hf, hl⟩, hQ⟩
  refine ⟨rfl, ?_⟩
  simp only at hk ht htl hf hl hQ
  have hz := okT_sz ht htl
  have hwl := walksOf_len hz.2
  simp [b_all_walked, startE, N_all_walked, hz]
  refine forS_inv (fun ds ρ M' => M' = M ∧ ∃ (done rest : List Pl) (x y : Sl), walksOf t = done ++ rest ∧ ds = rest.map plD ∧ ρ = [.val (kD k), .val (txD t), .val (frD (leftBy k done f)), .own (.lst ((walkAll k done f).map pairD)), x, y]) ⟨rfl, [], walksOf t, .no, .no, rfl, rfl, rfl⟩ ?_ ?_
  · rintro ρ M' ⟨rfl, done, rest, x, y, e1, h2, rfl⟩
    obtain rfl : rest = [] := by simpa using h2.symm
    simp at e1
    rw [e1] at hQ
    simp [takeR]
    exact hQ
  · rintro d ds ρ M' ⟨rfl, done, rest, x, y, e1, h2, rfl⟩
    cases rest with
    | nil => simp at h2
    | cons p rest =>
      simp at h2
      obtain ⟨rfl, rfl⟩ := h2
      have hp := ht.wk p (by rw [e1]; simp)
      obtain ⟨l1, l2⟩ := leftBy_ok hk done f (fun q hq => ht.wk q (by rw [e1]; simp [hq])) hf
      have lt : (walkAll k done f).length < sizeLine := by rw [walkAll_len, sizeLine_eq]; have := congrArg List.length e1; simp at this; omega
      have l3 : (leftBy k done f).length ≤ 1000 := by omega
      simp [hk, hp, l1, l3, tgtF, hasL, appAt, lt]
      exact ⟨done ++ [p], rest, by simp [e1], rfl, by simp [leftBy_snoc], by simp [walkAll_snoc, pairD]⟩
theorem walkAll_inj {k : Kd} : ∀ {ps qs : List Pl} (f : List (List Int)), qs.map plD = ps.map plD → walkAll k qs f = walkAll k ps f ∧ leftBy k qs f = leftBy k ps f
  | [], [], _, _ => ⟨rfl, rfl⟩
  | [], _ :: _, _, h => by simp at h
  | _ :: _, [], _, h => by simp at h
  | p :: ps, q :: qs, f, h => by
    simp at h
    obtain ⟨a, b⟩ := walkAll_inj (k := k) (ps := ps) (qs := qs) (walk k p f).1 h.2
    simp only [walkAll, leftBy, walk_inj h.1, a, b, and_self]
@[simp ↓, simp] theorem all_walked_go {M : MH} {X : PX} {P : PE_} {ρ : Env} {k : Kd} {t : List St'} {f : List (List Int)} (hk : OkK k) (ht : OkT k t) (htl : t.length ≤ 1000) (hf : OkF k f) (hl : f.length ≤ 1000) :
    callS sp_all_walked [kD k, txD t, frD f] M X P ρ = P (.own (.lst ((walkAll k (walksOf t) f).map pairD))) ρ M :=
  callS_pur (k, t, f) rfl ⟨hk, ht, htl, hf, hl⟩ (by
    rintro ⟨k', t', f'⟩ h
    simp at h
    obtain ⟨g1, g2, g3⟩ := h
    obtain rfl := kD_eq g1
    obtain rfl := frD_inj g3
    simp only [(walkAll_inj f' (txD_inj' g2)).1])
/-! left_by(kind, text, frame) -/
def N_left_by : List Str := ["kind", "text", "frame", "step"]
def b_left_by : Ss := (.cons (.for_ (.var 3) (.seq (.call "walks_of" (.cons (.var 1) .nil)))
    (.cons (.asg 2 (.idx (.call "walked" (.cons (.var 0) (.cons (.var 3) (.cons (.var 2) .nil)))) (.cst (.int 0))))
    .nil))
    (.cons (.ret (.var 2))
    .nil))
def g_left_by : Kn := kn [("walks_of", sp_walks_of), ("walked", sp_walked)] [] []
@[simp ↓] theorem g_left_by_walks_of : g_left_by.fn "walks_of" = some sp_walks_of := by kernel_rfl
@[simp ↓] theorem g_left_by_walked : g_left_by.fn "walked" = some sp_walked := by kernel_rfl

def sp_left_by : Spec := pur (fun (a : Kd × List St' × List (List Int)) => [kD a.1, txD a.2.1, frD a.2.2]) (fun a => OkK a.1 ∧ OkT a.1 a.2.1 ∧ a.2.1.length ≤ 1000 ∧ OkF a.1 a.2.2 ∧ a.2.2.length ≤ 1000)
  (fun a => .val (frD (leftBy a.1 (walksOf a.2.1) a.2.2)))
theorem k_left_by : Keeps g_left_by N_left_by.length 3 b_left_by sp_left_by := by
  rintro ds M Q X ⟨⟨k, t, f⟩, rfl, ⟨hk, ht, htl, hf, hl⟩, hQ⟩
  refine ⟨rfl, ?_⟩
  simp only at hk ht htl hf hl hQ
  have hz := okT_sz ht htl
  simp [b_left_by, startE, N_left_by, hz]
  refine forS_inv (fun ds ρ M' => M' = M ∧ ∃ (done rest : List Pl) (x : Sl), walksOf t = done ++ rest ∧ ds = rest.map plD ∧ ρ = [.val (kD k), .val (txD t), .val (frD (leftBy k done f)), x]) ⟨rfl, [], walksOf t, .no, rfl, rfl, rfl⟩ ?_ ?_
  · rintro ρ M' ⟨rfl, done, rest, x, e1, h2, rfl⟩
    obtain rfl : rest = [] := by simpa using h2.symm
    simp at e1
    rw [e1] at hQ
    simpa using hQ
  · rintro d ds ρ M' ⟨rfl, done, rest, x, e1, h2, rfl⟩
    cases rest with
    | nil => simp at h2
    | cons p rest =>
      simp at h2
      obtain ⟨rfl, rfl⟩ := h2
      have hp := ht.wk p (by rw [e1]; simp)
      obtain ⟨l1, l2⟩ := leftBy_ok hk done f (fun q hq => ht.wk q (by rw [e1]; simp [hq])) hf
      have l3 : (leftBy k done f).length ≤ 1000 := by omega
      simp [hk, hp, l1, l3]
      exact ⟨done ++ [p], rest, by simp [e1], rfl, by simp [leftBy_snoc]⟩
@[simp ↓, simp] theorem left_by_go {M : MH} {X : PX} {P : PE_} {ρ : Env} {k : Kd} {t : List St'} {f : List (List Int)} (hk : OkK k) (ht : OkT k t) (htl : t.length ≤ 1000) (hf : OkF k f) (hl : f.length ≤ 1000) :
    callS sp_left_by [kD k, txD t, frD f] M X P ρ = P (.val (frD (leftBy k (walksOf t) f))) ρ M :=
  callS_pur (k, t, f) rfl ⟨hk, ht, htl, hf, hl⟩ (by
    rintro ⟨k', t', f'⟩ h
    simp at h
    obtain ⟨g1, g2, g3⟩ := h
    obtain rfl := kD_eq g1
    obtain rfl := frD_inj g3
    simp only [(walkAll_inj f' (txD_inj' g2)).2])
end Mi

set_option maxHeartbeats 1000000
/-! C3: run, stages, notes, of all values. -/
namespace Mi
open PySem PySem.Spec PyProof.Rows L2
/-- a kind, a text, a frame that are in order -/
structure Ok3 (k : Kd) (t : List St') (f : List (List Int)) : Prop where
  hk : OkK k
  ht : OkT k t
  hx : isText k t = true
  hf : OkF k f
  hl : f.length ≤ 60
def exT : Bool → Bool → Rv → Except Exc Rv
  | false, _, _ => .error (eT 0)
  | true, false, _ => .error eF
  | true, true, r => .ok r
@[simp] theorem exT_f (b : Bool) (r : Rv) : exT false b r = .error (eT 0) := by cases b <;> rfl
@[simp] theorem exT_tf (r : Rv) : exT true false r = .error eF := id rfl
@[simp] theorem exT_tt (r : Rv) : exT true true r = .ok r := id rfl
theorem txOf_wk (t : List St') : (walksOf (txOf (txD t))).map plD = (walksOf t).map plD := by
  have h : ∃ t', txD t = txD t' := ⟨t, rfl⟩
  unfold txOf
  rw [dif_pos h]
  exact (txD_inj' h.choose_spec).symm
theorem txOf_all (k : Kd) (t : List St') (f : List (List Int)) : walkAll k (walksOf (txOf (txD t))) f = walkAll k (walksOf t) f := (walkAll_inj f (txOf_wk t)).1
theorem txOf_left (k : Kd) (t : List St') (f : List (List Int)) : leftBy k (walksOf (txOf (txD t))) f = leftBy k (walksOf t) f := (walkAll_inj f (txOf_wk t)).2
theorem walksOf_small {k : Kd} {t : List St'} (h : isText k t = true) : (walksOf t).length ≤ 8 := by
  unfold isText at h
  simp at h
  omega
/-! need_three(kind, text, frame) -/
def N_need_three : List Str := ["kind", "text", "frame"]
def b_need_three : Ss := (.cons (.exp (.call "need_both" (.cons (.var 0) (.cons (.var 1) .nil))))
    (.cons (.exp (.call "need_frame" (.cons (.var 0) (.cons (.var 2) .nil))))
    .nil))
def g_need_three : Kn := kn [("need_frame", sp_need_frame), ("need_both", sp_need_both)] [] []
@[simp ↓] theorem g_need_three_need_frame : g_need_three.fn "need_frame" = some sp_need_frame := by kernel_rfl
@[simp ↓] theorem g_need_three_need_both : g_need_three.fn "need_both" = some sp_need_both := by kernel_rfl

noncomputable def sp_need_three : Spec := purX (fun (a : Kd × Dat × Dat) => [kD a.1, a.2.1, a.2.2]) (fun a => OkK a.1 ∧ a.2.1.plain = true ∧ a.2.2.plain = true) (fun a => exT (isTextV a.1 a.2.1) (areRods a.1 a.2.2 60) (.val .non))
theorem k_need_three : Keeps g_need_three N_need_three.length 3 b_need_three sp_need_three := by
  rintro ds M Q X ⟨⟨k, t, f⟩, rfl, ⟨hk, ht, hf⟩, hQ⟩
  refine ⟨rfl, ?_⟩
  simp only at hk ht hf
  cases h : isTextV k t with
  | false => simp [h] at hQ; simp [b_need_three, startE, N_need_three, hk, ht, h, hQ]
  | true => cases h2 : areRods k f 60 <;> simp [h, h2] at hQ <;> simp [b_need_three, startE, N_need_three, hk, ht, hf, h, h2, hQ]
@[simp ↓, simp] theorem need_three_go {M : MH} {X : PX} {P : PE_} {ρ : Env} {k : Kd} {t f : Dat} (hk : OkK k) (ht : t.plain = true) (hf : f.plain = true) : callS sp_need_three [kD k, t, f] M X P ρ = exD X (fun r M => P r ρ M) M (exT (isTextV k t) (areRods k f 60) (.val .non)) :=
  callS_purX (k, t, f) rfl ⟨hk, ht, hf⟩ (by rintro ⟨a, b, c⟩ h; simp at h; obtain ⟨h, rfl, rfl⟩ := h; obtain rfl := kD_eq h; rfl)
/-- the three by values -/
theorem three {k : Kd} {t f : Dat} (h1 : isTextV k t = true) (h2 : areRods k f 60 = true) : ∃ t' f', t = txD t' ∧ f = frD f' ∧ OkT k t' ∧ isText k t' = true ∧ OkF k f' ∧ f'.length ≤ 60 := by
  obtain ⟨t', rfl, a, b⟩ := isTextV_true.mp h1
  obtain ⟨f', rfl, c, d⟩ := areRods_true.mp h2
  exact ⟨t', f', rfl, rfl, a, b, c, by omega⟩
theorem three_ok {k : Kd} {t : List St'} {f : List (List Int)} (h : Ok3 k t f) : isTextV k (txD t) = true ∧ areRods k (frD f) 60 = true :=
  ⟨by rw [isTextV_tx h.ht]; exact h.hx, areRods_true.mpr ⟨f, rfl, h.hf, by have := h.hl; omega⟩⟩
/-! run(kind, text, frame) -/
def N_run : List Str := ["kind", "text", "frame"]
def b_run : Ss := (.cons (.exp (.call "need_three" (.cons (.var 0) (.cons (.var 1) (.cons (.var 2) .nil)))))
    (.cons (.ret (.call "left_by" (.cons (.var 0) (.cons (.var 1) (.cons (.var 2) .nil)))))
    .nil))
def g_run : Kn := kn [("left_by", sp_left_by), ("need_three", sp_need_three)] [] []
@[simp ↓] theorem g_run_left_by : g_run.fn "left_by" = some sp_left_by := by kernel_rfl
@[simp ↓] theorem g_run_need_three : g_run.fn "need_three" = some sp_need_three := by kernel_rfl

noncomputable def sp_run : Spec := purX (fun (a : Kd × Dat × Dat) => [kD a.1, a.2.1, a.2.2]) (fun a => OkK a.1 ∧ a.2.1.plain = true ∧ a.2.2.plain = true)
  (fun a => exT (isTextV a.1 a.2.1) (areRods a.1 a.2.2 60) (.val (frD (leftBy a.1 (walksOf (txOf a.2.1)) (frOf a.2.2)))))
theorem k_run : Keeps g_run N_run.length 3 b_run sp_run := by
  rintro ds M Q X ⟨⟨k, t, f⟩, rfl, ⟨hk, ht, hf⟩, hQ⟩
  refine ⟨rfl, ?_⟩
  simp only at hk ht hf
  cases h : isTextV k t with
  | false => simp [h] at hQ; simp [b_run, startE, N_run, hk, ht, hf, h, hQ]
  | true => cases h2 : areRods k f 60 with
    | false => simp [h, h2] at hQ; simp [b_run, startE, N_run, hk, ht, hf, h, h2, hQ]
    | true =>
      obtain ⟨t', f', rfl, rfl, a, b, c, d⟩ := three h h2
      simp only [h, h2, exT_tt, exD_ok, txOf_left, frOf_D] at hQ
      have e1 := isText_len b
      have e3 : t'.length ≤ 1000 := by omega
      have e4 : f'.length ≤ 1000 := by omega
      simp [b_run, startE, N_run, hk, h, h2, a, c, e3, e4, hQ]
theorem run_goV {M : MH} {X : PX} {P : PE_} {ρ : Env} {k : Kd} {t f : Dat} (hk : OkK k) (ht : t.plain = true) (hf : f.plain = true) :
    callS sp_run [kD k, t, f] M X P ρ = exD X (fun r M => P r ρ M) M (exT (isTextV k t) (areRods k f 60) (.val (frD (leftBy k (walksOf (txOf t)) (frOf f))))) :=
  callS_purX (k, t, f) rfl ⟨hk, ht, hf⟩ (by rintro ⟨a, b, c⟩ h; simp at h; obtain ⟨h, rfl, rfl⟩ := h; obtain rfl := kD_eq h; rfl)
theorem run_go {M : MH} {X : PX} {P : PE_} {ρ : Env} {k : Kd} {t : List St'} {f : List (List Int)} (h : Ok3 k t f) : callS sp_run [kD k, txD t, frD f] M X P ρ = P (.val (frD (leftBy k (walksOf t) f))) ρ M := by
  rw [run_goV h.hk (plain_txD t) (plain_frD f), (three_ok h).1, (three_ok h).2, exT_tt, exD_ok, txOf_left, frOf_D]
/-! stages(kind, text, frame) -/
def N_stages : List Str := ["kind", "text", "frame", "new", "note"]
def b_stages : Ss := (.cons (.exp (.call "need_three" (.cons (.var 0) (.cons (.var 1) (.cons (.var 2) .nil)))))
    (.cons (.ret (.lc (.var 3) (.cons (.tup [3, 4]) (.seq (.call "all_walked" (.cons (.var 0) (.cons (.var 1) (.cons (.var 2) .nil))))) .nil .nil) [3, 4]))
    .nil))
def g_stages : Kn := kn [("all_walked", sp_all_walked), ("need_three", sp_need_three)] [] []
@[simp ↓] theorem g_stages_all_walked : g_stages.fn "all_walked" = some sp_all_walked := by kernel_rfl
@[simp ↓] theorem g_stages_need_three : g_stages.fn "need_three" = some sp_need_three := by kernel_rfl

noncomputable def sp_stages : Spec := purX (fun (a : Kd × Dat × Dat) => [kD a.1, a.2.1, a.2.2]) (fun a => OkK a.1 ∧ a.2.1.plain = true ∧ a.2.2.plain = true)
  (fun a => exT (isTextV a.1 a.2.1) (areRods a.1 a.2.2 60) (.own (.lst ((walkAll a.1 (walksOf (txOf a.2.1)) (frOf a.2.2)).map fun w => frD w.1))))
theorem k_stages : Keeps g_stages N_stages.length 3 b_stages sp_stages := by
  rintro ds M Q X ⟨⟨k, t, f⟩, rfl, ⟨hk, ht, hf⟩, hQ⟩
  refine ⟨rfl, ?_⟩
  simp only at hk ht hf
  cases h : isTextV k t with
  | false => simp [h] at hQ; simp [b_stages, startE, N_stages, hk, ht, hf, h, hQ]
  | true => cases h2 : areRods k f 60 with
    | false => simp [h, h2] at hQ; simp [b_stages, startE, N_stages, hk, ht, hf, h, h2, hQ]
    | true =>
      obtain ⟨t', f', rfl, rfl, a, b, c, d⟩ := three h h2
      simp only [h, h2, exT_tt, exD_ok, txOf_all, frOf_D] at hQ
      have e1 := isText_len b
      have e3 : t'.length ≤ 1000 := by omega
      have e4 : f'.length ≤ 1000 := by omega
      have e5 := walksOf_small b
      simp [b_stages, startE, N_stages, hk, h, h2]
      refine lcS_mapE (walkAll k (walksOf t') f') pairD (fun w => frD w.1) rfl (by rw [walkAll_len, sizeLine_eq]; omega) (by simp [hk, a, c, e3, e4]) ?_ (by simpa using hQ)
      intro w hw
      simp [wipeE, tgtF, pairD]
theorem stages_goV {M : MH} {X : PX} {P : PE_} {ρ : Env} {k : Kd} {t f : Dat} (hk : OkK k) (ht : t.plain = true) (hf : f.plain = true) :
    callS sp_stages [kD k, t, f] M X P ρ = exD X (fun r M => P r ρ M) M (exT (isTextV k t) (areRods k f 60) (.own (.lst ((walkAll k (walksOf (txOf t)) (frOf f)).map fun w => frD w.1)))) :=
  callS_purX (k, t, f) rfl ⟨hk, ht, hf⟩ (by rintro ⟨a, b, c⟩ h; simp at h; obtain ⟨h, rfl, rfl⟩ := h; obtain rfl := kD_eq h; rfl)
theorem stages_go {M : MH} {X : PX} {P : PE_} {ρ : Env} {k : Kd} {t : List St'} {f : List (List Int)} (h : Ok3 k t f) : callS sp_stages [kD k, txD t, frD f] M X P ρ = P (.own (.lst ((walkAll k (walksOf t) f).map fun w => frD w.1))) ρ M := by
  rw [stages_goV h.hk (plain_txD t) (plain_frD f), (three_ok h).1, (three_ok h).2, exT_tt, exD_ok, txOf_all, frOf_D]
/-! notes(kind, text, frame) -/
def N_notes : List Str := ["kind", "text", "frame", "new", "note"]
def b_notes : Ss := (.cons (.exp (.call "need_three" (.cons (.var 0) (.cons (.var 1) (.cons (.var 2) .nil)))))
    (.cons (.ret (.lc (.var 4) (.cons (.tup [3, 4]) (.seq (.call "all_walked" (.cons (.var 0) (.cons (.var 1) (.cons (.var 2) .nil))))) .nil .nil) [3, 4]))
    .nil))
def g_notes : Kn := kn [("all_walked", sp_all_walked), ("need_three", sp_need_three)] [] []
@[simp ↓] theorem g_notes_all_walked : g_notes.fn "all_walked" = some sp_all_walked := by kernel_rfl
@[simp ↓] theorem g_notes_need_three : g_notes.fn "need_three" = some sp_need_three := by kernel_rfl

noncomputable def sp_notes : Spec := purX (fun (a : Kd × Dat × Dat) => [kD a.1, a.2.1, a.2.2]) (fun a => OkK a.1 ∧ a.2.1.plain = true ∧ a.2.2.plain = true)
  (fun a => exT (isTextV a.1 a.2.1) (areRods a.1 a.2.2 60) (.own (.lst ((walkAll a.1 (walksOf (txOf a.2.1)) (frOf a.2.2)).map fun w => .int w.2))))
theorem k_notes : Keeps g_notes N_notes.length 3 b_notes sp_notes := by
  rintro ds M Q X ⟨⟨k, t, f⟩, rfl, ⟨hk, ht, hf⟩, hQ⟩
  refine ⟨rfl, ?_⟩
  simp only at hk ht hf
  cases h : isTextV k t with
  | false => simp [h] at hQ; simp [b_notes, startE, N_notes, hk, ht, hf, h, hQ]
  | true => cases h2 : areRods k f 60 with
    | false => simp [h, h2] at hQ; simp [b_notes, startE, N_notes, hk, ht, hf, h, h2, hQ]
    | true =>
      obtain ⟨t', f', rfl, rfl, a, b, c, d⟩ := three h h2
      simp only [h, h2, exT_tt, exD_ok, txOf_all, frOf_D] at hQ
      have e1 := isText_len b
      have e3 : t'.length ≤ 1000 := by omega
      have e4 : f'.length ≤ 1000 := by omega
      have e5 := walksOf_small b
      simp [b_notes, startE, N_notes, hk, h, h2]
      refine lcS_mapE (walkAll k (walksOf t') f') pairD (fun w => .int w.2) rfl (by rw [walkAll_len, sizeLine_eq]; omega) (by simp [hk, a, c, e3, e4]) ?_ (by simpa using hQ)
      intro w hw
      simp [wipeE, tgtF, pairD]
theorem notes_goV {M : MH} {X : PX} {P : PE_} {ρ : Env} {k : Kd} {t f : Dat} (hk : OkK k) (ht : t.plain = true) (hf : f.plain = true) :
    callS sp_notes [kD k, t, f] M X P ρ = exD X (fun r M => P r ρ M) M (exT (isTextV k t) (areRods k f 60) (.own (.lst ((walkAll k (walksOf (txOf t)) (frOf f)).map fun w => .int w.2)))) :=
  callS_purX (k, t, f) rfl ⟨hk, ht, hf⟩ (by rintro ⟨a, b, c⟩ h; simp at h; obtain ⟨h, rfl, rfl⟩ := h; obtain rfl := kD_eq h; rfl)
theorem notes_go {M : MH} {X : PX} {P : PE_} {ρ : Env} {k : Kd} {t : List St'} {f : List (List Int)} (h : Ok3 k t f) : callS sp_notes [kD k, txD t, frD f] M X P ρ = P (.own (.lst ((walkAll k (walksOf t) f).map fun w => .int w.2))) ρ M := by
  rw [notes_goV h.hk (plain_txD t) (plain_frD f), (three_ok h).1, (three_ok h).2, exT_tt, exD_ok, txOf_all, frOf_D]
end Mi

set_option maxHeartbeats 1000000
/-! E1: moves of beads. -/
namespace Mi
open PySem PySem.Spec PyProof.Rows L2
def absI (i : Int) : Int := if i < 0 then -i else i
@[simp] theorem abs_go (M : MH) (i : Int) : callD M .abs (.int i) = some (.val (.int (absI i))) := by rfl
/-- the moves from a digit to another one -/
def dmv (w a b : Int) : Int := absI (a / w - b / w) + absI (a % w - b % w)
/-! digit_moves(kind, one, other) -/
def N_digit_moves : List Str := ["kind", "one", "other"]
def b_digit_moves : Ss := (.cons (.ret (.bin .Add (.bf .abs (.bin .Sub (.bin .FloorDiv (.var 1) (.idx (.var 0) (.cst (.int 1)))) (.bin .FloorDiv (.var 2) (.idx (.var 0) (.cst (.int 1)))))) (.bf .abs (.bin .Sub (.bin .Mod (.var 1) (.idx (.var 0) (.cst (.int 1)))) (.bin .Mod (.var 2) (.idx (.var 0) (.cst (.int 1))))))))
    .nil)
def g_digit_moves : Kn := kn [] [] []

def sp_digit_moves : Spec := pur (fun (a : Kd × Int × Int) => [kD a.1, .int a.2.1, .int a.2.2]) (fun a => OkK a.1) (fun a => .val (.int (dmv a.1.f a.2.1 a.2.2)))
@[simp ↓, simp] theorem digit_moves_go {M : MH} {X : PX} {P : PE_} {ρ : Env} {k : Kd} {a b : Int} (hk : OkK k) : callS sp_digit_moves [kD k, .int a, .int b] M X P ρ = P (.val (.int (dmv k.f a b))) ρ M :=
  callS_pur (k, a, b) rfl hk (by rintro ⟨k', a', b'⟩ h; simp at h; obtain ⟨h1, rfl, rfl⟩ := h; obtain rfl := kD_eq h1; rfl)
theorem k_digit_moves : Keeps g_digit_moves N_digit_moves.length 3 b_digit_moves sp_digit_moves := by
  rintro ds M Q X ⟨⟨k, a, b⟩, rfl, hk, hQ⟩
  refine ⟨rfl, ?_⟩
  simp only at hk hQ
  have f1 := hk.f1
  have f2 := hk.f2
  have b2 := hk.b2
  have md : ∀ t, binD .Mod (.int t) (.int k.f) = some (.val (.int (t % k.f))) := fun t => mod_int (by omega)
  have fd : ∀ t, binD .FloorDiv (.int t) (.int k.f) = some (.val (.int (t / k.f))) := fun t => fdiv_small (by omega) (by omega)
  simp [b_digit_moves, startE, N_digit_moves, md, fd]
  exact hQ
theorem zipL_map {α β : Type} (f : α → Dat) (g : β → Dat) : ∀ (a : List α) (b : List β), zipL (a.map f) (b.map g) = (a.zip b).map fun p => .tup [f p.1, g p.2]
  | [], [] => rfl
  | [], _ :: _ => rfl
  | _ :: _, [] => rfl
  | x :: a, y :: b => by simp [zipL, zipL_map f g a b]
theorem intsD_map {α : Type} (g : α → Int) : ∀ l : List α, intsD (l.map fun x => .int (g x)) = some (l.map g)
  | [] => rfl
  | x :: l => by simp [intsD, intsD_map g l]
theorem sum_map {α : Type} (M : MH) (g : α → Int) (l : List α) : callD M .sum (.lst (l.map fun x => .int (g x))) = some (.val (.int (l.map g).sum)) := by
  show (intsD (l.map fun x => .int (g x))).map (fun ns => Rv.val (.int ns.sum)) = _
  rw [intsD_map]; rfl
/-- the moves from a rod to another one -/
def rmv (w : Int) (r s : List Int) : Int := ((r.zip s).map fun p => dmv w p.1 p.2).sum
/-! rod_moves(kind, one, other) -/
def N_rod_moves : List Str := ["kind", "one", "other", "mine", "yours"]
def b_rod_moves : Ss := (.cons (.ret (.bf .sum (.lc (.call "digit_moves" (.cons (.var 0) (.cons (.var 3) (.cons (.var 4) .nil)))) (.cons (.tup [3, 4]) (.zip (.cons (.var 1) (.cons (.var 2) .nil))) .nil .nil) [3, 4])))
    .nil)
def g_rod_moves : Kn := kn [("digit_moves", sp_digit_moves)] [] []
@[simp ↓] theorem g_rod_moves_digit_moves : g_rod_moves.fn "digit_moves" = some sp_digit_moves := by kernel_rfl

def sp_rod_moves : Spec := pur (fun (a : Kd × List Int × List Int) => [kD a.1, rodD a.2.1, rodD a.2.2]) (fun a => OkK a.1 ∧ a.2.1.length ≤ 1000) (fun a => .val (.int (rmv a.1.f a.2.1 a.2.2)))
@[simp ↓, simp] theorem rod_moves_go {M : MH} {X : PX} {P : PE_} {ρ : Env} {k : Kd} {a b : List Int} (hk : OkK k) (hl : a.length ≤ 1000) : callS sp_rod_moves [kD k, rodD a, rodD b] M X P ρ = P (.val (.int (rmv k.f a b))) ρ M :=
  callS_pur (k, a, b) rfl ⟨hk, hl⟩ (by rintro ⟨k', a', b'⟩ h; simp at h; obtain ⟨h1, h2, h3⟩ := h; obtain rfl := kD_eq h1; obtain rfl := rodD_inj h2; obtain rfl := rodD_inj h3; rfl)
theorem k_rod_moves : Keeps g_rod_moves N_rod_moves.length 3 b_rod_moves sp_rod_moves := by
  rintro ds M Q X ⟨⟨k, a, b⟩, rfl, ⟨hk, hl⟩, hQ⟩
  refine ⟨rfl, ?_⟩
  simp only at hk hl hQ
  have z : zipD [rodD a, rodD b] = some ((a.zip b).map fun p => .tup [.int p.1, .int p.2]) := by
    show some (zipL _ _) = _
    rw [zipL_map]
  simp [b_rod_moves, startE, N_rod_moves]
  refine lcS_mapE (a.zip b) (fun p => .tup [.int p.1, .int p.2]) (fun p => .int (dmv k.f p.1 p.2)) rfl (by rw [sizeLine_eq, List.length_zip]; omega) (by simp [z]) ?_ ?_
  · intro p _
    simp [wipeE, tgtF, setAll, hk]
  · simp [sum_map]
    exact hQ
/-- the moves from a frame to another one -/
def fmv (w : Int) (f g : List (List Int)) : Int := ((f.zip g).map fun p => rmv w p.1 p.2).sum
/-! frame_moves(kind, one, other) -/
def N_frame_moves : List Str := ["kind", "one", "other", "mine", "yours"]
def b_frame_moves : Ss := (.cons (.ret (.bf .sum (.lc (.call "rod_moves" (.cons (.var 0) (.cons (.var 3) (.cons (.var 4) .nil)))) (.cons (.tup [3, 4]) (.zip (.cons (.var 1) (.cons (.var 2) .nil))) .nil .nil) [3, 4])))
    .nil)
def g_frame_moves : Kn := kn [("rod_moves", sp_rod_moves)] [] []
@[simp ↓] theorem g_frame_moves_rod_moves : g_frame_moves.fn "rod_moves" = some sp_rod_moves := by kernel_rfl

def sp_frame_moves : Spec := pur (fun (a : Kd × List (List Int) × List (List Int)) => [kD a.1, frD a.2.1, frD a.2.2]) (fun a => OkK a.1 ∧ OkF a.1 a.2.1 ∧ a.2.1.length ≤ 1000) (fun a => .val (.int (fmv a.1.f a.2.1 a.2.2)))
@[simp ↓, simp] theorem frame_moves_go {M : MH} {X : PX} {P : PE_} {ρ : Env} {k : Kd} {a b : List (List Int)} (hk : OkK k) (ha : OkF k a) (hl : a.length ≤ 1000) : callS sp_frame_moves [kD k, frD a, frD b] M X P ρ = P (.val (.int (fmv k.f a b))) ρ M :=
  callS_pur (k, a, b) rfl ⟨hk, ha, hl⟩ (by rintro ⟨k', a', b'⟩ h; simp at h; obtain ⟨h1, h2, h3⟩ := h; obtain rfl := kD_eq h1; obtain rfl := frD_inj h2; obtain rfl := frD_inj h3; rfl)
theorem k_frame_moves : Keeps g_frame_moves N_frame_moves.length 3 b_frame_moves sp_frame_moves := by
  rintro ds M Q X ⟨⟨k, a, b⟩, rfl, ⟨hk, ha, hl⟩, hQ⟩
  refine ⟨rfl, ?_⟩
  simp only at hk ha hl hQ
  have d2 := hk.d2
  have z : zipD [frD a, frD b] = some ((a.zip b).map fun p => .tup [rodD p.1, rodD p.2]) := by
    show some (zipL _ _) = _
    rw [zipL_map]
  simp [b_frame_moves, startE, N_frame_moves]
  refine lcS_mapE (a.zip b) (fun p => .tup [rodD p.1, rodD p.2]) (fun p => .int (rmv k.f p.1 p.2)) rfl (by rw [sizeLine_eq, List.length_zip]; omega) (by simp [z]) ?_ ?_
  · intro p hp
    have := (ha p.1 (List.of_mem_zip hp).1).1
    have hr : p.1.length ≤ 1000 := by omega
    simp [wipeE, tgtF, setAll, hk, hr]
  · simp [sum_map]
    exact hQ
/-- the moves along some frames -/
def movesOf (w : Int) : List (List (List Int) × Int) → List (List Int) → Int
  | [], _ => 0
  | p :: ps, f => fmv w f p.1 + movesOf w ps p.1
theorem walkAll_ok {k : Kd} (hk : OkK k) : ∀ (ps : List Pl) (f : List (List Int)), (∀ p ∈ ps, OkPl k p) → OkF k f → ∀ w ∈ walkAll k ps f, OkF k w.1 ∧ w.1.length = f.length
  | [], f, _, hf => fun w h => by simp [walkAll] at h
  | p :: ps, f, hp, hf => by
    obtain ⟨a, b, _⟩ := walk_ok hk (hp p (by simp)) hf
    intro w hw
    simp only [walkAll, List.mem_cons] at hw
    rcases hw with rfl | hw
    · exact ⟨a, b⟩
    · obtain ⟨c, d⟩ := walkAll_ok hk ps (walk k p f).1 (fun q hq => hp q (by simp [hq])) a w hw
      exact ⟨c, d.trans b⟩
/-! moves(kind, text, frame) -/
def N_moves : List Str := ["kind", "text", "frame", "total", "new", "note"]
def b_moves : Ss := (.cons (.exp (.call "need_three" (.cons (.var 0) (.cons (.var 1) (.cons (.var 2) .nil)))))
    (.cons (.asg 3 (.cst (.int 0)))
    (.cons (.for_ (.tup [4, 5]) (.seq (.call "all_walked" (.cons (.var 0) (.cons (.var 1) (.cons (.var 2) .nil)))))
    (.cons (.asgL [3, 2] (.cons (.bin .Add (.var 3) (.call "frame_moves" (.cons (.var 0) (.cons (.var 2) (.cons (.var 4) .nil))))) (.cons (.var 4) .nil)))
    .nil))
    (.cons (.ret (.var 3))
    .nil))))
def g_moves : Kn := kn [("all_walked", sp_all_walked), ("frame_moves", sp_frame_moves), ("need_three", sp_need_three)] [] []
@[simp ↓] theorem g_moves_all_walked : g_moves.fn "all_walked" = some sp_all_walked := by kernel_rfl
@[simp ↓] theorem g_moves_frame_moves : g_moves.fn "frame_moves" = some sp_frame_moves := by kernel_rfl
@[simp ↓] theorem g_moves_need_three : g_moves.fn "need_three" = some sp_need_three := by kernel_rfl

noncomputable def sp_moves : Spec := purX (fun (a : Kd × Dat × Dat) => [kD a.1, a.2.1, a.2.2]) (fun a => OkK a.1 ∧ a.2.1.plain = true ∧ a.2.2.plain = true)
  (fun a => exT (isTextV a.1 a.2.1) (areRods a.1 a.2.2 60) (.val (.int (movesOf a.1.f (walkAll a.1 (walksOf (txOf a.2.1)) (frOf a.2.2)) (frOf a.2.2)))))
theorem k_moves : Keeps g_moves N_moves.length 3 b_moves sp_moves := by
  rintro ds M Q X ⟨⟨k, t, f⟩, rfl, ⟨hk, ht, hf⟩, hQ⟩
  refine ⟨rfl, ?_⟩
  simp only at hk ht hf
  cases h : isTextV k t with
  | false => simp [h] at hQ; simp [b_moves, startE, N_moves, hk, ht, hf, h, hQ]
  | true => cases h2 : areRods k f 60 with
    | false => simp [h, h2] at hQ; simp [b_moves, startE, N_moves, hk, ht, hf, h, h2, hQ]
    | true =>
      obtain ⟨t', f', rfl, rfl, a, b, c, d⟩ := three h h2
      simp only [h, h2, exT_tt, exD_ok, txOf_all, frOf_D] at hQ
      have e1 := isText_len b
      have e3 : t'.length ≤ 1000 := by omega
      have e4 : f'.length ≤ 1000 := by omega
      have e5 := walksOf_small b
      simp [b_moves, startE, N_moves, hk, h, h2, a, c, e3, e4]
      refine forS_inv (fun ds ρ M' => M' = M ∧ ∃ (rest : List (List (List Int) × Int)) (here : List (List Int)) (z : Int) (x y : Sl), ds = rest.map pairD ∧ (∀ w ∈ rest, OkF k w.1 ∧ w.1.length = f'.length) ∧ OkF k here ∧ here.length = f'.length ∧
        z + movesOf k.f rest here = movesOf k.f (walkAll k (walksOf t') f') f' ∧ ρ = [.val (kD k), .val (txD t'), .val (frD here), .val (.int z), x, y])
        ⟨rfl, walkAll k (walksOf t') f', f', 0, _, _, rfl, walkAll_ok hk _ _ (OkT.wk a) c, c, rfl, by simp, rfl⟩ ?_ ?_
      · rintro ρ M' ⟨rfl, rest, here, z, x, y, e6, _, _, _, e7, rfl⟩
        obtain rfl : rest = [] := by simpa using e6.symm
        simp [movesOf] at e7
        simp [e7]
        exact hQ
      · rintro d ds ρ M' ⟨rfl, rest, here, z, x, y, e6, e8, e9, e10, e7, rfl⟩
        cases rest with
        | nil => simp at e6
        | cons w rest =>
          simp at e6
          obtain ⟨rfl, rfl⟩ := e6
          have e11 : here.length ≤ 1000 := by omega
          obtain ⟨g1, g2⟩ := e8 w (by simp)
          simp [pairD, tgtF, setAll, hk, e9, e11]
          exact ⟨rest, rfl, fun a b hab => e8 (a, b) (List.mem_cons_of_mem _ hab), w.1, g1, g2, by simp only [movesOf] at e7; rw [← e7, Int.add_assoc], rfl⟩
theorem moves_goV {M : MH} {X : PX} {P : PE_} {ρ : Env} {k : Kd} {t f : Dat} (hk : OkK k) (ht : t.plain = true) (hf : f.plain = true) :
    callS sp_moves [kD k, t, f] M X P ρ = exD X (fun r M => P r ρ M) M (exT (isTextV k t) (areRods k f 60) (.val (.int (movesOf k.f (walkAll k (walksOf (txOf t)) (frOf f)) (frOf f))))) :=
  callS_purX (k, t, f) rfl ⟨hk, ht, hf⟩ (by rintro ⟨a, b, c⟩ h; simp at h; obtain ⟨h, rfl, rfl⟩ := h; obtain rfl := kD_eq h; rfl)
theorem moves_go {M : MH} {X : PX} {P : PE_} {ρ : Env} {k : Kd} {t : List St'} {f : List (List Int)} (h : Ok3 k t f) : callS sp_moves [kD k, txD t, frD f] M X P ρ = P (.val (.int (movesOf k.f (walkAll k (walksOf t) f) f))) ρ M := by
  rw [moves_goV h.hk (plain_txD t) (plain_frD f), (three_ok h).1, (three_ok h).2, exT_tt, exD_ok, txOf_all, frOf_D]
/-! _law_stand(kind, figure) -/
def N_l_law_stand : List Str := ["kind", "figure", "uppers"]
def b_l_law_stand : Ss := (.cons (.asg 2 (.cst (.int 0)))
    (.cons (.whl (.cmp .GtE (.var 1) (.idx (.var 0) (.cst (.int 1))))
    (.cons (.asgL [2, 1] (.cons (.bin .Add (.var 2) (.cst (.int 1))) (.cons (.bin .Sub (.var 1) (.idx (.var 0) (.cst (.int 1)))) .nil)))
    .nil))
    (.cons (.ret (.tup (.cons (.var 2) (.cons (.var 1) .nil))))
    .nil)))
def g_l_law_stand : Kn := kn [] [] []

def sp_l_law_stand : Spec := pur (fun (a : Kd × Int) => [kD a.1, .int a.2]) (fun a => OkK a.1 ∧ 0 ≤ a.2) (fun a => .val (.tup [.int (a.2 / a.1.f), .int (a.2 % a.1.f)]))
@[simp ↓, simp] theorem stand_go {M : MH} {X : PX} {P : PE_} {ρ : Env} {k : Kd} {a : Int} (hk : OkK k) (ha : 0 ≤ a) : callS sp_l_law_stand [kD k, .int a] M X P ρ = P (.val (.tup [.int (a / k.f), .int (a % k.f)])) ρ M :=
  callS_pur (k, a) rfl ⟨hk, ha⟩ (by rintro ⟨k', a'⟩ h; simp at h; obtain ⟨h1, rfl⟩ := h; obtain rfl := kD_eq h1; rfl)
theorem k_l_law_stand : Keeps g_l_law_stand N_l_law_stand.length 2 b_l_law_stand sp_l_law_stand := by
  rintro ds M Q X ⟨⟨k, a⟩, rfl, ⟨hk, ha⟩, hQ⟩
  refine ⟨rfl, ?_⟩
  simp only at hk ha hQ
  have f1 := hk.f1
  simp [b_l_law_stand, startE, N_l_law_stand]
  refine whl_inv (fun n ρ M' => M' = M ∧ ∃ (u x : Int), 0 ≤ x ∧ x.toNat = n ∧ x + u * k.f = a ∧ ρ = [.val (kD k), .val (.int x), .val (.int u)]) a.toNat ⟨rfl, 0, a, ha, rfl, by simp, rfl⟩ ?_
  rintro n ρ M' ⟨rfl, u, x, h0, h1, h2, rfl⟩
  by_cases c : k.f ≤ x
  · simp [c, setAll]
    exact ⟨(x - k.f).toNat, by omega, u + 1, x - k.f, by omega, rfl, by rw [Int.add_mul]; omega, rfl, rfl⟩
  · simp [c]
    have e1 : a / k.f = u := by rw [← h2, Int.add_mul_ediv_right _ _ (by omega), Int.ediv_eq_zero_of_lt h0 (by omega)]; omega
    have e2 : a % k.f = x := by rw [← h2, Int.add_mul_emod_self_right, Int.emod_eq_of_lt h0 (by omega)]
    rw [e1, e2] at hQ
    exact hQ
theorem tupsD_rods : ∀ f : List (List Int), tupsD (f.map rodD) = some (f.map fun r => r.map Dat.int)
  | [] => rfl
  | r :: f => by
    show (tupsD (f.map rodD)).map (r.map Dat.int :: ·) = _
    rw [tupsD_rods f]; rfl
theorem flat_len {k : Kd} {f : List (List Int)} (hk : OkK k) (hf : OkF k f) : f.flatten.length ≤ 3 * f.length := by
  have d2 := hk.d2
  induction f with
  | nil => simp
  | cons r f ih =>
    have h1 := (hf r (by simp)).1
    have h2 := ih fun s hs => hf s (by simp [hs])
    simp only [List.flatten_cons, List.length_append, List.length_cons]
    omega
theorem sum_fr {k : Kd} {f : List (List Int)} (hk : OkK k) (hf : OkF k f) (hl : f.length ≤ 1000) : op2D .sumT (frD f) (.tup []) = some (.val (.tup (f.flatten.map Dat.int))) := by
  show (tupsD (f.map rodD)).bind (fun yss => if ([] : List Dat).length + yss.flatten.length ≤ sizeLine then some (Rv.val (.tup ([] ++ yss.flatten))) else none) = _
  rw [tupsD_rods]
  have e : (f.map fun r => r.map Dat.int).flatten = f.flatten.map Dat.int := by rw [List.map_flatten]
  show (if ([] : List Dat).length + (f.map fun r => r.map Dat.int).flatten.length ≤ sizeLine then some (Rv.val (.tup ([] ++ (f.map fun r => r.map Dat.int).flatten))) else none) = _
  rw [e, if_pos (by have := flat_len hk hf; simp only [List.length_map, List.length_nil]; rw [sizeLine_eq]; omega)]
  rfl
theorem cost_eq {k : Kd} : ∀ {f g : List (List Int)}, OkF k f → OkF k g → ((f.flatten.zip g.flatten).map fun p => dmv k.f p.1 p.2).sum = fmv k.f f g
  | [], g, _, _ => by simp [fmv]
  | r :: f, [], _, _ => by simp [fmv]
  | r :: f, s :: g, hf, hg => by
    have h1 := (hf r (by simp)).1
    have h2 := (hg s (by simp)).1
    have ih := cost_eq (k := k) (f := f) (g := g) (fun x hx => hf x (by simp [hx])) (fun x hx => hg x (by simp [hx]))
    simp only [List.flatten_cons]
    rw [List.zip_append (by omega), List.map_append, List.sum_append, ih]
    simp [fmv, rmv]
/-! _law_cost(kind, one, other) -/
def N_l_law_cost : List Str := ["kind", "one", "other", "total", "mine", "yours", "first", "second"]
def b_l_law_cost : Ss := (.cons (.asg 3 (.cst (.int 0)))
    (.cons (.for_ (.tup [4, 5]) (.zip (.cons (.op2 .sumT (.var 1) (.tup .nil)) (.cons (.op2 .sumT (.var 2) (.tup .nil)) .nil)))
    (.cons (.asgL [6, 7] (.cons (.call "_law_stand" (.cons (.var 0) (.cons (.var 4) .nil))) (.cons (.call "_law_stand" (.cons (.var 0) (.cons (.var 5) .nil))) .nil)))
    (.cons (.asg 3 (.bin .Add (.bin .Add (.var 3) (.bf .abs (.bin .Sub (.idx (.var 6) (.cst (.int 0))) (.idx (.var 7) (.cst (.int 0)))))) (.bf .abs (.bin .Sub (.idx (.var 6) (.cst (.int 1))) (.idx (.var 7) (.cst (.int 1)))))))
    .nil)))
    (.cons (.ret (.var 3))
    .nil)))
def g_l_law_cost : Kn := kn [("_law_stand", sp_l_law_stand)] [] []
@[simp ↓] theorem g_l_law_cost_l_law_stand : g_l_law_cost.fn "_law_stand" = some sp_l_law_stand := by kernel_rfl

def sp_l_law_cost : Spec := pur (fun (a : Kd × List (List Int) × List (List Int)) => [kD a.1, frD a.2.1, frD a.2.2]) (fun a => OkK a.1 ∧ OkF a.1 a.2.1 ∧ OkF a.1 a.2.2 ∧ a.2.1.length ≤ 1000 ∧ a.2.2.length ≤ 1000) (fun a => .val (.int (fmv a.1.f a.2.1 a.2.2)))
@[simp ↓, simp] theorem cost_go {M : MH} {X : PX} {P : PE_} {ρ : Env} {k : Kd} {a b : List (List Int)} (hk : OkK k) (ha : OkF k a) (hb : OkF k b) (hl : a.length ≤ 1000) (hl2 : b.length ≤ 1000) : callS sp_l_law_cost [kD k, frD a, frD b] M X P ρ = P (.val (.int (fmv k.f a b))) ρ M :=
  callS_pur (k, a, b) rfl ⟨hk, ha, hb, hl, hl2⟩ (by rintro ⟨k', a', b'⟩ h; simp at h; obtain ⟨h1, h2, h3⟩ := h; obtain rfl := kD_eq h1; obtain rfl := frD_inj h2; obtain rfl := frD_inj h3; rfl)
theorem k_l_law_cost : Keeps g_l_law_cost N_l_law_cost.length 3 b_l_law_cost sp_l_law_cost := by
  rintro ds M Q X ⟨⟨k, a, b⟩, rfl, ⟨hk, ha, hb, hl, hl2⟩, hQ⟩
  refine ⟨rfl, ?_⟩
  simp only at hk ha hb hl hl2 hQ
  have z : zipD [.tup (a.flatten.map Dat.int), .tup (b.flatten.map Dat.int)] = some ((a.flatten.zip b.flatten).map fun p => .tup [.int p.1, .int p.2]) := by
    show some (zipL _ _) = _
    rw [zipL_map]
  simp only [List.map_flatten] at z
  have nn : ∀ {f : List (List Int)}, OkF k f → ∀ x ∈ f.flatten, 0 ≤ x := by
    intro f hf x hx
    obtain ⟨r, h1, h2⟩ := List.mem_flatten.mp hx
    exact ((hf r h1).2 x h2).1
  simp [b_l_law_cost, startE, N_l_law_cost, sum_fr hk ha hl, sum_fr hk hb hl2, z]
  rw [← cost_eq ha hb] at hQ
  refine forS_inv (fun ds ρ M' => M' = M ∧ ∃ (rest : List (Int × Int)) (z : Int) (x y x2 y2 : Sl), ds = rest.map (fun p => .tup [.int p.1, .int p.2]) ∧ (∀ p ∈ rest, 0 ≤ p.1 ∧ 0 ≤ p.2) ∧ z + (rest.map fun p => dmv k.f p.1 p.2).sum = ((a.flatten.zip b.flatten).map fun p => dmv k.f p.1 p.2).sum ∧
    ρ = [.val (kD k), .val (frD a), .val (frD b), .val (.int z), x, y, x2, y2]) ⟨rfl, a.flatten.zip b.flatten, 0, _, _, _, _, rfl, fun p hp => ⟨nn ha _ (List.of_mem_zip hp).1, nn hb _ (List.of_mem_zip hp).2⟩, by simp, rfl⟩ ?_ ?_
  · rintro ρ M' ⟨rfl, rest, z, x, y, x2, y2, e1, _, e2, rfl⟩
    obtain rfl : rest = [] := by simpa using e1.symm
    simp at e2
    simp [e2]
    exact hQ
  · rintro d ds ρ M' ⟨rfl, rest, z, x, y, x2, y2, e1, e3, e2, rfl⟩
    cases rest with
    | nil => simp at e1
    | cons p rest =>
      simp at e1
      obtain ⟨rfl, rfl⟩ := e1
      obtain ⟨p1, p2⟩ := e3 p (by simp)
      simp [tgtF, setAll, hk, p1, p2]
      exact ⟨rest, rfl, fun a b hab => e3 (a, b) (List.mem_cons_of_mem _ hab), by
        simp only [List.map_cons, List.sum_cons] at e2
        rw [← e2]
        show z + absI _ + absI _ + _ = z + (absI _ + absI _ + _)
        omega⟩
end Mi

set_option maxHeartbeats 1000000
/-! D1: walks by the numbers of the fields: the mathematics. -/
namespace Mi
open PySem PySem.Spec PyProof.Rows L2

/-! ### numbers of fields -/
def numR (b : Int) : List (List Int) → Int → Int
  | [], _ => 0
  | r :: rs, i => dg r i + b * numR b rs i
theorem numOf_snoc {k : Kd} {f : List (List Int)} {r : List Int} {i : Int} : numOf k (f ++ [r]) i = numOf k f i * k.b + dg r i := by simp [numOf]
theorem numR_rev (k : Kd) (i : Int) : ∀ rs : List (List Int), numOf k rs.reverse i = numR k.b rs i
  | [] => rfl
  | r :: rs => by rw [List.reverse_cons, numOf_snoc, numR_rev k i rs, numR, Int.mul_comm, Int.add_comm]
theorem numOf_rev (k : Kd) (i : Int) (f : List (List Int)) : numOf k f i = numR k.b f.reverse i := by rw [← numR_rev, List.reverse_reverse]
theorem dg_set {r : List Int} {i v : Int} (h0 : 0 ≤ i) (h1 : i < r.length) : dg (r.set i.toNat v) i = v := by
  unfold dg
  have : i.toNat < r.length := by omega
  simp [List.getD_eq_getElem?_getD, this]
theorem dg_ne {r : List Int} {i j v : Int} (h0 : 0 ≤ i) (hj : 0 ≤ j) (h : j ≠ i) : dg (r.set i.toNat v) j = dg r j := by
  unfold dg
  have : ¬ i.toNat = j.toNat := by omega
  simp [List.getD_eq_getElem?_getD, List.getElem?_set, this]
theorem div_mod (t b : Int) : b * (t / b) + t % b = t := Int.mul_ediv_add_emod t b
theorem numR_map (b : Int) {i j : Int} : ∀ {f g : List (List Int)}, g.map (fun r => dg r i) = f.map (fun r => dg r j) → numR b g i = numR b f j
  | [], [], _ => rfl
  | [], _ :: _, h => by simp at h
  | _ :: _, [], h => by simp at h
  | r :: f, s :: g, h => by
    simp at h
    simp only [numR, h.1, numR_map b h.2]
theorem numR_bd {k : Kd} (hk : OkK k) {i : Int} (h0 : 0 ≤ i) (h1 : i < k.d) : ∀ {f : List (List Int)}, OkF k f → 0 ≤ numR k.b f i ∧ numR k.b f i < k.b ^ f.length
  | [], _ => by simp [numR]
  | r :: f, hf => by
    obtain ⟨a, b⟩ := numR_bd hk h0 h1 (f := f) (fun s hs => hf s (by simp [hs]))
    obtain ⟨c, d⟩ := getD_bd (hf r (by simp)) h0 h1
    have b1 := hk.b1
    have e0 : 0 ≤ k.b * numR k.b f i := Int.mul_nonneg (by omega) a
    have e1 : k.b * numR k.b f i ≤ k.b * (k.b ^ f.length - 1) := Int.mul_le_mul_of_nonneg_left (by omega) (by omega)
    rw [Int.mul_sub, Int.mul_one] at e1
    simp only [numR, List.length_cons, Int.pow_succ]
    rw [Int.mul_comm (k.b ^ f.length) k.b]
    omega
theorem okF_rev {k : Kd} {f : List (List Int)} (h : OkF k f) : OkF k f.reverse := fun r hr => h r (by simpa using hr)
theorem numOf_bd {k : Kd} (hk : OkK k) {i : Int} (h0 : 0 ≤ i) (h1 : i < k.d) {f : List (List Int)} (hf : OkF k f) : 0 ≤ numOf k f i ∧ numOf k f i < k.b ^ f.length := by
  rw [numOf_rev]
  have := numR_bd hk h0 h1 (okF_rev hf)
  rwa [List.length_reverse] at this

/-! ### walks from the right -/
/-- sums, products, one more, along, differences: with what is carried all is there -/
def due (b : Int) (w : Wd) (x mine other : Int) : Int := match w with
  | .add => mine + other
  | .times => mine * x
  | .left => mine * b
  | .less => mine - other
  | _ => mine
/-- what a note is worth -/
def sg (w : Wd) : Int := if w = .less then -1 else 1
theorem less_div {t b : Int} (h0 : 0 < b) (h1 : -b ≤ t) (h2 : t < b) : t / b = -(if t < 0 then 1 else 0) := by
  by_cases h : t < 0
  · rw [if_pos h]
    have e1 := Int.ediv_lt_of_lt_mul h0 (show t < 0 * b by omega)
    have e2 := Int.le_ediv_of_mul_le h0 (show (-1) * b ≤ t by omega)
    omega
  · rw [if_neg h, Int.ediv_eq_zero_of_lt (by omega) h2]; rfl
theorem wrk_num {k : Kd} {p : Pl} {r : List Int} {n : Int} (hk : OkK k) (hp : OkPl k p) (hr : OkR k r) (h0 : 0 ≤ n) (h1 : n < width k p) (hw : p.w = .add ∨ p.w = .times ∨ p.w = .more ∨ p.w = .left ∨ p.w = .less) :
    dg (wrk k p r n).1 p.i + k.b * (sg p.w * (wrk k p r n).2) = due k.b p.w p.x (dg r p.i) (dg r p.x) + sg p.w * n := by
  obtain ⟨g1, g2, g3⟩ := id hp
  have hi : p.i < r.length := by rw [hr.1]; exact g2
  have b1 := hk.b1
  have m := getD_bd hr g1 g2
  obtain ⟨w, i, x⟩ := p
  simp only at hw g1 g2 g3 hi m
  rcases hw with rfl | rfl | rfl | rfl | rfl
  · simp only [wrk, Wd.tri, due, sg]
    simp
    rw [dg_set g1 hi]
    simp only [wrk2]
    have := div_mod (dg r i + dg r x + n) k.b
    omega
  · simp only [wrk, due, sg]
    simp
    rw [dg_set g1 hi]
    simp only [wrk1]
    have := div_mod (dg r i * x + n) k.b
    omega
  · simp only [wrk, Wd.tri, due, sg]
    simp
    rw [dg_set g1 hi]
    simp only [wrk1]
    have := div_mod (dg r i + n) k.b
    omega
  · simp only [wrk, Wd.tri, due, sg]
    simp
    rw [dg_set g1 hi]
    simp only [wrk1]
    rw [Int.mul_comm]; omega
  · simp only [wrk, Wd.tri, due, sg]
    simp
    rw [dg_set g1 hi]
    simp only [wrk2]
    have o := getD_bd hr g3.1 g3.2
    simp only [width] at h1
    have e := less_div (t := dg r i - dg r x - n) (b := k.b) (by omega) (by omega) (by omega)
    have := div_mod (dg r i - dg r x - n) k.b
    rw [e] at this
    omega
theorem goR_num {k : Kd} {p : Pl} (hk : OkK k) (hp : OkPl k p) (hw : p.w = .add ∨ p.w = .times ∨ p.w = .more ∨ p.w = .left ∨ p.w = .less) : ∀ (rs : List (List Int)) (n : Int), OkF k rs → 0 ≤ n → n < width k p →
    numR k.b (goR k p rs n).1 p.i + sg p.w * (goR k p rs n).2 * k.b ^ rs.length = due k.b p.w p.x (numR k.b rs p.i) (numR k.b rs p.x) + sg p.w * n
  | [], n, _, _, _ => by
    rcases hw with z | z | z | z | z <;> simp [goR, numR, due, z]
  | r :: rs, n, hf, h0, h1 => by
    have hr := hf r (by simp)
    obtain ⟨_, a2, a3⟩ := wrk_ok hk hp hr h0 h1
    have ih := goR_num hk hp hw rs (wrk k p r n).2 (fun s hs => hf s (by simp [hs])) a2 a3
    have hd := wrk_num hk hp hr h0 h1 hw
    simp only [goR, numR, List.length_cons, Int.pow_succ]
    have e : due k.b p.w p.x (dg r p.i + k.b * numR k.b rs p.i) (dg r p.x + k.b * numR k.b rs p.x) = due k.b p.w p.x (dg r p.i) (dg r p.x) + k.b * due k.b p.w p.x (numR k.b rs p.i) (numR k.b rs p.x) := by
      rcases hw with z | z | z | z | z <;> simp only [due, z]
      · rw [Int.mul_add]; omega
      · rw [Int.add_mul, Int.mul_assoc]
      · rw [Int.add_mul, Int.mul_assoc]
      · rw [Int.mul_sub]; omega
    rw [e]
    have e2 := congrArg (fun t => k.b * t) ih
    simp only [Int.mul_add] at e2
    rw [show sg p.w * (goR k p rs (wrk k p r n).2).2 * (k.b ^ rs.length * k.b) = k.b * (sg p.w * (goR k p rs (wrk k p r n).2).2 * k.b ^ rs.length) by rw [← Int.mul_assoc, Int.mul_comm]]
    omega
/-- the fields that are not changed -/
theorem wrk_keep {k : Kd} {p : Pl} {r : List Int} {n j : Int} (h0 : 0 ≤ p.i) (hj : 0 ≤ j) (h : j ≠ p.i) (hs : p.w ≠ .swap) : dg (wrk k p r n).1 j = dg r j := by
  unfold wrk
  simp only [hs, if_false]
  split
  · exact dg_ne h0 hj h
  · exact dg_ne h0 hj h
theorem goR_at {k : Kd} {p : Pl} {i j : Int} (h : ∀ r n, OkR k r → dg (wrk k p r n).1 i = dg r j) : ∀ (rs : List (List Int)) (n : Int), OkF k rs → (goR k p rs n).1.map (fun r => dg r i) = rs.map (fun r => dg r j)
  | [], _, _ => rfl
  | r :: rs, n, hf => by simp only [goR, List.map_cons, h r n (hf r (by simp)), goR_at h rs _ (fun s hs => hf s (by simp [hs]))]
theorem walk_at {k : Kd} {p : Pl} {i j : Int} {f : List (List Int)} (hf : OkF k f) (h : ∀ r n, OkR k r → dg (wrk k p r n).1 i = dg r j) : numOf k (walk k p f).1 i = numOf k f j := by
  rw [numOf_rev, numOf_rev]
  apply numR_map
  unfold walk
  cases fromLeft p with
  | true => simp only [List.map_reverse, goR_at h f _ hf]
  | false => simp only [List.reverse_reverse]; exact goR_at h f.reverse _ (okF_rev hf)
/-- a field's nines -/
theorem goR_nines {k : Kd} {p : Pl} (hk : OkK k) (hp : OkPl k p) (hw : p.w = .nines) : ∀ (rs : List (List Int)) (n : Int), OkF k rs → numR k.b (goR k p rs n).1 p.i = k.b ^ rs.length - 1 - numR k.b rs p.i
  | [], _, _ => by simp [goR, numR]
  | r :: rs, n, hf => by
    have ih := goR_nines hk hp hw rs (wrk k p r n).2 (fun s hs => hf s (by simp [hs]))
    have hr := hf r (by simp)
    obtain ⟨g1, g2, g3⟩ := id hp
    have hi : p.i < r.length := by rw [hr.1]; exact g2
    have e : dg (wrk k p r n).1 p.i = k.b - 1 - dg r p.i := by
      obtain ⟨w, i, x⟩ := p
      simp only at hw; subst hw
      simp only [wrk, Wd.tri]
      simp
      rw [dg_set g1 hi]; rfl
    simp only [goR, numR, List.length_cons, Int.pow_succ, e, ih]
    rw [Int.mul_sub, Int.mul_sub, Int.mul_one, Int.mul_comm (k.b ^ rs.length) k.b]
    omega
theorem goR_zero {k : Kd} {p : Pl} (hw : p.w = .copy ∨ p.w = .swap ∨ p.w = .nines) : ∀ (rs : List (List Int)), (goR k p rs 0).2 = 0
  | [] => rfl
  | r :: rs => by
    have e : (wrk k p r 0).2 = 0 := by
      obtain ⟨w, i, x⟩ := p
      simp only at hw
      rcases hw with rfl | rfl | rfl <;> simp [wrk, wrk1, wrk2, Wd.tri]
    simp only [goR, e, goR_zero hw rs]

/-! ### walks from the left -/
theorem rev_ind {α : Type} {C : List α → Prop} (l : List α) (h0 : C []) (h1 : ∀ l a, C l → C (l ++ [a])) : C l := by
  have : ∀ m : List α, C m.reverse := by
    intro m
    induction m with
    | nil => exact h0
    | cons a m ih => rw [List.reverse_cons]; exact h1 _ _ ih
  have := this l.reverse
  rwa [List.reverse_reverse] at this
theorem okF_init {k : Kd} {f : List (List Int)} {r : List Int} (h : OkF k (f ++ [r])) : OkF k f ∧ OkR k r := ⟨fun s hs => h s (by simp [hs]), h r (by simp)⟩
/-- what parts go by -/
def by_ (k : Kd) (p : Pl) : Int := if p.w = .part then p.x else k.b
theorem goL_part {k : Kd} {p : Pl} (hk : OkK k) (hp : OkPl k p) (hw : p.w = .part ∨ p.w = .right) (f : List (List Int)) : OkF k f →
    by_ k p * numOf k (goR k p f 0).1 p.i + (goR k p f 0).2 = numOf k f p.i := by
  refine rev_ind (C := fun f => OkF k f → by_ k p * numOf k (goR k p f 0).1 p.i + (goR k p f 0).2 = numOf k f p.i) f (fun _ => by simp [goR, numOf]) fun f r ih h => ?_
  obtain ⟨hf, hr⟩ := okF_init h
  have ih := ih hf
  obtain ⟨n0, n1⟩ := first_ok hk hp
  have nz : firstNote p = 0 := by rcases hw with z | z <;> simp [firstNote, z]
  rw [nz] at n0 n1
  obtain ⟨_, a2, a3⟩ := goR_ok hk hp f 0 hf n0 n1
  obtain ⟨g1, g2, g3⟩ := id hp
  have hi : p.i < r.length := by rw [hr.1]; exact g2
  rw [goR_snoc]
  simp only
  rw [numOf_snoc, numOf_snoc]
  generalize (goR k p f 0).2 = n at *
  generalize numOf k (goR k p f 0).1 p.i = N at *
  have e : by_ k p * dg (wrk k p r n).1 p.i + (wrk k p r n).2 = n * k.b + dg r p.i := by
    obtain ⟨w, i, x⟩ := p
    simp only at hw g1 g2 g3 hi
    rcases hw with rfl | rfl
    · simp only [wrk, by_]
      simp
      rw [dg_set g1 hi]
      simp only [wrk1]
      exact div_mod _ _
    · simp only [wrk, by_, Wd.tri]
      simp
      rw [dg_set g1 hi]
      simp only [wrk1]
      rw [Int.mul_comm]
  rw [Int.mul_add, ← Int.mul_assoc, ← ih, Int.add_mul]
  omega
theorem goL_greater {k : Kd} {p : Pl} (hk : OkK k) (hp : OkPl k p) (hw : p.w = .greater) (f : List (List Int)) : OkF k f →
    numOf k (goR k p f 0).1 p.i = max (numOf k f p.i) (numOf k f p.x) ∧ (goR k p f 0).2 = (if numOf k f p.i = numOf k f p.x then 0 else if numOf k f p.i > numOf k f p.x then 1 else 2) := by
  refine rev_ind (C := fun f => OkF k f → numOf k (goR k p f 0).1 p.i = max (numOf k f p.i) (numOf k f p.x) ∧ (goR k p f 0).2 = (if numOf k f p.i = numOf k f p.x then 0 else if numOf k f p.i > numOf k f p.x then 1 else 2)) f (fun _ => by simp [goR, numOf]) fun f r ih h => ?_
  obtain ⟨hf, hr⟩ := okF_init h
  obtain ⟨ih1, ih2⟩ := ih hf
  obtain ⟨g1, g2, g3⟩ := id hp
  obtain ⟨w, i, x⟩ := p
  simp only at hw g1 g2 g3 ih1 ih2; subst hw
  simp only at g3
  have hi : i < r.length := by rw [hr.1]; exact g2
  have b1 := hk.b1
  have m := getD_bd hr g1 g2
  have o := getD_bd hr g3.1 g3.2
  rw [goR_snoc]
  simp only
  rw [numOf_snoc, numOf_snoc, numOf_snoc]
  have e : wrk k ⟨.greater, i, x⟩ r (goR k ⟨.greater, i, x⟩ f 0).2 = (r.set i.toNat (wrk2 k.b .greater (dg r i) (dg r x) (goR k ⟨.greater, i, x⟩ f 0).2).1, (wrk2 k.b .greater (dg r i) (dg r x) (goR k ⟨.greater, i, x⟩ f 0).2).2) := by
    simp [wrk, Wd.tri]
  rw [e]
  simp only
  rw [dg_set g1 hi, ih1]
  rw [ih2]
  generalize numOf k f i = A at *
  generalize numOf k f x = B at *
  rcases Int.lt_trichotomy A B with c | c | c
  · have e1 : (A + 1) * k.b ≤ B * k.b := Int.mul_le_mul_of_nonneg_right (by omega) (by omega)
    rw [Int.add_mul, Int.one_mul] at e1
    have c1 : ¬ A = B := by omega
    have c2 : ¬ A > B := by omega
    have c3 : max A B = B := by omega
    have c4 : ¬ (A * k.b + dg r i = B * k.b + dg r x) := by omega
    have c5 : ¬ (A * k.b + dg r i > B * k.b + dg r x) := by omega
    have c6 : max (A * k.b + dg r i) (B * k.b + dg r x) = B * k.b + dg r x := by omega
    rw [c3, c6, if_neg c1, if_neg c2, if_neg c4, if_neg c5]
    simp [wrk2]
  · subst c
    have c3 : max A A = A := by omega
    rw [c3, if_pos rfl]
    by_cases d : dg r i = dg r x
    · simp [wrk2, d]
    · by_cases d2 : dg r x < dg r i
      · have c6 : max (A * k.b + dg r i) (A * k.b + dg r x) = A * k.b + dg r i := by omega
        rw [c6, if_neg (by omega), if_pos (by omega)]
        simp [wrk2, d, d2]
      · have c6 : max (A * k.b + dg r i) (A * k.b + dg r x) = A * k.b + dg r x := by omega
        rw [c6, if_neg (by omega), if_neg (by omega)]
        simp [wrk2, d, d2]
  · have e1 : (B + 1) * k.b ≤ A * k.b := Int.mul_le_mul_of_nonneg_right (by omega) (by omega)
    rw [Int.add_mul, Int.one_mul] at e1
    have c1 : ¬ A = B := by omega
    have c3 : max A B = A := by omega
    have c4 : ¬ (A * k.b + dg r i = B * k.b + dg r x) := by omega
    have c6 : max (A * k.b + dg r i) (B * k.b + dg r x) = A * k.b + dg r i := by omega
    rw [c3, c6, if_neg c1, if_pos c, if_neg c4, if_pos (by omega)]
    simp [wrk2]

/-! ### all at once -/
def numsI (k : Kd) (f : List (List Int)) : List Int := (List.range k.d.toNat).map fun (i : Nat) => numOf k f (i : Int)
theorem numsI_len (k : Kd) (f : List (List Int)) : (numsI k f).length = k.d.toNat := by simp [numsI]
theorem dg_nums {k : Kd} {f : List (List Int)} {i : Int} (h0 : 0 ≤ i) (h1 : i < k.d) : dg (numsI k f) i = numOf k f i := by
  unfold dg numsI
  have : i.toNat < k.d.toNat := by omega
  simp [List.getD_eq_getElem?_getD, this]
  congr 1; omega
theorem dg_ext {a b : List Int} (h : a.length = b.length) (e : ∀ i : Int, 0 ≤ i → i < a.length → dg a i = dg b i) : a = b := by
  apply List.ext_getElem h
  intro i h1 h2
  have := e i (by omega) (by omega)
  simpa [dg, List.getD_eq_getElem?_getD, h1, h2] using this
/-- a plain step by the numbers: (the numbers, the last note) -/
def reck (k : Kd) (p : Pl) (ns : List Int) (z : Int) : List Int × Int :=
  let m := dg ns p.i
  let o := dg ns p.x
  match p.w with
  | .add => (ns.set p.i.toNat ((m + o) % z), (m + o) / z)
  | .times => (ns.set p.i.toNat ((m * p.x) % z), (m * p.x) / z)
  | .more => (ns.set p.i.toNat ((m + 1) % z), (m + 1) / z)
  | .left => (ns.set p.i.toNat ((m * k.b) % z), (m * k.b) / z)
  | .less => (ns.set p.i.toNat ((m - o) % z), if m < o then 1 else 0)
  | .part => (ns.set p.i.toNat (m / p.x), m % p.x)
  | .right => (ns.set p.i.toNat (m / k.b), m % k.b)
  | .greater => (ns.set p.i.toNat (max m o), if m = o then 0 else if m > o then 1 else 2)
  | .copy => (ns.set p.i.toNat o, 0)
  | .nines => (ns.set p.i.toNat (z - 1 - m), 0)
  | .swap => ((ns.set p.i.toNat o).set p.x.toNat m, 0)
theorem qr {N n z t : Int} (h0 : 0 ≤ N) (h1 : N < z) (h : N + n * z = t) : N = t % z ∧ n = t / z := by
  subst h
  have hz : z ≠ 0 := by omega
  rw [Int.add_mul_emod_self_right, Int.add_mul_ediv_right _ _ hz, Int.emod_eq_of_lt h0 h1, Int.ediv_eq_zero_of_lt h0 h1]
  omega
theorem reck_one {k : Kd} {p : Pl} {f : List (List Int)} {v : Int} (hp : OkPl k p) (hs : p.w ≠ .swap) (hf : OkF k f) (h : numOf k (walk k p f).1 p.i = v) : numsI k (walk k p f).1 = (numsI k f).set p.i.toNat v := by
  obtain ⟨g1, g2, _⟩ := id hp
  refine dg_ext (by simp [numsI_len]) fun i i0 i1 => ?_
  rw [numsI_len] at i1
  rw [dg_nums i0 (by omega)]
  by_cases e : i = p.i
  · subst e
    rw [h, dg_set g1 (by rw [numsI_len]; omega)]
  · rw [dg_ne g1 i0 e, dg_nums i0 (by omega)]
    exact walk_at hf fun r n _ => wrk_keep g1 i0 e hs
theorem walk_right_eq {k : Kd} {p : Pl} (h : fromLeft p = false) (f : List (List Int)) : walk k p f = ((goR k p f.reverse (firstNote p)).1.reverse, (goR k p f.reverse (firstNote p)).2) := by
  unfold walk; rw [h]
theorem walk_left_eq {k : Kd} {p : Pl} (h : fromLeft p = true) (f : List (List Int)) : walk k p f = goR k p f (firstNote p) := by
  unfold walk; rw [h]
theorem reck_walk {k : Kd} {p : Pl} {f : List (List Int)} (hk : OkK k) (hp : OkPl k p) (hf : OkF k f) : (numsI k (walk k p f).1, (walk k p f).2) = reck k p (numsI k f) (k.b ^ f.length) := by
  obtain ⟨g1, g2, g3⟩ := id hp
  obtain ⟨wf, wl, _⟩ := walk_ok hk hp hf
  have bd := numOf_bd hk g1 g2 wf
  rw [wl] at bd
  have bf := numOf_bd hk g1 g2 hf
  -- sums
  have sums : ∀ t : Int, (p.w = .add ∨ p.w = .times ∨ p.w = .more ∨ p.w = .left) → due k.b p.w p.x (numOf k f p.i) (numOf k f p.x) + firstNote p = t →
      (numsI k (walk k p f).1, (walk k p f).2) = ((numsI k f).set p.i.toNat (t % k.b ^ f.length), t / k.b ^ f.length) := by
    intro t hw ht
    have hl : fromLeft p = false := by rcases hw with z | z | z | z <;> simp [fromLeft, z]
    have hsg : sg p.w = 1 := by rcases hw with z | z | z | z <;> simp [sg, z]
    have hsw : p.w ≠ .swap := by rcases hw with z | z | z | z <;> simp [z]
    obtain ⟨n0, n1⟩ := first_ok hk hp
    have h := goR_num hk hp (by rcases hw with z | z | z | z <;> simp [z]) f.reverse (firstNote p) (okF_rev hf) n0 n1
    rw [hsg, Int.one_mul, Int.one_mul, ← numOf_rev, ← numOf_rev, ht, List.length_reverse, ← numR_rev] at h
    have e1 : numOf k (walk k p f).1 p.i = numOf k (goR k p f.reverse (firstNote p)).1.reverse p.i := by rw [walk_right_eq hl]
    have e2 : (walk k p f).2 = (goR k p f.reverse (firstNote p)).2 := by rw [walk_right_eq hl]
    rw [← e1, ← e2] at h
    obtain ⟨q1, q2⟩ := qr bd.1 bd.2 h
    rw [reck_one hp hsw hf q1, q2]
  have parts : ∀ x : Int, (p.w = .part ∨ p.w = .right) → by_ k p = x → (numsI k (walk k p f).1, (walk k p f).2) = ((numsI k f).set p.i.toNat (numOf k f p.i / x), numOf k f p.i % x) := by
    intro x hw hx
    have hl : fromLeft p = true := by rcases hw with z | z <;> simp [fromLeft, z]
    have hn : firstNote p = 0 := by rcases hw with z | z <;> simp [firstNote, z]
    have hsw : p.w ≠ .swap := by rcases hw with z | z <;> simp [z]
    have h := goL_part hk hp hw f hf
    obtain ⟨_, _, a2, a3⟩ := walk_ok hk hp hf
    have hwd : width k p = x := by rw [← hx]; rcases hw with z | z <;> simp [width, by_, z]
    rw [hwd] at a3
    have e1 : walk k p f = goR k p f 0 := by rw [walk_left_eq hl, hn]
    rw [← e1, hx] at h
    have h' : (walk k p f).2 + numOf k (walk k p f).1 p.i * x = numOf k f p.i := by rw [Int.mul_comm]; omega
    obtain ⟨q1, q2⟩ := qr a2 a3 h'
    rw [reck_one hp hsw hf q2, q1]
  have hm : dg (numsI k f) p.i = numOf k f p.i := dg_nums g1 g2
  obtain ⟨w, i, x⟩ := p
  simp only at g1 g2 g3 sums parts hm bd bf
  cases w <;> simp only at g3
  · have ho : dg (numsI k f) x = numOf k f x := dg_nums g3.1 g3.2
    rw [sums _ (by simp) rfl]
    simp [reck, due, firstNote, hm, ho]
  · have ho : dg (numsI k f) x = numOf k f x := dg_nums g3.1 g3.2
    have bo := numOf_bd hk g3.1 g3.2 hf
    obtain ⟨n0, n1⟩ := first_ok hk hp
    have h := goR_num hk hp (by simp) f.reverse (firstNote ⟨.less, i, x⟩) (okF_rev hf) n0 n1
    rw [← numOf_rev, ← numOf_rev, List.length_reverse, ← numR_rev] at h
    have e1 : walk k ⟨.less, i, x⟩ f = ((goR k ⟨.less, i, x⟩ f.reverse (firstNote ⟨.less, i, x⟩)).1.reverse, (goR k ⟨.less, i, x⟩ f.reverse (firstNote ⟨.less, i, x⟩)).2) := walk_right_eq rfl f
    rw [show (goR k ⟨.less, i, x⟩ f.reverse (firstNote ⟨.less, i, x⟩)).1.reverse = (walk k ⟨.less, i, x⟩ f).1 by rw [e1], show (goR k ⟨.less, i, x⟩ f.reverse (firstNote ⟨.less, i, x⟩)).2 = (walk k ⟨.less, i, x⟩ f).2 by rw [e1]] at h
    simp only [sg, due, firstNote] at h
    simp at h
    have h' : numOf k (walk k ⟨.less, i, x⟩ f).1 i + (-(walk k ⟨.less, i, x⟩ f).2) * k.b ^ f.length = numOf k f i - numOf k f x := by rw [← h, Int.neg_mul]
    obtain ⟨q1, q2⟩ := qr bd.1 bd.2 h'
    have hb : 0 < k.b ^ f.length := by omega
    rw [less_div hb (by omega) (by omega)] at q2
    rw [reck_one hp (by simp) hf q1]
    simp only [reck, hm, ho]
    congr 1
    split at q2 <;> split <;> omega
  · rw [sums _ (by simp) rfl]
    simp [reck, due, firstNote, hm]
  · rw [parts x (by simp) (by simp [by_])]
    simp [reck, hm]
  · have ho : dg (numsI k f) x = numOf k f x := dg_nums g3.1 g3.2
    obtain ⟨h1, h2⟩ := goL_greater hk hp rfl f hf
    have e1 : walk k ⟨.greater, i, x⟩ f = goR k ⟨.greater, i, x⟩ f 0 := by rw [walk_left_eq rfl]; simp [firstNote]
    rw [← e1] at h1 h2
    simp only at h1 h2
    rw [reck_one hp (by simp) hf h1, h2]
    simp [reck, hm, ho]
  · have ho : dg (numsI k f) x = numOf k f x := dg_nums g3.1 g3.2
    have h1 : numOf k (walk k ⟨.copy, i, x⟩ f).1 i = numOf k f x := walk_at hf fun r n hr => by
      simp [wrk, wrk2, Wd.tri]
      rw [dg_set g1 (by rw [hr.1]; exact g2)]
    rw [reck_one hp (by simp) hf h1, walk_right_eq rfl]
    have := goR_zero (k := k) (p := ⟨.copy, i, x⟩) (by simp) f.reverse
    simp [reck, ho, firstNote, this]
  · have ho : dg (numsI k f) x = numOf k f x := dg_nums g3.1 g3.2
    have hz : (walk k ⟨.swap, i, x⟩ f).2 = 0 := by
      rw [walk_right_eq rfl]
      have := goR_zero (k := k) (p := ⟨.swap, i, x⟩) (by simp) f.reverse
      simpa [firstNote] using this
    rw [hz]
    simp only [reck, hm, ho]
    congr 1
    refine dg_ext (by simp [numsI_len]) fun j j0 j1 => ?_
    rw [numsI_len] at j1
    rw [dg_nums j0 (by omega)]
    have hrl : ∀ {r : List Int}, OkR k r → i < r.length ∧ x < r.length := fun {r} hr => by rw [hr.1]; exact ⟨g2, g3.2⟩
    by_cases e : j = x
    · subst e
      rw [dg_set j0 (by simp [numsI_len]; omega)]
      exact walk_at hf fun r n hr => by
        simp [wrk, Wd.tri]
        rw [dg_set j0 (by simp; exact (hrl hr).2)]
    · rw [dg_ne g3.1 j0 e]
      by_cases e2 : j = i
      · subst e2
        rw [dg_set j0 (by rw [numsI_len]; omega)]
        exact walk_at hf fun r n hr => by
          simp [wrk, Wd.tri]
          rw [dg_ne g3.1 j0 e, dg_set j0 (hrl hr).1]
      · rw [dg_ne g1 j0 e2, dg_nums j0 (by omega)]
        exact walk_at hf fun r n hr => by
          simp [wrk, Wd.tri]
          rw [dg_ne g3.1 j0 e, dg_ne g1 j0 e2]
  · rw [sums _ (by simp) rfl]
    simp [reck, due, firstNote, hm]
  · have h1 : numOf k (walk k ⟨.nines, i, x⟩ f).1 i = k.b ^ f.length - 1 - numOf k f i := by
      have := goR_nines hk hp rfl f.reverse 0 (okF_rev hf)
      rw [← numR_rev, List.length_reverse, ← numOf_rev] at this
      rw [walk_right_eq rfl]
      simpa [firstNote] using this
    rw [reck_one hp (by simp) hf h1, walk_right_eq rfl]
    have := goR_zero (k := k) (p := ⟨.nines, i, x⟩) (by simp) f.reverse
    simp [reck, hm, firstNote, this]
  · rw [sums _ (by simp) rfl]
    simp [reck, due, firstNote, hm]
  · rw [parts k.b (by simp) (by simp [by_])]
    simp [reck, hm]
/-- the frame of so many rods with some numbers -/
def frameOf (b : Int) : List Int → Nat → List (List Int)
  | _, 0 => []
  | ns, n + 1 => frameOf b (ns.map (· / b)) n ++ [ns.map (· % b)]
theorem nums_snoc {k : Kd} (hk : OkK k) {f : List (List Int)} {r : List Int} (hr : OkR k r) : (numsI k (f ++ [r])).map (· / k.b) = numsI k f ∧ (numsI k (f ++ [r])).map (· % k.b) = r := by
  have b1 := hk.b1
  have d1 := hk.d1
  have hl := hr.1
  constructor
  · simp only [numsI, List.map_map]
    apply List.map_congr_left
    intro i hi
    rw [List.mem_range] at hi
    have := getD_bd hr (i := (i : Int)) (by omega) (by omega)
    simp only [Function.comp]
    rw [numOf_snoc, Int.add_comm, Int.add_mul_ediv_right _ _ (by omega), Int.ediv_eq_zero_of_lt this.1 this.2, Int.zero_add]
  · refine dg_ext (by simp [numsI]; omega) fun i i0 i1 => ?_
    simp [numsI] at i1
    have := getD_bd hr (i := i) (by omega) (by omega)
    have e : dg ((numsI k (f ++ [r])).map (· % k.b)) i = numOf k (f ++ [r]) i % k.b := by
      unfold dg numsI
      have h : i.toNat < k.d.toNat := by omega
      simp [List.getD_eq_getElem?_getD, h]
      rw [show max i 0 = i by omega]
    rw [e, numOf_snoc, Int.add_comm, Int.add_mul_emod_self_right, Int.emod_eq_of_lt this.1 this.2]
theorem frameOf_nums {k : Kd} (hk : OkK k) (f : List (List Int)) : OkF k f → frameOf k.b (numsI k f) f.length = f := by
  refine rev_ind (C := fun f => OkF k f → frameOf k.b (numsI k f) f.length = f) f (fun _ => rfl) fun f r ih h => ?_
  obtain ⟨hf, hr⟩ := okF_init h
  obtain ⟨a, b⟩ := nums_snoc hk (f := f) hr
  rw [List.length_append]
  show frameOf k.b _ (f.length + 1) = _
  rw [frameOf, a, b, ih hf]
end Mi

set_option maxHeartbeats 1000000
/-! D2: powers by halves, frames of numbers. -/
namespace Mi
open PySem PySem.Spec PyProof.Rows L2
/-! _law_raised(base, many) -/
def N_l_law_raised : List Str := ["base", "many", "half"]
def b_l_law_raised : Ss := (.cons (.asg 2 (.ite (.cmp .Lt (.var 1) (.cst (.int 2))) (.cst (.int 1)) (.call "_law_raised" (.cons (.var 0) (.cons (.bin .FloorDiv (.var 1) (.cst (.int 2))) .nil)))))
    (.cons (.ret (.ite (.cmp .Eq (.var 1) (.cst (.int 0))) (.cst (.int 1)) (.ite (.cmp .Eq (.var 1) (.cst (.int 1))) (.var 0) (.bin .Mult (.bin .Mult (.var 2) (.var 2)) (.ite (.cmp .Eq (.bin .Mod (.var 1) (.cst (.int 2))) (.cst (.int 1))) (.var 0) (.cst (.int 1)))))))
    .nil))
def g_l_law_raised (S : Spec) : Kn := kn [("_law_raised", S)] [] []
@[simp ↓] theorem g_l_law_raised_l_law_raised (S : Spec) : (g_l_law_raised S).fn "_law_raised" = some S := by kernel_rfl

def sp_l_law_raised (n : Nat) : Spec := pur (fun (a : Int × Int) => [.int a.1, .int a.2]) (fun a => 2 ≤ a.1 ∧ a.1 ≤ 10 ∧ 1 ≤ n ∧ n ≤ 8 ∧ 0 ≤ a.2 ∧ a.2 < 2 ^ n) (fun a => .val (.int (a.1 ^ a.2.toNat)))
theorem raised_go {n : Nat} {M : MH} {X : PX} {P : PE_} {ρ : Env} {b m : Int} (h1 : 2 ≤ b) (h2 : b ≤ 10) (h3 : 1 ≤ n) (h4 : n ≤ 8) (h5 : 0 ≤ m) (h6 : m < 2 ^ n) : callS (sp_l_law_raised n) [.int b, .int m] M X P ρ = P (.val (.int (b ^ m.toNat))) ρ M :=
  callS_pur (b, m) rfl ⟨h1, h2, h3, h4, h5, h6⟩ (by rintro ⟨a, c⟩ h; simp at h; obtain ⟨rfl, rfl⟩ := h; rfl)
theorem k0_l_law_raised : Keeps (kn [] [] []) N_l_law_raised.length 2 b_l_law_raised (sp_l_law_raised 0) := by
  rintro ds M Q X ⟨⟨b, m⟩, rfl, ⟨_, _, h, _⟩, hQ⟩
  exact absurd h (by omega)
theorem pow_log {b : Int} (h1 : 2 ≤ b) (h2 : b ≤ 10) (m : Nat) : (b ^ m).natAbs.log2 ≤ 4 * m := by
  have e1 : (b ^ m).natAbs ≤ 16 ^ m := by
    rw [Int.natAbs_pow]
    exact Nat.pow_le_pow_left (by omega) m
  have e2 : (16 : Nat) ^ m = 2 ^ (4 * m) := by rw [Nat.pow_mul]
  have e0 : (b ^ m).natAbs ≠ 0 := by
    have := Int.pow_pos (n := b) (m := m) (by omega)
    omega
  have := (Nat.log2_lt e0 (k := 4 * m + 1)).mpr (by rw [Nat.pow_succ]; omega)
  omega
theorem pow_half (b : Int) (m : Int) (h : 0 ≤ m) : b ^ (m / 2).toNat * b ^ (m / 2).toNat * (if m % 2 = 1 then b else 1) = b ^ m.toNat := by
  rw [← Int.pow_add]
  by_cases c : m % 2 = 1
  · rw [if_pos c, ← Int.pow_succ]
    congr 1; omega
  · rw [if_neg c, Int.mul_one]
    congr 1; omega
theorem k_l_law_raised (n : Nat) : Keeps (g_l_law_raised (sp_l_law_raised n)) N_l_law_raised.length 2 b_l_law_raised (sp_l_law_raised (n + 1)) := by
  rintro ds M Q X ⟨⟨b, m⟩, rfl, ⟨h1, h2, _, h4, h5, h6⟩, hQ⟩
  refine ⟨rfl, ?_⟩
  simp only at h1 h2 h4 h5 h6 hQ
  by_cases c : m < 2
  · have hm : m = 0 ∨ m = 1 := by omega
    rcases hm with rfl | rfl
    · simp [b_l_law_raised, startE, N_l_law_raised]; simpa using hQ
    · have e : b ^ (1 : Int).toNat = b := by show b ^ 1 = b; rw [Int.pow_succ, Int.pow_zero, Int.one_mul]
      rw [e] at hQ
      simp [b_l_law_raised, startE, N_l_law_raised]; exact hQ
  · have n1 : 1 ≤ n := by
      cases n with
      | zero => simp at h6; omega
      | succ n => omega
    have hp : (2 : Int) ^ (n + 1) = 2 * 2 ^ n := by rw [Int.pow_succ, Int.mul_comm]
    rw [hp] at h6
    have fd : binD .FloorDiv (.int m) (.int 2) = some (.val (.int (m / 2))) := fdiv_int ⟨by omega, by decide⟩
    have md : binD .Mod (.int m) (.int 2) = some (.val (.int (m % 2))) := mod_int (by omega)
    have c0 : ¬ m = 0 := by omega
    have c1 : ¬ m = 1 := by omega
    have n8 : (2 : Int) ^ n ≤ 2 ^ 8 := by
      have := Nat.pow_le_pow_right (n := 2) (by omega) (show n ≤ 8 by omega)
      have e : ((2 ^ n : Nat) : Int) ≤ ((2 ^ 8 : Nat) : Int) := Int.ofNat_le.mpr this
      simpa using e
    have l1 := pow_log h1 h2 (m / 2).toNat
    have m1 := mul_int (i := b ^ (m / 2).toNat) (j := b ^ (m / 2).toNat) (by
      unfold mulOk; exact decide_eq_true (.inr (.inr (by omega))))
    have m2 : ∀ t, binD .Mult (.int t) (.int b) = some (.val (.int (t * b))) := fun t => mul_int (mulOk_r (by omega) (by omega))
    have m3 : ∀ t, binD .Mult (.int t) (.int 1) = some (.val (.int (t * 1))) := fun t => mul_int (mulOk_r (by omega) (by omega))
    have hh := pow_half b m h5
    simp [b_l_law_raised, startE, N_l_law_raised, c, fd]
    rw [raised_go h1 h2 n1 (by omega) (by omega) (by omega)]
    by_cases d : m % 2 = 1
    · rw [if_pos d] at hh
      simp [c0, c1, m1, md, d, m2, hh]
      exact hQ
    · rw [if_neg d] at hh
      simp [c0, c1, m1, md, d, m3]
      rw [Int.mul_one] at hh
      rw [hh]; exact hQ
/-! _law_frame_of(kind, numbers, rods) -/
def N_l_law_frame_of : List Str := ["kind", "numbers", "rods", "found", "turn", "amount"]
def b_l_law_frame_of : Ss := (.cons (.asg 3 (.tup .nil))
    (.cons (.for_ (.var 4) (.rng (.cons (.var 2) .nil))
    (.cons (.asg 3 (.bin .Add (.tup (.cons (.bf .tuple (.lc (.bin .Mod (.var 5) (.idx (.var 0) (.cst (.int 0)))) (.cons (.var 5) (.seq (.var 1)) .nil .nil) [5])) .nil)) (.var 3)))
    (.cons (.asg 1 (.lc (.bin .FloorDiv (.var 5) (.idx (.var 0) (.cst (.int 0)))) (.cons (.var 5) (.seq (.var 1)) .nil .nil) [5]))
    .nil)))
    (.cons (.ret (.var 3))
    .nil)))
def g_l_law_frame_of : Kn := kn [] [] []

def sp_l_law_frame_of : Spec := pur (fun (a : Kd × List Int × Nat) => [kD a.1, .lst (a.2.1.map Dat.int), .int a.2.2]) (fun a => OkK a.1 ∧ a.2.1.length ≤ 3 ∧ a.2.2 ≤ 1000) (fun a => .val (frD (frameOf a.1.b a.2.1 a.2.2)))
/-- the first ones -/
def frameGo (b : Int) : List Int → Nat → List (List Int) × List Int
  | ns, 0 => ([], ns)
  | ns, n + 1 => ((frameGo b ns n).2.map (· % b) :: (frameGo b ns n).1, (frameGo b ns n).2.map (· / b))
theorem frameGo_shift (b : Int) : ∀ (n : Nat) (ns : List Int), frameGo b ns (n + 1) = ((frameGo b (ns.map (· / b)) n).1 ++ [ns.map (· % b)], (frameGo b (ns.map (· / b)) n).2)
  | 0, ns => by simp [frameGo]
  | n + 1, ns => by
    rw [frameGo, frameGo_shift b n ns]
    simp only [frameGo, List.cons_append]
theorem frameGo_eq (b : Int) : ∀ (n : Nat) (ns : List Int), (frameGo b ns n).1 = frameOf b ns n
  | 0, ns => rfl
  | n + 1, ns => by rw [frameGo_shift, frameOf, frameGo_eq b n]
theorem frameGo_len (b : Int) (ns : List Int) : ∀ n : Nat, (frameGo b ns n).1.length = n ∧ (frameGo b ns n).2.length = ns.length
  | 0 => ⟨rfl, rfl⟩
  | n + 1 => by
    obtain ⟨a, c⟩ := frameGo_len b ns n
    simp [frameGo, a, c]
/-- a place with a list -/
def HasL (s : Sl) (l : List Dat) : Prop := s = .val (.lst l) ∨ s = .own (.lst l)
theorem k_l_law_frame_of : Keeps g_l_law_frame_of N_l_law_frame_of.length 3 b_l_law_frame_of sp_l_law_frame_of := by
  rintro ds M Q X ⟨⟨k, ns, n⟩, rfl, ⟨hk, hl, hn⟩, hQ⟩
  refine ⟨rfl, ?_⟩
  simp only at hk hl hn hQ
  have b1 := hk.b1
  have b2 := hk.b2
  have md : ∀ t, binD .Mod (.int t) (.int k.b) = some (.val (.int (t % k.b))) := fun t => mod_int (by omega)
  have fd : ∀ t, binD .FloorDiv (.int t) (.int k.b) = some (.val (.int (t / k.b))) := fun t => fdiv_int ⟨by omega, by have := Nat.log2_le_self k.b.natAbs; omega⟩
  simp [b_l_law_frame_of, startE, N_l_law_frame_of, rngD]
  rw [if_pos (by omega)]
  simp
  refine forS_inv (fun ds ρ M' => M' = M ∧ ∃ (i m : Nat) (s x : Sl), ds = rngL i m ∧ i + m = n ∧ HasL s ((frameGo k.b ns i).2.map Dat.int) ∧ ρ = [.val (kD k), s, .val (.int n), .val (frD (frameGo k.b ns i).1), x, .no]) ⟨rfl, 0, n, _, .no, rfl, by omega, .inl rfl, rfl⟩ ?_ ?_
  · rintro ρ M' ⟨rfl, i, m, s, x, e1, e2, hs, rfl⟩
    obtain rfl := rngL_nil e1
    obtain rfl : i = n := by omega
    simp
    rw [frameGo_eq]
    exact hQ
  · rintro d ds ρ M' ⟨rfl, i, m, s, x, e1, e2, hs, rfl⟩
    obtain ⟨m', rfl, rfl, rfl⟩ := rngL_cons e1
    obtain ⟨l1, l2⟩ := frameGo_len k.b ns i
    have az : ∀ r, binD .Add (.tup [rodD r]) (frD (frameGo k.b ns i).1) = some (.val (frD (r :: (frameGo k.b ns i).1))) := by
      intro r
      unfold frD
      rw [add_tup (by simp [sizeLine_eq]; omega)]
      simp
    have az' := az ((frameGo k.b ns i).2.map (· % k.b))
    simp only [rodD, List.map_map] at az'
    rcases hs with rfl | rfl
    all_goals
      simp
      refine lcS_mapE (frameGo k.b ns i).2 Dat.int (fun t => .int (t % k.b)) rfl (by rw [sizeLine_eq]; omega) (by simp) ?_ ?_
      · intro t ht
        simp [wipeE, md]
      · simp [callD]
        have e : ((frameGo k.b ns i).2.map fun t => Dat.int (t % k.b)) = (frameGo k.b ns i).2.map (Dat.int ∘ fun x => x % k.b) := rfl
        rw [e, az']
        simp
        refine lcS_mapE (frameGo k.b ns i).2 Dat.int (fun t => .int (t / k.b)) rfl (by rw [sizeLine_eq]; omega) (by simp) ?_ ?_
        · intro t ht
          simp [wipeE, fd]
        · simp
          exact ⟨i + 1, m', by push_cast; rfl, by omega, _, .inr rfl, by simp [frameGo], rfl⟩
theorem frame_of_go {M : MH} {X : PX} {P : PE_} {ρ : Env} {k : Kd} {ns : List Int} {n : Nat} (hk : OkK k) (hl : ns.length ≤ 3) (hn : n ≤ 1000) : callS sp_l_law_frame_of [kD k, .lst (ns.map Dat.int), .int n] M X P ρ = P (.val (frD (frameOf k.b ns n))) ρ M :=
  callS_pur (k, ns, n) rfl ⟨hk, hl, hn⟩ (by
    rintro ⟨k', ns', n'⟩ h
    simp at h
    obtain ⟨g1, g2, g3⟩ := h
    obtain rfl := kD_eq g1
    obtain rfl := map_int_inj g2
    obtain rfl : n' = n := by omega
    rfl)
end Mi

set_option maxHeartbeats 2000000
/-! D3: a plain step by the numbers. -/
namespace Mi
open PySem PySem.Spec PyProof.Rows L2
theorem idx_ints {M : MH} {r : List Int} {i : Int} (h : 0 ≤ i) (h2 : i < r.length) : idxD M (.lst (r.map Dat.int)) (.int i) = some (.int (dg r i)) := by
  show L2.atI (r.map Dat.int) i = _
  unfold L2.atI ixN
  rw [if_pos h, if_pos (by simpa using h2)]
  have : i.toNat < r.length := by omega
  simp [dg, List.getElem?_eq_getElem this, List.getD_eq_getElem?_getD]
theorem idx_last {M : MH} (p : Pl) : idxD M (plD p) (.int (-1)) = some (.int (if p.w.tri then p.x else p.i)) := by
  obtain ⟨w, i, x⟩ := p; cases w <;> simp [plD, Wd.tri, L2.atI, ixN]
/-! _law_reckoned(kind, step, numbers, size) -/
def N_l_law_reckoned : List Str := ["kind", "step", "numbers", "size", "word", "one", "base", "mine", "yours", "total", "note", "found", "many"]
def b_l_law_reckoned : Ss := (.cons (.asgL [4, 5, 6] (.cons (.idx (.var 1) (.cst (.int 0))) (.cons (.idx (.var 1) (.cst (.int 1))) (.cons (.idx (.var 0) (.cst (.int 0))) .nil))))
    (.cons (.asgL [7, 8] (.cons (.idx (.var 2) (.var 5)) (.cons (.cst (.int 0)) .nil)))
    (.cons (.ife (.bop .And (.cons (.cmp .Eq (.bf .len (.var 1)) (.cst (.int 3))) (.cons (.cmp .NotIn (.var 4) (.tup (.cons (.cst (.str (wS 2))) (.cons (.cst (.str (wS 3))) .nil)))) .nil)))
    (.cons (.asg 8 (.idx (.var 2) (.idx (.var 1) (.cst (.int 2)))))
    .nil)
    .nil)
    (.cons (.asgL [9, 10] (.cons (.var 7) (.cons (.cst (.int 0)) .nil)))
    (.cons (.ife (.cmp .In (.var 4) (.tup (.cons (.cst (.str (wS 0))) (.cons (.cst (.str (wS 2))) (.cons (.cst (.str (wS 7))) (.cons (.cst (.str (wS 9))) .nil))))))
    (.cons (.asg 9 (.dgetE [(wS 0), (wS 7), (wS 9)] (.cons (.bin .Add (.var 7) (.var 8)) (.cons (.bin .Add (.var 7) (.cst (.int 1))) (.cons (.bin .Mult (.var 7) (.var 6)) .nil))) (.var 4) (.bin .Mult (.var 7) (.idx (.var 1) (.neg (.cst (.int 1)))))))
    (.cons (.asgL [9, 10] (.cons (.bin .Mod (.var 9) (.var 3)) (.cons (.bin .FloorDiv (.var 9) (.var 3)) .nil)))
    .nil))
    (.cons (.ife (.cmp .Eq (.var 4) (.cst (.str (wS 1))))
    (.cons (.asgL [9, 10] (.cons (.bin .Mod (.bin .Sub (.var 7) (.var 8)) (.var 3)) (.cons (.bf .int (.cmp .Lt (.var 7) (.var 8))) .nil)))
    .nil)
    (.cons (.ife (.cmp .In (.var 4) (.tup (.cons (.cst (.str (wS 3))) (.cons (.cst (.str (wS 10))) .nil))))
    (.cons (.asg 12 (.ite (.cmp .Eq (.var 4) (.cst (.str (wS 3)))) (.idx (.var 1) (.cst (.int 2))) (.var 6)))
    (.cons (.asgL [9, 10] (.cons (.bin .FloorDiv (.var 7) (.var 12)) (.cons (.bin .Mod (.var 7) (.var 12)) .nil)))
    .nil))
    (.cons (.ife (.cmp .Eq (.var 4) (.cst (.str (wS 4))))
    (.cons (.asgL [9, 10] (.cons (.bf2 .max (.var 7) (.var 8)) (.cons (.ite (.cmp .Eq (.var 7) (.var 8)) (.cst (.int 0)) (.ite (.cmp .Gt (.var 7) (.var 8)) (.cst (.int 1)) (.cst (.int 2)))) .nil)))
    .nil)
    (.cons (.ife (.cmp .NotEq (.var 4) (.cst (.str (wS 6))))
    (.cons (.asg 9 (.ite (.cmp .Eq (.var 4) (.cst (.str (wS 5)))) (.var 8) (.bin .Sub (.bin .Sub (.var 3) (.cst (.int 1))) (.var 7))))
    .nil)
    .nil)
    .nil))
    .nil))
    .nil))
    .nil))
    (.cons (.asg 11 (.bin .Add (.bin .Add (.slc (.var 2) .nil (.cons (.var 5) .nil)) (.lst (.cons (.var 9) .nil))) (.slc (.var 2) (.cons (.bin .Add (.var 5) (.cst (.int 1))) .nil) .nil)))
    (.cons (.ife (.cmp .Eq (.var 4) (.cst (.str (wS 6))))
    (.cons (.asgI2 11 (.var 5) (.idx (.var 1) (.cst (.int 2))) (.tup (.cons (.var 8) (.cons (.var 7) .nil))))
    .nil)
    .nil)
    (.cons (.ret (.tup (.cons (.var 11) (.cons (.var 10) .nil))))
    .nil))))))))
def g_l_law_reckoned : Kn := kn [] [] []

def sp_l_law_reckoned : Spec := pur (fun (a : Kd × Pl × List Int × Int) => [kD a.1, plD a.2.1, .lst (a.2.2.1.map Dat.int), .int a.2.2.2]) (fun a => OkK a.1 ∧ OkPl a.1 a.2.1 ∧ (a.2.2.1.length : Int) = a.1.d ∧ 1 ≤ a.2.2.2 ∧ a.2.2.2.natAbs.log2 < 9000)
  (fun a => .val (.tup [.lst ((reck a.1 a.2.1 a.2.2.1 a.2.2.2).1.map Dat.int), .int (reck a.1 a.2.1 a.2.2.1 a.2.2.2).2]))
theorem reck_inj {k : Kd} {p p' : Pl} {ns : List Int} {z : Int} (h : plD p' = plD p) : reck k p' ns z = reck k p ns z := by
  obtain ⟨e1, e2, e3⟩ := plD_inj h
  obtain ⟨w, i, x⟩ := p
  obtain ⟨w', i', x'⟩ := p'
  simp only at e1 e2 e3
  subst e1 e2
  cases w' <;> simp [Wd.tri] at e3 <;> simp [reck, e3]
theorem reckoned_go {M : MH} {X : PX} {P : PE_} {ρ : Env} {k : Kd} {p : Pl} {ns : List Int} {z : Int} (hk : OkK k) (hp : OkPl k p) (hl : (ns.length : Int) = k.d) (h1 : 1 ≤ z) (h2 : z.natAbs.log2 < 9000) :
    callS sp_l_law_reckoned [kD k, plD p, .lst (ns.map Dat.int), .int z] M X P ρ = P (.val (.tup [.lst ((reck k p ns z).1.map Dat.int), .int (reck k p ns z).2])) ρ M :=
  callS_pur (k, p, ns, z) rfl ⟨hk, hp, hl, h1, h2⟩ (by
    rintro ⟨k', p', ns', z'⟩ h
    simp at h
    obtain ⟨g1, g2, g3, rfl⟩ := h
    obtain rfl := kD_eq g1
    obtain rfl := map_int_inj g3
    simp only [reck_inj g2])
theorem k_l_law_reckoned : Keeps g_l_law_reckoned N_l_law_reckoned.length 4 b_l_law_reckoned sp_l_law_reckoned := by
  rintro ds M Q X ⟨⟨k, p, ns, z⟩, rfl, ⟨hk, hp, hl, hz, hz2⟩, hQ⟩
  refine ⟨rfl, ?_⟩
  simp only at hk hp hl hz hz2 hQ
  obtain ⟨h1, h2, h3⟩ := id hp
  have d2 := hk.d2
  have b1 := hk.b1
  have b2 := hk.b2
  have hi : p.i < ns.length := by omega
  have r1 : ∀ M : MH, idxD M (.lst (ns.map Dat.int)) (.int p.i) = some (.int (dg ns p.i)) := fun M => idx_ints h1 hi
  have hx2 : (p.w = .add ∨ p.w = .less ∨ p.w = .greater ∨ p.w = .copy ∨ p.w = .swap) → 0 ≤ p.x ∧ p.x < ns.length := by
    intro hw
    have : 0 ≤ p.x ∧ p.x < k.d := by rcases hw with z | z | z | z | z <;> rw [z] at h3 <;> exact h3
    omega
  have r2 : (p.w = .add ∨ p.w = .less ∨ p.w = .greater ∨ p.w = .copy ∨ p.w = .swap) → ∀ M : MH, idxD M (.lst (ns.map Dat.int)) (.int p.x) = some (.int (dg ns p.x)) := fun hw M => idx_ints (hx2 hw).1 (hx2 hw).2
  have il := fun M : MH => idx_last (M := M) p
  have md : ∀ t, binD .Mod (.int t) (.int z) = some (.val (.int (t % z))) := fun t => mod_int (by omega)
  have fd : ∀ t, binD .FloorDiv (.int t) (.int z) = some (.val (.int (t / z))) := fun t => fdiv_int ⟨by omega, hz2⟩
  have ub : ∀ t, binD .Mult (.int t) (.int k.b) = some (.val (.int (t * k.b))) := fun t => mul_int (mulOk_r (by omega) (by omega))
  have mb : ∀ t, binD .Mod (.int t) (.int k.b) = some (.val (.int (t % k.b))) := fun t => mod_int (by omega)
  have fb : ∀ t, binD .FloorDiv (.int t) (.int k.b) = some (.val (.int (t / k.b))) := fun t => fdiv_small (by omega) (by omega)
  have ul : ∀ t, binD .Mult (.int t) (.int (if p.w.tri then p.x else p.i)) = some (.val (.int (t * (if p.w.tri then p.x else p.i)))) := by
    intro t
    refine mul_int (mulOk_r ?_ ?_)
    all_goals
      obtain ⟨w, i, x⟩ := p
      cases w <;> simp [Wd.tri] at h3 h1 h2 ⊢ <;> omega
  have tx : (p.w = .part) → 2 ≤ p.x ∧ p.x ≤ 9 := by intro hw; rw [hw] at h3; exact h3
  obtain ⟨A, B, e1, e2, ha1, ha2⟩ : ∃ A B : List Dat, cutD (ns.map Dat.int) none (some p.i) = A ∧ cutD (ns.map Dat.int) (some (p.i + 1)) none = B ∧ (∀ v, binD .Add (.lst A) (.lst [.int v]) = some (.own (.lst (A ++ [.int v])))) ∧
      ∀ v, binD .Add (.lst (A ++ [.int v])) (.lst B) = some (.own (.lst ((ns.set p.i.toNat v).map Dat.int))) := by
    refine ⟨_, _, cut_to h1 (by simp; omega), cut_from (by omega) (by simp; omega), fun v => ?_, fun v => ?_⟩
    · exact add_lst (by simp [sizeLine_eq]; omega)
    · rw [add_lst (by simp [sizeLine_eq]; omega)]
      congr 3
      have : (p.i + 1).toNat = p.i.toNat + 1 := by omega
      rw [this, List.map_set, List.set_eq_take_append_cons_drop, if_pos (by simp; omega)]
      simp
  clear hp hx2
  obtain ⟨w, i, x⟩ := p
  simp only at h1 h2 hi r1 r2 il ul e1 e2 ha1 ha2 hQ tx
  cases w
  · have r2' := r2 (by simp)
    simp only [Wd.tri, if_true] at il ul
    simp [b_l_law_reckoned, startE, N_l_law_reckoned, Wd.n, Wd.tri, r1, r2', il, ul, ub, md, fd, getS, e1, e2, ha1, ha2, setAll]
    simpa [reck] using hQ
  · have r2' := r2 (by simp)
    simp [b_l_law_reckoned, startE, N_l_law_reckoned, Wd.n, Wd.tri, r1, r2', md, fd, getS, e1, e2, ha1, ha2, setAll]
    simpa [reck] using hQ
  · simp only [Wd.tri, if_true] at il ul
    simp [b_l_law_reckoned, startE, N_l_law_reckoned, Wd.n, Wd.tri, r1, il, ul, ub, md, fd, getS, e1, e2, ha1, ha2, setAll]
    simpa [reck] using hQ
  · have tx' := tx rfl
    have fx : ∀ t, binD .FloorDiv (.int t) (.int x) = some (.val (.int (t / x))) := fun t => fdiv_small (by omega) (by omega)
    have mx : ∀ t, binD .Mod (.int t) (.int x) = some (.val (.int (t % x))) := fun t => mod_int (by omega)
    simp [b_l_law_reckoned, startE, N_l_law_reckoned, Wd.n, Wd.tri, r1, fx, mx, getS, e1, e2, ha1, ha2, setAll]
    simpa [reck] using hQ
  · have r2' := r2 (by simp)
    have mxd : ∀ a b : Int, call2D .max (.int a) (.int b) = some (.val (.int (max a b))) := by
      intro a b
      show some (Rv.val (.int (if b > a then b else a))) = _
      congr 3; split <;> omega
    simp only [reck] at hQ
    by_cases c1 : dg ns i = dg ns x
    · simp [c1] at hQ
      simp [b_l_law_reckoned, startE, N_l_law_reckoned, Wd.n, Wd.tri, r1, r2', getS, e1, e2, ha1, ha2, setAll, mxd, c1]
      simpa using hQ
    · by_cases c2 : dg ns x < dg ns i
      · simp [c1, c2] at hQ
        simp [b_l_law_reckoned, startE, N_l_law_reckoned, Wd.n, Wd.tri, r1, r2', getS, e1, e2, ha1, ha2, setAll, mxd, c1, c2]
        simpa using hQ
      · simp [c1, c2] at hQ
        simp [b_l_law_reckoned, startE, N_l_law_reckoned, Wd.n, Wd.tri, r1, r2', getS, e1, e2, ha1, ha2, setAll, mxd, c1, c2]
        simpa using hQ
  · have r2' := r2 (by simp)
    simp [b_l_law_reckoned, startE, N_l_law_reckoned, Wd.n, Wd.tri, r1, r2', getS, e1, e2, ha1, ha2, setAll]
    simpa [reck] using hQ
  · have r2' := r2 (by simp)
    have hx : 0 ≤ x ∧ x < ns.length := by have : 0 ≤ x ∧ x < k.d := h3; omega
    have ix1 : L2.ixN ns.length i = some i.toNat := by unfold L2.ixN; rw [if_pos h1, if_pos (by omega)]
    have ix2 : L2.ixN ns.length x = some x.toNat := by unfold L2.ixN; rw [if_pos hx.1, if_pos (by omega)]
    simp [b_l_law_reckoned, startE, N_l_law_reckoned, Wd.n, Wd.tri, r1, r2', getS, e1, e2, ha1, ha2, setAll, hasB, setAt, ix1, ix2]
    simpa [reck, List.map_set] using hQ
  · simp only [Wd.tri, if_false, Bool.false_eq_true] at il ul
    simp [b_l_law_reckoned, startE, N_l_law_reckoned, Wd.n, Wd.tri, r1, il, ul, ub, md, fd, getS, e1, e2, ha1, ha2, setAll]
    simpa [reck] using hQ
  · simp [b_l_law_reckoned, startE, N_l_law_reckoned, Wd.n, Wd.tri, r1, getS, e1, e2, ha1, ha2, setAll]
    simpa [reck] using hQ
  · simp only [Wd.tri, if_false, Bool.false_eq_true] at il ul
    simp [b_l_law_reckoned, startE, N_l_law_reckoned, Wd.n, Wd.tri, r1, il, ul, ub, md, fd, getS, e1, e2, ha1, ha2, setAll]
    simpa [reck] using hQ
  · simp [b_l_law_reckoned, startE, N_l_law_reckoned, Wd.n, Wd.tri, r1, fb, mb, getS, e1, e2, ha1, ha2, setAll]
    simpa [reck] using hQ
end Mi

set_option maxHeartbeats 1000000
/-! B6: the law's draws. -/
namespace Mi
open PySem PySem.Spec PyProof.Rows L2

/-- a drum: two numbers that are drawn from -/
def Dr (M : MH) (a : Addr) : Prop := ∃ x y : Int, M a = some (.lst [.int x, .int y]) ∧ 0 ≤ x ∧ 0 ≤ y
/-! _law_draw(bag, many) -/
def N_l_law_draw : List Str := ["bag", "many", "found", "wide"]
def b_l_law_draw : Ss := (.cons (.ife (.cmp .Gt (.idx (.var 0) (.cst (.int 0))) (.cst (.int 0)))
    (.cons (.asg 2 (.bin .Mod (.bf .int (.idx (.var 0) (.cst (.int 0)))) (.var 1)))
    (.cons (.asgIx 0 (.cst (.int 0)) (.bin .FloorDiv (.idx (.var 0) (.cst (.int 0))) (.var 1)))
    (.cons (.ret (.var 2))
    .nil)))
    .nil)
    (.cons (.asgU [2, 3] (.tup (.cons (.cst (.int 0)) (.cons (.cst (.int 1)) .nil))))
    (.cons (.whl (.bop .Or (.cons (.cmp .Lt (.var 3) (.var 1)) (.cons (.cmp .Eq (.var 3) (.cst (.int 1))) .nil)))
    (.cons (.asgIx 0 (.cst (.int 1)) (.bin .Mod (.bf .int (.bin .Add (.bin .Mult (.idx (.var 0) (.cst (.int 1))) (.cst (.int 31337))) (.cst (.int 67)))) (.cst (.int 2147483249))))
    (.cons (.asg 2 (.bin .Add (.bin .Mult (.var 2) (.cst (.int 8192))) (.bin .Mod (.bf .int (.bin .FloorDiv (.idx (.var 0) (.cst (.int 1))) (.cst (.int 65579)))) (.cst (.int 8192)))))
    (.cons (.asg 3 (.bin .Mult (.var 3) (.cst (.int 8192))))
    .nil))))
    (.cons (.ret (.bin .Mod (.bf .int (.var 2)) (.var 1)))
    .nil))))
def g_l_law_draw : Kn := kn [] [] []

def sp_l_law_draw : Spec := fun ds M Q X => ∃ (a : Addr) (many : Int), ds = [.ref a, .int many] ∧ Dr M a ∧ 1 ≤ many ∧ many ≤ 8192 ∧ ∀ (r : Int) M', 0 ≤ r → r < many → Dr M' a → Q (.val (.int r)) M'
theorem draw_go {M : MH} {X : PX} {P : PE_} {ρ : Env} {a : Addr} {many : Int} : callS sp_l_law_draw [.ref a, .int many] M X P ρ = (Dr M a ∧ 1 ≤ many ∧ many ≤ 8192 ∧ ∀ (r : Int) M', 0 ≤ r → r < many → Dr M' a → P (.val (.int r)) ρ M') := by
  refine propext ⟨?_, ?_⟩
  · rintro ⟨Q0, ⟨a', many', e, h1, h2, h3, h4⟩, k⟩
    simp at e
    obtain ⟨rfl, rfl⟩ := e
    exact ⟨h1, h2, h3, fun r M' g1 g2 g3 => k _ _ (h4 r M' g1 g2 g3)⟩
  · rintro ⟨h1, h2, h3, h4⟩
    exact ⟨fun r M' => P r ρ M', ⟨a, many, rfl, h1, h2, h3, h4⟩, fun _ _ h => h⟩
theorem k_l_law_draw : Keeps g_l_law_draw N_l_law_draw.length 2 b_l_law_draw sp_l_law_draw := by
  rintro ds M Q X ⟨a, many, rfl, ⟨x, y, hM, hx, hy⟩, h1, h2, hQ⟩
  refine ⟨rfl, ?_⟩
  have ix0 : ∀ {M : MH} {x y : Int}, M a = some (.lst [.int x, .int y]) → idxD M (.ref a) (.int 0) = some (.int x) := by
    intro M x y h
    show (match M a with | some (.lst ds) => L2.atI ds 0 | _ => none) = _
    rw [h]; simp
  have ix1 : ∀ {M : MH} {x y : Int}, M a = some (.lst [.int x, .int y]) → idxD M (.ref a) (.int 1) = some (.int y) := by
    intro M x y h
    show (match M a with | some (.lst ds) => L2.atI ds 1 | _ => none) = _
    rw [h]; simp
  have lg : many.natAbs.log2 < 9000 := by have := Nat.log2_le_self many.natAbs; omega
  have fd := fdiv_int (i := x) (j := many) ⟨by omega, lg⟩
  have md : ∀ t, binD .Mod (.int t) (.int many) = some (.val (.int (t % many))) := fun t => mod_int (by omega)
  simp [b_l_law_draw, startE, N_l_law_draw, ix0 hM]
  by_cases hx0 : 0 < x
  · simp [hx0, md, fd, ix0 hM, hasB, setAt, hM, L2.ixN]
    exact hQ _ _ (Int.emod_nonneg _ (by omega)) (Int.emod_lt_of_pos _ (by omega)) ⟨_, _, updM_same, Int.ediv_nonneg hx (by omega), hy⟩
  · simp [hx0, tgtF]
    have f1 : ∀ t, binD .FloorDiv (.int t) (.int 65579) = some (.val (.int (t / 65579))) := fun t => fdiv_int ⟨by omega, by decide⟩
    have m1 : ∀ t, binD .Mod (.int t) (.int 2147483249) = some (.val (.int (t % 2147483249))) := fun t => mod_int (by omega)
    have m2 : ∀ t, binD .Mod (.int t) (.int 8192) = some (.val (.int (t % 8192))) := fun t => mod_int (by omega)
    have u1 : ∀ t, binD .Mult (.int t) (.int 31337) = some (.val (.int (t * 31337))) := fun t => mul_int (mulOk_r (by omega) (by omega))
    have u2 : ∀ t, binD .Mult (.int t) (.int 8192) = some (.val (.int (t * 8192))) := fun t => mul_int (mulOk_r (by omega) (by omega))
    refine whl_inv (fun n ρ M' => (n = 1 ∧ ρ = [.val (.ref a), .val (.int many), .val (.int 0), .val (.int 1)] ∧ M' = M) ∨ (n = 0 ∧ ∃ f : Int, 0 ≤ f ∧ ρ = [.val (.ref a), .val (.int many), .val (.int f), .val (.int 8192)] ∧ Dr M' a)) 1 (.inl ⟨rfl, rfl, rfl⟩) ?_
    rintro n ρ M' (⟨rfl, rfl, rfl⟩ | ⟨rfl, f, hf, rfl, x', y', hM', hx', hy'⟩)
    · have e := ix1 (M := updM M' a (.lst [.int x, .int ((y * 31337 + 67) % 2147483249)])) updM_same
      by_cases hc : 1 < many
      · simp [hc, ix1 hM, u1, m1, hasB, setAt, hM, L2.ixN, u2, e, f1, m2]
        exact ⟨_, Int.emod_nonneg _ (by omega), rfl, _, _, updM_same, hx, Int.emod_nonneg _ (by omega)⟩
      · simp [hc, ix1 hM, u1, m1, hasB, setAt, hM, L2.ixN, u2, e, f1, m2]
        exact ⟨_, Int.emod_nonneg _ (by omega), rfl, _, _, updM_same, hx, Int.emod_nonneg _ (by omega)⟩
    · have hc : ¬ (8192 < many) := by omega
      simp [hc, md]
      exact hQ _ _ (Int.emod_nonneg _ (by omega)) (Int.emod_lt_of_pos _ (by omega)) ⟨x', y', hM', hx', hy'⟩
/-! _law_bag(script, k) -/
def N_l_law_bag : List Str := ["script", "k", "cell"]
def b_l_law_bag : Ss := (.cons (.asg 2 (.bin .Add (.bin .Mult (.cst (.int 44449)) (.var 1)) (.cst (.int 71))))
    (.cons (.ife (.cmp .Lt (.var 1) (.bf .len (.var 0)))
    (.cons (.asg 2 (.bin .Mod (.bf .abs (.bf .int (.idx (.var 0) (.var 1)))) (.bin .Mult (.bin .Mult (.bin .Mult (.bin .Pow (.cst (.int 10)) (.cst (.int 60))) (.bin .Pow (.cst (.int 10)) (.cst (.int 60)))) (.bin .Pow (.cst (.int 10)) (.cst (.int 60)))) (.bin .Pow (.cst (.int 10)) (.cst (.int 60))))))
    .nil)
    (.cons (.ife (.cmp .Gt (.bf .len (.var 0)) (.cst (.int 0)))
    (.cons (.asg 2 (.bin .Add (.var 2) (.bin .Mod (.bf .abs (.bf .int (.idx (.var 0) (.cst (.int 0))))) (.cst (.int 1000273)))))
    .nil)
    .nil)
    .nil))
    (.cons (.ret (.bag (.cons (.ite (.cmp .GtE (.var 2) (.bin .Pow (.cst (.int 10)) (.cst (.int 18)))) (.var 2) (.cst (.int 0))) (.cons (.bin .Add (.bin .Mod (.bf .int (.bin .Add (.bin .Add (.bin .Mult (.bin .Mod (.var 2) (.cst (.int 2147483249))) (.cst (.int 3))) (.bin .Mult (.cst (.int 59)) (.var 1))) (.cst (.int 17)))) (.cst (.int 2147483249))) (.cst (.int 1))) .nil))))
    .nil)))
def g_l_law_bag : Kn := kn [] [] []

def sp_l_law_bag : Spec := fun ds M Q X => ∃ (ns : List Int) (k : Int), ds = [.scr ns, .int k] ∧ 0 ≤ k ∧ k < 2 ^ 40 ∧ ∀ (a : Addr) M', M a = none → Dr M' a → Q (.val (.ref a)) M'
theorem scr_inj {ns ns' : List Int} (h : Dat.scr ns = Dat.scr ns') : ns = ns' := by cases h; rfl
theorem bag_go {M : MH} {X : PX} {P : PE_} {ρ : Env} {ns : List Int} {k : Int} : callS sp_l_law_bag [.scr ns, .int k] M X P ρ = (0 ≤ k ∧ k < 2 ^ 40 ∧ ∀ (a : Addr) M', M a = none → Dr M' a → P (.val (.ref a)) ρ M') := by
  refine propext ⟨?_, ?_⟩
  · rintro ⟨Q0, ⟨ns', k', e, h1, h2, h4⟩, kk⟩
    simp at e
    obtain ⟨e1, rfl⟩ := e
    exact ⟨h1, h2, fun a M' g1 g2 => kk _ _ (h4 a M' g1 g2)⟩
  · rintro ⟨h1, h2, h4⟩
    exact ⟨fun r M' => P r ρ M', ⟨ns, k, rfl, h1, h2, h4⟩, fun _ _ h => h⟩
theorem k_l_law_bag : Keeps g_l_law_bag N_l_law_bag.length 2 b_l_law_bag sp_l_law_bag := by
  rintro ds M Q X ⟨ns, k, rfl, h0, h1, hQ⟩
  refine ⟨rfl, ?_⟩
  have ln : ∀ M : MH, callD M .len (.scr ns) = some (.val (.int ns.length)) := fun _ => rfl
  have ix : ∀ (M : MH) (i : Int), idxD M (.scr ns) (.int i) = (L2.atI ns i).map fun n => .int n := fun _ _ => rfl
  have pw : ∀ n : Int, 0 ≤ n → n ≤ 100 → binD .Pow (.int 10) (.int n) = some (.val (.int (10 ^ n.toNat))) := by
    intro n h0 h1
    show (if 0 ≤ n ∧ n ≤ 1000000 ∧ (10 : Int).natAbs < 2 ^ 64 then _ else _) = _
    rw [if_pos ⟨h0, by omega, by decide⟩]
  have u0 : binD .Mult (.int 44449) (.int k) = some (.val (.int (44449 * k))) := mul_int (mulOk_l (by omega) (by omega))
  have u1 : binD .Mult (.int 59) (.int k) = some (.val (.int (59 * k))) := mul_int (mulOk_l (by omega) (by omega))
  have m1 : ∀ t, binD .Mod (.int t) (.int 2147483249) = some (.val (.int (t % 2147483249))) := fun t => mod_int (by omega)
  have m2 : ∀ t, binD .Mod (.int t) (.int 1000273) = some (.val (.int (t % 1000273))) := fun t => mod_int (by omega)
  have u2 : ∀ t, binD .Mult (.int t) (.int 3) = some (.val (.int (t * 3))) := fun t => mul_int (mulOk_r (by omega) (by omega))
  have w1 : binD .Mult (.int (10 ^ 60)) (.int (10 ^ 60)) = some (.val (.int (10 ^ 60 * 10 ^ 60))) := mul_int (by decide +kernel)
  have w2 : binD .Mult (.int (10 ^ 60 * 10 ^ 60)) (.int (10 ^ 60)) = some (.val (.int (10 ^ 60 * 10 ^ 60 * 10 ^ 60))) := mul_int (by decide +kernel)
  have w3 : binD .Mult (.int (10 ^ 60 * 10 ^ 60 * 10 ^ 60)) (.int (10 ^ 60)) = some (.val (.int (10 ^ 60 * 10 ^ 60 * 10 ^ 60 * 10 ^ 60))) := mul_int (by decide +kernel)
  have m3 : ∀ t, binD .Mod (.int t) (.int (10 ^ 60 * 10 ^ 60 * 10 ^ 60 * 10 ^ 60)) = some (.val (.int (t % (10 ^ 60 * 10 ^ 60 * 10 ^ 60 * 10 ^ 60)))) := fun t => mod_int (by decide +kernel)
  have p60 := pw 60 (by omega) (by omega)
  have p18 := pw 18 (by omega) (by omega)
  rw [show (60 : Int).toNat = 60 from rfl] at p60
  rw [show (18 : Int).toNat = 18 from rfl] at p18
  have hE : (0 : Int) ≤ 10 ^ 18 := by decide
  generalize (10 : Int) ^ 60 = T at *
  generalize (10 : Int) ^ 18 = E18 at *
  have fin : ∀ (x t : Int), 0 ≤ x → ∀ a, M a = none → Q (.val (.ref a)) (updM M a (.lst [.int x, .int (t % 2147483249 + 1)])) := by
    intro x t hx a ha
    have := Int.emod_nonneg t (show (2147483249 : Int) ≠ 0 by omega)
    exact hQ a _ ha ⟨_, _, updM_same, hx, by omega⟩
  by_cases c : k < ns.length
  · have e : idxD M (.scr ns) (.int k) = some (.int (ns[k.toNat]'(by omega))) := by
      rw [ix]; unfold L2.atI L2.ixN
      rw [if_pos h0, if_pos c]
      simp [List.getElem?_eq_getElem (show k.toNat < ns.length by omega)]
    simp [yIte2_ite, yIfe2_ite, b_l_law_bag, startE, N_l_law_bag, ln, u0, c, e, p60, w1, w2, w3, m3, p18, m1, u2, u1]
    (repeat' split) <;> first | (intro a ha; exact fin _ _ (by omega) a ha) | (exfalso; omega)
  · cases ns with
    | nil =>
      simp [yIte2_ite, yIfe2_ite, b_l_law_bag, startE, N_l_law_bag, ln, u0, p18, m1, u2, u1, h0]
      (repeat' split) <;> first | (intro a ha; exact fin _ _ (by omega) a ha) | (exfalso; omega)
    | cons n ns =>
      have e : idxD M (.scr (n :: ns)) (.int 0) = some (.int n) := by rw [ix]; simp
      simp at c
      have c2 : ¬ k < (ns.length : Int) + 1 := by omega
      simp [yIte2_ite, yIfe2_ite, b_l_law_bag, startE, N_l_law_bag, ln, u0, c2, e, m2, p18, m1, u2, u1]
      (repeat' split) <;> first | (intro a ha; exact fin _ _ (by omega) a ha) | (exfalso; omega)
/-! _law_pick(bag, things) -/
def N_l_law_pick : List Str := ["bag", "things"]
def b_l_law_pick : Ss := (.cons (.ret (.idx (.var 1) (.call "_law_draw" (.cons (.var 0) (.cons (.bf .len (.var 1)) .nil)))))
    .nil)
def g_l_law_pick : Kn := kn [("_law_draw", sp_l_law_draw)] [] []
@[simp ↓] theorem g_l_law_pick_l_law_draw : g_l_law_pick.fn "_law_draw" = some sp_l_law_draw := by kernel_rfl

def sp_l_law_pick : Spec := fun ds M Q X => ∃ (a : Addr) (l : List Dat), ds = [.ref a, .lst l] ∧ Dr M a ∧ l ≠ [] ∧ l.length ≤ 8192 ∧ ∀ d M', d ∈ l → Dr M' a → Q (.val d) M'
theorem pick_go {M : MH} {X : PX} {P : PE_} {ρ : Env} {a : Addr} {l : List Dat} : callS sp_l_law_pick [.ref a, .lst l] M X P ρ = (Dr M a ∧ l ≠ [] ∧ l.length ≤ 8192 ∧ ∀ d M', d ∈ l → Dr M' a → P (.val d) ρ M') := by
  refine propext ⟨?_, ?_⟩
  · rintro ⟨Q0, ⟨a', l', e, h1, h2, h3, h4⟩, kk⟩
    simp at e
    obtain ⟨rfl, rfl⟩ := e
    exact ⟨h1, h2, h3, fun d M' g1 g2 => kk _ _ (h4 d M' g1 g2)⟩
  · rintro ⟨h1, h2, h3, h4⟩
    exact ⟨fun r M' => P r ρ M', ⟨a, l, rfl, h1, h2, h3, h4⟩, fun _ _ h => h⟩
theorem k_l_law_pick : Keeps g_l_law_pick N_l_law_pick.length 2 b_l_law_pick sp_l_law_pick := by
  rintro ds M Q X ⟨a, l, rfl, h1, h2, h3, hQ⟩
  refine ⟨rfl, ?_⟩
  have hl : 1 ≤ l.length := by cases l with
    | nil => exact absurd rfl h2
    | cons => simp
  simp [b_l_law_pick, startE, N_l_law_pick]
  rw [draw_go]
  refine ⟨h1, by omega, by omega, fun r M' g0 g1 g2 => ?_⟩
  have e : L2.atI l r = some (l[r.toNat]'(by omega)) := by
    unfold L2.atI L2.ixN
    rw [if_pos g0, if_pos g1]
    simp [List.getElem?_eq_getElem (show r.toNat < l.length by omega)]
  simp [e]
  exact hQ _ _ (List.getElem_mem _) g2

/-! _law_kind(bag) -/
def N_l_law_kind : List Str := ["bag", "base", "most"]
def b_l_law_kind : Ss := (.cons (.asg 1 (.call "_law_pick" (.cons (.var 0) (.cons (.lst (.cons (.cst (.int 2)) (.cons (.cst (.int 3)) (.cons (.cst (.int 4)) (.cons (.cst (.int 5)) (.cons (.cst (.int 7)) (.cons (.cst (.int 10)) (.cons (.cst (.int 10)) .nil)))))))) .nil))))
    (.cons (.asg 2 (.ite (.cmp .Gt (.bin .Mult (.var 1) (.var 1)) (.cst (.int 100))) (.cst (.int 1)) (.ite (.cmp .Gt (.var 1) (.cst (.int 4))) (.cst (.int 2)) (.cst (.int 3)))))
    (.cons (.ret (.tup (.cons (.var 1) (.cons (.bin .Add (.cst (.int 1)) (.call "_law_draw" (.cons (.var 0) (.cons (.var 1) .nil)))) (.cons (.bin .Add (.cst (.int 1)) (.call "_law_draw" (.cons (.var 0) (.cons (.var 2) .nil)))) .nil)))))
    .nil)))
def g_l_law_kind : Kn := kn [("_law_draw", sp_l_law_draw), ("_law_pick", sp_l_law_pick)] [] []
@[simp ↓] theorem g_l_law_kind_l_law_draw : g_l_law_kind.fn "_law_draw" = some sp_l_law_draw := by kernel_rfl
@[simp ↓] theorem g_l_law_kind_l_law_pick : g_l_law_kind.fn "_law_pick" = some sp_l_law_pick := by kernel_rfl

def sp_l_law_kind : Spec := fun ds M Q X => ∃ (a : Addr), ds = [.ref a] ∧ Dr M a ∧ ∀ k M', OkK k → Dr M' a → Q (.val (kD k)) M'
theorem kind_go {M : MH} {X : PX} {P : PE_} {ρ : Env} {a : Addr} : callS sp_l_law_kind [.ref a] M X P ρ = (Dr M a ∧ ∀ k M', OkK k → Dr M' a → P (.val (kD k)) ρ M') := by
  refine propext ⟨?_, ?_⟩
  · rintro ⟨Q0, ⟨a', e, h1, h4⟩, kk⟩
    simp at e
    obtain rfl := e
    exact ⟨h1, fun d M' g1 g2 => kk _ _ (h4 d M' g1 g2)⟩
  · rintro ⟨h1, h4⟩
    exact ⟨fun r M' => P r ρ M', ⟨a, rfl, h1, h4⟩, fun _ _ h => h⟩
theorem kd_mk {b f x : Int} (hb : b = 2 ∨ b = 3 ∨ b = 4 ∨ b = 5 ∨ b = 7 ∨ b = 10) (h0 : 0 ≤ f) (h1 : f < b) (x0 : 0 ≤ x) (x1 : x < if b > 4 then 2 else 3) : OkK ⟨b, 1 + f, 1 + x⟩ := by
  have hx : x = 0 ∨ x = 1 ∨ (x = 2 ∧ b ≤ 4) := by split at x1 <;> omega
  refine ⟨by simp; omega, by simp; omega, by simp; omega, by simp; omega, by simp; omega, by simp; omega, ?_⟩
  show b ^ (1 + x).toNat ≤ 100
  clear h0 h1 x0 x1
  rcases hb with rfl | rfl | rfl | rfl | rfl | rfl <;> rcases hx with rfl | rfl | ⟨rfl, hh⟩ <;> first | decide | omega
theorem k_l_law_kind : Keeps g_l_law_kind N_l_law_kind.length 1 b_l_law_kind sp_l_law_kind := by
  rintro ds M Q X ⟨a, rfl, h1, hQ⟩
  refine ⟨rfl, ?_⟩
  simp [b_l_law_kind, startE, N_l_law_kind]
  rw [pick_go]
  refine ⟨h1, by simp, by simp, fun d M1 hd g1 => ?_⟩
  obtain ⟨b, rfl, hb⟩ : ∃ b : Int, d = .int b ∧ (b = 2 ∨ b = 3 ∨ b = 4 ∨ b = 5 ∨ b = 7 ∨ b = 10) := by
    simp only [List.mem_cons, List.not_mem_nil, or_false] at hd
    rcases hd with rfl | rfl | rfl | rfl | rfl | rfl | rfl <;> exact ⟨_, rfl, by simp⟩
  have mb : binD .Mult (.int b) (.int b) = some (.val (.int (b * b))) := mul_int (mulOk_r (by omega) (by omega))
  have hc : ¬ (100 < b * b) := by rcases hb with rfl | rfl | rfl | rfl | rfl | rfl <;> decide
  simp [mb, hc]
  by_cases h4 : 4 < b
  · simp [h4]
    rw [draw_go]
    refine ⟨g1, by omega, by omega, fun f M2 f0 f1 g2 => ?_⟩
    simp
    rw [draw_go]
    refine ⟨g2, by omega, by omega, fun x M3 x0 x1 g3 => ?_⟩
    simp
    exact hQ ⟨b, 1 + f, 1 + x⟩ M3 (kd_mk hb f0 f1 x0 (by rw [if_pos h4]; omega)) g3
  · simp [h4]
    rw [draw_go]
    refine ⟨g1, by omega, by omega, fun f M2 f0 f1 g2 => ?_⟩
    simp
    rw [draw_go]
    refine ⟨g2, by omega, by omega, fun x M3 x0 x1 g3 => ?_⟩
    simp
    exact hQ ⟨b, 1 + f, 1 + x⟩ M3 (kd_mk hb f0 f1 x0 (by rw [if_neg (by omega)]; omega)) g3
/-! _law_rod(bag, kind) -/
def N_l_law_rod : List Str := ["bag", "kind", "field"]
def b_l_law_rod : Ss := (.cons (.ret (.bf .tuple (.lc (.call "_law_pick" (.cons (.var 0) (.cons (.lst (.cons (.cst (.int 0)) (.cons (.bin .Sub (.idx (.var 1) (.cst (.int 0))) (.cst (.int 1))) (.cons (.call "_law_draw" (.cons (.var 0) (.cons (.idx (.var 1) (.cst (.int 0))) .nil))) .nil)))) .nil))) (.cons (.var 2) (.rng (.cons (.idx (.var 1) (.cst (.int 2))) .nil)) .nil .nil) [2])))
    .nil)
def g_l_law_rod : Kn := kn [("_law_pick", sp_l_law_pick), ("_law_draw", sp_l_law_draw)] [] []
@[simp ↓] theorem g_l_law_rod_l_law_pick : g_l_law_rod.fn "_law_pick" = some sp_l_law_pick := by kernel_rfl
@[simp ↓] theorem g_l_law_rod_l_law_draw : g_l_law_rod.fn "_law_draw" = some sp_l_law_draw := by kernel_rfl

def sp_l_law_rod : Spec := fun ds M Q X => ∃ (a : Addr) (k : Kd), ds = [.ref a, kD k] ∧ OkK k ∧ Dr M a ∧ ∀ r M', OkR k r → Dr M' a → Q (.val (rodD r)) M'
theorem rod_go {M : MH} {X : PX} {P : PE_} {ρ : Env} {a : Addr} {k : Kd} : callS sp_l_law_rod [.ref a, kD k] M X P ρ = (OkK k ∧ Dr M a ∧ ∀ r M', OkR k r → Dr M' a → P (.val (rodD r)) ρ M') := by
  refine propext ⟨?_, ?_⟩
  · rintro ⟨Q0, ⟨a', k', e, h1, h2, h3⟩, kk⟩
    simp at e
    obtain ⟨rfl, e⟩ := e
    obtain rfl := kD_eq e
    exact ⟨h1, h2, fun d M' g1 g2 => kk _ _ (h3 d M' g1 g2)⟩
  · rintro ⟨h1, h2, h3⟩
    exact ⟨fun r M' => P r ρ M', ⟨a, k, rfl, h1, h2, h3⟩, fun _ _ h => h⟩
theorem k_l_law_rod : Keeps g_l_law_rod N_l_law_rod.length 2 b_l_law_rod sp_l_law_rod := by
  rintro ds M Q X ⟨a, k, rfl, hk, h1, hQ⟩
  refine ⟨rfl, ?_⟩
  have d1 := hk.d1
  have d2 := hk.d2
  have b1 := hk.b1
  have b2 := hk.b2
  simp [b_l_law_rod, startE, N_l_law_rod]
  refine lcS_inv (fun ds acc M => Dr M a ∧ ∃ (i j : Nat) (rod : List Int), ds = rngL i j ∧ i + j = k.d.toNat ∧ acc = rod.map Dat.int ∧ rod.length = i ∧ ∀ x ∈ rod, 0 ≤ x ∧ x < k.b) rfl ?_ ?_ ?_
  · simp [rngD]
    rw [if_pos (by omega)]
    simp
    exact ⟨h1, 0, k.d.toNat, rfl, by omega, by simp⟩
  · rintro d ds acc M ⟨hd, i, j, rod, e1, e2, rfl, e4, e5⟩
    obtain ⟨j', rfl, rfl, rfl⟩ := rngL_cons e1
    simp [wipeE]
    rw [draw_go]
    refine ⟨hd, by omega, by omega, fun x M' x0 x1 hd' => ?_⟩
    simp
    rw [pick_go]
    refine ⟨hd', by simp, by simp, fun z M2 hz hd2 => ?_⟩
    obtain ⟨y, rfl, y0, y1⟩ : ∃ y : Int, z = .int y ∧ 0 ≤ y ∧ y < k.b := by
      simp only [List.mem_cons, List.not_mem_nil, or_false] at hz
      rcases hz with rfl | rfl | rfl
      · exact ⟨0, rfl, by omega, by omega⟩
      · exact ⟨_, rfl, by omega, by omega⟩
      · exact ⟨_, rfl, x0, x1⟩
    simp
    refine ⟨by rw [sizeLine_eq]; omega, hd2, i + 1, j', by push_cast; rfl, by omega, rod ++ [y], by simp, by simp [e4], ?_⟩
    intro w hw
    rcases List.mem_append.mp hw with h | h
    · exact e5 w h
    · simp at h; subst h; exact ⟨y0, y1⟩
  · rintro acc M ⟨hd, i, j, rod, e1, e2, rfl, e4, e5⟩
    obtain rfl := rngL_nil e1
    simp
    exact hQ rod M ⟨by omega, e5⟩ hd
/-! _law_frame(bag, kind, most) -/
def N_l_law_frame : List Str := ["bag", "kind", "most", "rod"]
def b_l_law_frame : Ss := (.cons (.ret (.bf .tuple (.lc (.call "_law_rod" (.cons (.var 0) (.cons (.var 1) .nil))) (.cons (.var 3) (.rng (.cons (.call "_law_draw" (.cons (.var 0) (.cons (.bin .Add (.var 2) (.cst (.int 1))) .nil))) .nil)) .nil .nil) [3])))
    .nil)
def g_l_law_frame : Kn := kn [("_law_draw", sp_l_law_draw), ("_law_rod", sp_l_law_rod)] [] []
@[simp ↓] theorem g_l_law_frame_l_law_draw : g_l_law_frame.fn "_law_draw" = some sp_l_law_draw := by kernel_rfl
@[simp ↓] theorem g_l_law_frame_l_law_rod : g_l_law_frame.fn "_law_rod" = some sp_l_law_rod := by kernel_rfl

def sp_l_law_frame : Spec := fun ds M Q X => ∃ (a : Addr) (k : Kd) (most : Int), ds = [.ref a, kD k, .int most] ∧ OkK k ∧ Dr M a ∧ 0 ≤ most ∧ most ≤ 1000 ∧ ∀ f M', OkF k f → (f.length : Int) ≤ most → Dr M' a → Q (.val (frD f)) M'
theorem frame_go {M : MH} {X : PX} {P : PE_} {ρ : Env} {a : Addr} {k : Kd} {most : Int} : callS sp_l_law_frame [.ref a, kD k, .int most] M X P ρ = (OkK k ∧ Dr M a ∧ 0 ≤ most ∧ most ≤ 1000 ∧ ∀ f M', OkF k f → (f.length : Int) ≤ most → Dr M' a → P (.val (frD f)) ρ M') := by
  refine propext ⟨?_, ?_⟩
  · rintro ⟨Q0, ⟨a', k', m', e, h1, h2, h3, h4, h5⟩, kk⟩
    simp at e
    obtain ⟨rfl, e, rfl⟩ := e
    obtain rfl := kD_eq e
    exact ⟨h1, h2, h3, h4, fun d M' g1 g2 g3 => kk _ _ (h5 d M' g1 g2 g3)⟩
  · rintro ⟨h1, h2, h3, h4, h5⟩
    exact ⟨fun r M' => P r ρ M', ⟨a, k, most, rfl, h1, h2, h3, h4, h5⟩, fun _ _ h => h⟩
theorem k_l_law_frame : Keeps g_l_law_frame N_l_law_frame.length 3 b_l_law_frame sp_l_law_frame := by
  rintro ds M Q X ⟨a, k, most, rfl, hk, h1, h2, h3, hQ⟩
  refine ⟨rfl, ?_⟩
  simp [b_l_law_frame, startE, N_l_law_frame]
  refine lcS_inv (fun ds acc M => Dr M a ∧ ∃ (i j : Nat) (f : List (List Int)), ds = rngL i j ∧ (i : Int) + j ≤ most ∧ acc = f.map rodD ∧ f.length = i ∧ OkF k f) rfl ?_ ?_ ?_
  · simp
    rw [draw_go]
    refine ⟨h1, by omega, by omega, fun r M1 r0 r1 g1 => ?_⟩
    simp [rngD]
    rw [if_pos (by omega)]
    simp
    exact ⟨g1, 0, r.toNat, rfl, by omega, rfl, fun _ h => by cases h⟩
  · rintro d ds acc M ⟨hd, i, j, f, e1, e2, rfl, e4, e5⟩
    obtain ⟨j', rfl, rfl, rfl⟩ := rngL_cons e1
    simp [wipeE]
    rw [rod_go]
    refine ⟨hk, hd, fun r M' hr hd' => ?_⟩
    simp
    refine ⟨by rw [sizeLine_eq]; omega, hd', i + 1, j', by push_cast; rfl, by push_cast at e2; omega, f ++ [r], by simp, by simp [e4], ?_⟩
    intro w hw
    rcases List.mem_append.mp hw with h | h
    · exact e5 w h
    · simp at h; subst h; exact hr
  · rintro acc M ⟨hd, i, j, f, e1, e2, rfl, e4, e5⟩
    obtain rfl := rngL_nil e1
    simp
    exact hQ f M e5 (by omega) hd
/-! _law_plain(bag, kind) -/
def N_l_law_plain : List Str := ["bag", "kind", "some", "word", "one", "other"]
def b_l_law_plain : Ss := (.cons (.asg 2 (.lst (.cons (.cst (.str (wS 0))) (.cons (.cst (.str (wS 0))) (.cons (.cst (.str (wS 1))) (.cons (.cst (.str (wS 2))) (.cons (.cst (.str (wS 3))) (.cons (.cst (.str (wS 3))) (.cons (.cst (.str (wS 7))) (.cons (.cst (.str (wS 4))) (.cons (.cst (.str (wS 5))) (.cons (.cst (.str (wS 8))) (.cons (.cst (.str (wS 6))) (.cons (.cst (.str (wS 9))) (.cons (.cst (.str (wS 10))) .nil)))))))))))))))
    (.cons (.asgL [3, 4, 5] (.cons (.call "_law_pick" (.cons (.var 0) (.cons (.var 2) .nil))) (.cons (.call "_law_draw" (.cons (.var 0) (.cons (.idx (.var 1) (.cst (.int 2))) .nil))) (.cons (.call "_law_draw" (.cons (.var 0) (.cons (.idx (.var 1) (.cst (.int 2))) .nil))) .nil))))
    (.cons (.ife (.cmp .In (.var 3) (.tup (.cons (.cst (.str (wS 2))) (.cons (.cst (.str (wS 3))) .nil))))
    (.cons (.ret (.tup (.cons (.var 3) (.cons (.var 4) (.cons (.call "_law_pick" (.cons (.var 0) (.cons (.lst (.cons (.cst (.int 2)) (.cons (.cst (.int 2)) (.cons (.cst (.int 3)) (.cons (.cst (.int 4)) (.cons (.cst (.int 5)) (.cons (.cst (.int 7)) (.cons (.cst (.int 9)) .nil)))))))) .nil))) .nil)))))
    .nil)
    .nil)
    (.cons (.ret (.ite (.cmp .In (.var 3) (.tup (.cons (.cst (.str (wS 7))) (.cons (.cst (.str (wS 8))) (.cons (.cst (.str (wS 9))) (.cons (.cst (.str (wS 10))) .nil)))))) (.tup (.cons (.var 3) (.cons (.var 4) .nil))) (.tup (.cons (.var 3) (.cons (.var 4) (.cons (.var 5) .nil))))))
    .nil))))
def g_l_law_plain : Kn := kn [("_law_pick", sp_l_law_pick), ("_law_draw", sp_l_law_draw)] [] []
@[simp ↓] theorem g_l_law_plain_l_law_pick : g_l_law_plain.fn "_law_pick" = some sp_l_law_pick := by kernel_rfl
@[simp ↓] theorem g_l_law_plain_l_law_draw : g_l_law_plain.fn "_law_draw" = some sp_l_law_draw := by kernel_rfl

def sp_l_law_plain : Spec := fun ds M Q X => ∃ (a : Addr) (k : Kd), ds = [.ref a, kD k] ∧ OkK k ∧ Dr M a ∧ ∀ p M', OkPl k p → Dr M' a → Q (.val (plD p)) M'
theorem plain_go {M : MH} {X : PX} {P : PE_} {ρ : Env} {a : Addr} {k : Kd} : callS sp_l_law_plain [.ref a, kD k] M X P ρ = (OkK k ∧ Dr M a ∧ ∀ p M', OkPl k p → Dr M' a → P (.val (plD p)) ρ M') := by
  refine propext ⟨?_, ?_⟩
  · rintro ⟨Q0, ⟨a', k', e, h1, h2, h3⟩, kk⟩
    simp at e
    obtain ⟨rfl, e⟩ := e
    obtain rfl := kD_eq e
    exact ⟨h1, h2, fun d M' g1 g2 => kk _ _ (h3 d M' g1 g2)⟩
  · rintro ⟨h1, h2, h3⟩
    exact ⟨fun r M' => P r ρ M', ⟨a, k, rfl, h1, h2, h3⟩, fun _ _ h => h⟩
theorem k_l_law_plain : Keeps g_l_law_plain N_l_law_plain.length 2 b_l_law_plain sp_l_law_plain := by
  rintro ds M Q X ⟨a, k, rfl, hk, h1, hQ⟩
  refine ⟨rfl, ?_⟩
  have d1 := hk.d1
  have d2 := hk.d2
  simp [b_l_law_plain, startE, N_l_law_plain]
  rw [pick_go]
  refine ⟨h1, by simp, by simp, fun d M3 hd g3 => ?_⟩
  have : ∃ w : Wd, d = .str (wS w.n) := by
    simp only [List.mem_cons, List.not_mem_nil, or_false] at hd
    rcases hd with rfl | rfl | rfl | rfl | rfl | rfl | rfl | rfl | rfl | rfl | rfl | rfl | rfl
    · exact ⟨.add, rfl⟩
    · exact ⟨.add, rfl⟩
    · exact ⟨.less, rfl⟩
    · exact ⟨.times, rfl⟩
    · exact ⟨.part, rfl⟩
    · exact ⟨.part, rfl⟩
    · exact ⟨.more, rfl⟩
    · exact ⟨.greater, rfl⟩
    · exact ⟨.copy, rfl⟩
    · exact ⟨.nines, rfl⟩
    · exact ⟨.swap, rfl⟩
    · exact ⟨.left, rfl⟩
    · exact ⟨.right, rfl⟩
  obtain ⟨w, rfl⟩ := this
  clear hd
  simp
  rw [draw_go]
  refine ⟨g3, by omega, by omega, fun i M1 i0 i1 g1 => ?_⟩
  simp
  rw [draw_go]
  refine ⟨g1, by omega, by omega, fun x M2 x0 x1 g2 => ?_⟩
  simp
  cases w
  case times | part =>
    simp [Wd.n]
    rw [pick_go]
    refine ⟨g2, by simp, by simp, fun z M4 hz g4 => ?_⟩
    obtain ⟨y, rfl, y0, y1⟩ : ∃ y : Int, z = .int y ∧ 2 ≤ y ∧ y ≤ 9 := by
      simp only [List.mem_cons, List.not_mem_nil, or_false] at hz
      rcases hz with rfl | rfl | rfl | rfl | rfl | rfl | rfl <;> exact ⟨_, rfl, by decide, by decide⟩
    simp
    first
      | exact hQ ⟨.times, i, y⟩ M4 ⟨i0, i1, y0, y1⟩ g4
      | exact hQ ⟨.part, i, y⟩ M4 ⟨i0, i1, y0, y1⟩ g4
  all_goals
    simp [Wd.n]
    first
      | exact hQ ⟨.add, i, x⟩ M2 ⟨i0, i1, x0, x1⟩ g2
      | exact hQ ⟨.less, i, x⟩ M2 ⟨i0, i1, x0, x1⟩ g2
      | exact hQ ⟨.greater, i, x⟩ M2 ⟨i0, i1, x0, x1⟩ g2
      | exact hQ ⟨.copy, i, x⟩ M2 ⟨i0, i1, x0, x1⟩ g2
      | exact hQ ⟨.swap, i, x⟩ M2 ⟨i0, i1, x0, x1⟩ g2
      | exact hQ ⟨.more, i, x⟩ M2 ⟨i0, i1, trivial⟩ g2
      | exact hQ ⟨.nines, i, x⟩ M2 ⟨i0, i1, trivial⟩ g2
      | exact hQ ⟨.left, i, x⟩ M2 ⟨i0, i1, trivial⟩ g2
      | exact hQ ⟨.right, i, x⟩ M2 ⟨i0, i1, trivial⟩ g2
end Mi

set_option maxHeartbeats 1000000
/-! B7: the law's words. -/
namespace Mi
open PySem PySem.Spec PyProof.Rows L2
/-! _law_width(kind, step) -/
def N_l_law_width : List Str := ["kind", "step"]
def b_l_law_width : Ss := (.cons (.ife (.cmp .In (.idx (.var 1) (.cst (.int 0))) (.tup (.cons (.cst (.str (wS 2))) (.cons (.cst (.str (wS 3))) .nil))))
    (.cons (.ret (.idx (.var 1) (.cst (.int 2))))
    .nil)
    .nil)
    (.cons (.ife (.cmp .In (.idx (.var 1) (.cst (.int 0))) (.tup (.cons (.cst (.str (wS 9))) (.cons (.cst (.str (wS 10))) .nil))))
    (.cons (.ret (.idx (.var 0) (.cst (.int 0))))
    .nil)
    .nil)
    (.cons (.ret (.ite (.cmp .Eq (.idx (.var 1) (.cst (.int 0))) (.cst (.str (wS 4)))) (.cst (.int 3)) (.ite (.cmp .In (.idx (.var 1) (.cst (.int 0))) (.tup (.cons (.cst (.str (wS 0))) (.cons (.cst (.str (wS 1))) (.cons (.cst (.str (wS 7))) .nil))))) (.cst (.int 2)) (.cst (.int 1)))))
    .nil)))
def g_l_law_width : Kn := kn [] [] []

def sp_l_law_width : Spec := pur (fun (a : Kd × Pl) => [kD a.1, plD a.2]) (fun a => True) (fun a => .val (.int (width a.1 a.2)))
theorem k_l_law_width : Keeps g_l_law_width N_l_law_width.length 2 b_l_law_width sp_l_law_width := by
  rintro ds M Q X ⟨⟨k, p⟩, rfl, _, hQ⟩
  refine ⟨rfl, ?_⟩
  obtain ⟨w, i, x⟩ := p
  cases w <;> simp [width] at hQ <;> simp [b_l_law_width, startE, N_l_law_width, Wd.n, getS, hQ]
@[simp ↓, simp] theorem l_law_width_go {M : MH} {X : PX} {P : PE_} {ρ : Env} {k : Kd} {p : Pl} : callS sp_l_law_width [kD k, plD p] M X P ρ = P (.val (.int (width k p))) ρ M :=
  callS_pur (k, p) rfl True.intro (by
    rintro ⟨k', ⟨w, i, x⟩⟩ h
    obtain ⟨w', i', x'⟩ := p
    simp at h
    obtain ⟨h1, h2⟩ := h
    obtain rfl := kD_eq h1
    obtain ⟨h3, h4, h5⟩ := plD_inj h2
    simp only at h3 h4 h5
    subst h3
    cases w <;> simp [Wd.tri] at h5 <;> simp [width, h5])
/-! _law_walks(text) -/
def N_l_law_walks : List Str := ["text", "found", "step"]
def b_l_law_walks : Ss := (.cons (.asg 1 (.lst .nil))
    (.cons (.for_ (.var 2) (.seq (.var 0))
    (.cons (.asg 1 (.bin .Add (.var 1) (.ite (.cmp .Eq (.idx (.var 2) (.cst (.int 0))) (.cst (.str (wS 11)))) (.bin .Mult (.bf .list (.idx (.var 2) (.cst (.int 2)))) (.idx (.var 2) (.cst (.int 1)))) (.lst (.cons (.var 2) .nil)))))
    .nil))
    (.cons (.ret (.var 1))
    .nil)))
def g_l_law_walks : Kn := kn [] [] []

def sp_l_law_walks : Spec := pur (fun (t : List St') => [txD t]) SzT (fun t => .own (.lst ((walksOf t).map plD)))
theorem k_l_law_walks : Keeps g_l_law_walks N_l_law_walks.length 1 b_l_law_walks sp_l_law_walks := by
  rintro ds M Q X ⟨t, rfl, ⟨hl, ht⟩, hQ⟩
  refine ⟨rfl, ?_⟩
  simp only at hQ
  simp [b_l_law_walks, startE, N_l_law_walks, txD]
  refine forS_inv (fun ds ρ M' => M' = M ∧ ∃ (done rest : List St') (x : Sl), t = done ++ rest ∧ ds = rest.map stD ∧ ρ = [.val (txD t), .own (.lst ((walksOf done).map plD)), x]) ⟨rfl, [], t, .no, rfl, rfl, rfl⟩ ?_ ?_
  · rintro ρ M ⟨rfl, done, rest, x, rfl, h2, rfl⟩
    obtain rfl : rest = [] := by simpa using h2.symm
    simpa using hQ
  · rintro d ds ρ M ⟨rfl, done, rest, x, h1, h2, rfl⟩
    cases rest with
    | nil => simp at h2
    | cons s rest =>
      simp at h2
      obtain ⟨rfl, rfl⟩ := h2
      have hs := ht s (by rw [h1]; simp)
      have hd : (walksOf done).length ≤ 12 * done.length := walksOf_len fun s hs => ht s (by rw [h1]; simp [hs])
      have hdl : done.length ≤ 1000 := by have := congrArg List.length h1; simp at this; omega
      have e : walksOf (done ++ [s]) = walksOf done ++ wkOf s := by simp [walksOf]
      cases s with
      | pl p =>
        have hz : ((walksOf done).map plD).length + [plD p].length ≤ sizeLine := by simp [sizeLine_eq]; omega
        simp [stD]
        rw [add_lst hz]
        simp
        exact ⟨done ++ [.pl p], rest, by simp [h1], rfl, by rw [e]; simp [wkOf]⟩
      | again n ps =>
        obtain ⟨g1, g2, g3⟩ := hs
        have hk := wkOf_len (s := .again n ps) ⟨g1, g2, g3⟩
        have hz : ((walksOf done).map plD).length + ((wkOf (.again n ps)).map plD).length ≤ sizeLine := by simp [sizeLine_eq]; omega
        have e2 : (List.replicate n.toNat (ps.map plD)).flatten = (wkOf (.again n ps)).map plD := by
          simp [wkOf, List.map_flatten]
        have hm : n ≤ 1000 ∧ -1000 ≤ n ∧ (ps.map plD).length ≤ 1000 := by simp; omega
        have ml : binD .Mult (.lst (ps.map plD)) (.int n) = some (.own (.lst ((wkOf (.again n ps)).map plD))) := by
          show (if n ≤ 1000 ∧ -1000 ≤ n ∧ (ps.map plD).length ≤ 1000 then some (Rv.own (.lst (List.replicate n.toNat (ps.map plD)).flatten)) else none) = _
          rw [if_pos hm, e2]
        simp [stD, callD, ml]
        rw [add_lst hz]
        simp
        exact ⟨done ++ [.again n ps], rest, by simp [h1], rfl, by rw [e]; simp⟩
theorem l_law_walks_go {M : MH} {X : PX} {P : PE_} {ρ : Env} {t : List St'} (h : SzT t) : callS sp_l_law_walks [txD t] M X P ρ = P (.own (.lst ((walksOf t).map plD))) ρ M :=
  callS_pur t rfl h (by intro b h; rw [txD_inj' (List.cons.inj h).1])
/-! _law_notes(kind, text) -/
def N_l_law_notes : List Str := ["kind", "text", "total", "step"]
def b_l_law_notes : Ss := (.cons (.asg 2 (.cst (.int 1)))
    (.cons (.for_ (.var 3) (.seq (.call "_law_walks" (.cons (.var 1) .nil)))
    (.cons (.asg 2 (.bin .Mult (.var 2) (.call "_law_width" (.cons (.var 0) (.cons (.var 3) .nil)))))
    .nil))
    (.cons (.ret (.var 2))
    .nil)))
def g_l_law_notes : Kn := kn [("_law_walks", sp_l_law_walks), ("_law_width", sp_l_law_width)] [] []
@[simp ↓] theorem g_l_law_notes_l_law_walks : g_l_law_notes.fn "_law_walks" = some sp_l_law_walks := by kernel_rfl
@[simp ↓] theorem g_l_law_notes_l_law_width : g_l_law_notes.fn "_law_width" = some sp_l_law_width := by kernel_rfl

def sp_l_law_notes : Spec := pur (fun (a : Kd × List St') => [kD a.1, txD a.2]) (fun a => OkK a.1 ∧ OkT a.1 a.2 ∧ a.2.length ≤ 1000) (fun a => .val (.int (totalOf a.1 (walksOf a.2))))
theorem k_l_law_notes : Keeps g_l_law_notes N_l_law_notes.length 2 b_l_law_notes sp_l_law_notes := by
  rintro ds M Q X ⟨⟨k, t⟩, rfl, ⟨hk, ht, hl⟩, hQ⟩
  refine ⟨rfl, ?_⟩
  simp only at hk ht hl hQ
  have hz := okT_sz ht hl
  simp [b_l_law_notes, startE, N_l_law_notes]
  rw [l_law_walks_go hz]
  simp
  refine forS_inv (fun ds ρ M' => M' = M ∧ ∃ (done rest : List Pl) (x : Sl), walksOf t = done ++ rest ∧ ds = rest.map plD ∧ ρ = [.val (kD k), .val (txD t), .val (.int (totalOf k done)), x]) ⟨rfl, [], walksOf t, .no, rfl, rfl, rfl⟩ ?_ ?_
  · rintro ρ M ⟨rfl, done, rest, x, h1, h2, rfl⟩
    obtain rfl : rest = [] := by simpa using h2.symm
    simp at h1
    simp
    rw [← h1]
    exact hQ
  · rintro d ds ρ M ⟨rfl, done, rest, x, h1, h2, rfl⟩
    cases rest with
    | nil => simp at h2
    | cons p rest =>
      simp at h2
      obtain ⟨rfl, rfl⟩ := h2
      obtain ⟨w1, w2⟩ := width_bd hk (ht.wk p (by rw [h1]; simp))
      simp
      rw [mul_int (mulOk_r (by omega) (by omega))]
      simp
      exact ⟨done ++ [p], rest, by simp [h1], rfl, by simp [totalOf]⟩
theorem total_inj {k : Kd} {t t' : List St'} (h : txD t = txD t') : totalOf k (walksOf t) = totalOf k (walksOf t') := by
  unfold totalOf
  rw [totalOf_map, totalOf_map, width_map (txD_inj' h)]
theorem l_law_notes_go {M : MH} {X : PX} {P : PE_} {ρ : Env} {k : Kd} {t : List St'} (hk : OkK k) (ht : OkT k t) (hl : t.length ≤ 1000) : callS sp_l_law_notes [kD k, txD t] M X P ρ = P (.val (.int (totalOf k (walksOf t)))) ρ M :=
  callS_pur (k, t) rfl ⟨hk, ht, hl⟩ (by
    rintro ⟨k', t'⟩ h
    simp at h
    obtain rfl := kD_eq h.1
    simp [total_inj h.2])
/-! _law_text(bag, kind, most, cap) -/
def N_l_law_text : List Str := ["bag", "kind", "most", "cap", "found", "turn", "step"]
def b_l_law_text : Ss := (.cons (.asg 4 (.tup .nil))
    (.cons (.for_ (.var 5) (.rng (.cons (.call "_law_draw" (.cons (.var 0) (.cons (.bin .Add (.var 2) (.cst (.int 1))) .nil))) .nil))
    (.cons (.asg 6 (.call "_law_plain" (.cons (.var 0) (.cons (.var 1) .nil))))
    (.cons (.ife (.cmp .Eq (.call "_law_draw" (.cons (.var 0) (.cons (.cst (.int 6)) .nil))) (.cst (.int 0)))
    (.cons (.asg 6 (.tup (.cons (.cst (.str (wS 11))) (.cons (.bin .Add (.cst (.int 2)) (.call "_law_draw" (.cons (.var 0) (.cons (.cst (.int 2)) .nil)))) (.cons (.bin .Add (.tup (.cons (.var 6) .nil)) (.bin .Mult (.tup (.cons (.call "_law_plain" (.cons (.var 0) (.cons (.var 1) .nil))) .nil)) (.call "_law_draw" (.cons (.var 0) (.cons (.cst (.int 2)) .nil))))) .nil)))))
    .nil)
    .nil)
    (.cons (.ife (.bop .And (.cons (.cmp .LtE (.call "_law_notes" (.cons (.var 1) (.cons (.bin .Add (.var 4) (.tup (.cons (.var 6) .nil))) .nil))) (.var 3)) (.cons (.cmp .Lt (.bf .len (.call "_law_walks" (.cons (.bin .Add (.var 4) (.tup (.cons (.var 6) .nil))) .nil))) (.cst (.int 9))) .nil)))
    (.cons (.asg 4 (.bin .Add (.var 4) (.tup (.cons (.var 6) .nil))))
    .nil)
    .nil)
    .nil))))
    (.cons (.ret (.var 4))
    .nil)))
def g_l_law_text : Kn := kn [("_law_draw", sp_l_law_draw), ("_law_walks", sp_l_law_walks), ("_law_notes", sp_l_law_notes), ("_law_plain", sp_l_law_plain)] [] []
@[simp ↓] theorem g_l_law_text_l_law_draw : g_l_law_text.fn "_law_draw" = some sp_l_law_draw := by kernel_rfl
@[simp ↓] theorem g_l_law_text_l_law_walks : g_l_law_text.fn "_law_walks" = some sp_l_law_walks := by kernel_rfl
@[simp ↓] theorem g_l_law_text_l_law_notes : g_l_law_text.fn "_law_notes" = some sp_l_law_notes := by kernel_rfl
@[simp ↓] theorem g_l_law_text_l_law_plain : g_l_law_text.fn "_law_plain" = some sp_l_law_plain := by kernel_rfl

def sp_l_law_text : Spec := fun ds M Q X => ∃ (a : Addr) (k : Kd) (most cap : Int), ds = [.ref a, kD k, .int most, .int cap] ∧ OkK k ∧ Dr M a ∧ 0 ≤ most ∧ most ≤ 6 ∧ cap ≤ 40 ∧ ∀ t M', OkT k t → isText k t = true → Dr M' a → Q (.val (txD t)) M'
theorem text_go {M : MH} {X : PX} {P : PE_} {ρ : Env} {a : Addr} {k : Kd} {most cap : Int} : callS sp_l_law_text [.ref a, kD k, .int most, .int cap] M X P ρ = (OkK k ∧ Dr M a ∧ 0 ≤ most ∧ most ≤ 6 ∧ cap ≤ 40 ∧ ∀ t M', OkT k t → isText k t = true → Dr M' a → P (.val (txD t)) ρ M') := by
  refine propext ⟨?_, ?_⟩
  · rintro ⟨Q0, ⟨a', k', m', c', e, h1, h2, h3, h4, h5, h6⟩, kk⟩
    simp at e
    obtain ⟨rfl, e, rfl, rfl⟩ := e
    obtain rfl := kD_eq e
    exact ⟨h1, h2, h3, h4, h5, fun d M' g1 g2 g3 => kk _ _ (h6 d M' g1 g2 g3)⟩
  · rintro ⟨h1, h2, h3, h4, h5, h6⟩
    exact ⟨fun r M' => P r ρ M', ⟨a, k, most, cap, rfl, h1, h2, h3, h4, h5, h6⟩, fun _ _ h => h⟩
theorem okT_snocS {k : Kd} {t : List St'} {s : St'} (h : OkT k t) (hs : OkSt k s) : OkT k (t ++ [s]) := by
  intro x hx
  rcases List.mem_append.mp hx with h' | h'
  · exact h x h'
  · simp at h'; subst h'; exact hs
theorem add_txS {t : List St'} {s : St'} (h : t.length ≤ 1000) : binD .Add (txD t) (.tup [stD s]) = some (.val (txD (t ++ [s]))) := by
  unfold txD
  rw [add_tup (by simp [sizeLine_eq]; omega)]
  simp
theorem text_step {Γ : Kn} {X : PX} {M : MH} {D : Dm} {k : Kd} {t : List St'} {s : St'} {a : Addr} {cap : Int} {x : Sl} {most : Int} (hk : OkK k) (ht : OkT k t) (hs : OkSt k s) (hl : t.length ≤ 6) (hcap : cap ≤ 40) (hx : isText k t = true) (hg1 : Γ.fn "_law_notes" = some sp_l_law_notes) (hg2 : Γ.fn "_law_walks" = some sp_l_law_walks)
    (h : ∀ t', OkT k t' → (isText k t' = true ∨ 6 < t'.length) → t'.length ≤ t.length + 1 → D.nx [.val (.ref a), .val (kD k), .val (.int most), .val (.int cap), .val (txD t'), x, .val (stD s)] M) :
    wpS Γ X (.ife (.bop .And (.cons (.cmp .LtE (.call "_law_notes" (.cons (.var 1) (.cons (.bin .Add (.var 4) (.tup (.cons (.var 6) .nil))) .nil))) (.var 3)) (.cons (.cmp .Lt (.bf .len (.call "_law_walks" (.cons (.bin .Add (.var 4) (.tup (.cons (.var 6) .nil))) .nil))) (.cst (.int 9))) .nil)))
      (.cons (.asg 4 (.bin .Add (.var 4) (.tup (.cons (.var 6) .nil)))) .nil) .nil) [.val (.ref a), .val (kD k), .val (.int most), .val (.int cap), .val (txD t), x, .val (stD s)] M D := by
  have ea : binD .Add (txD t) (.tup [stD s]) = some (.val (txD (t ++ [s]))) := add_txS (by omega)
  have hT := okT_snocS ht hs
  have hz := okT_sz hT (by simp; omega)
  simp [hg1, ea]
  rw [l_law_notes_go hk hT (by simp; omega)]
  by_cases h1 : totalOf k (walksOf (t ++ [s])) ≤ cap
  · simp [h1, hg2, ea]
    rw [l_law_walks_go hz]
    by_cases h2 : ((walksOf (t ++ [s])).length : Int) < 9
    · simp [h2, ea]
      refine h (t ++ [s]) hT ?_ (by simp)
      by_cases h6 : (t ++ [s]).length ≤ 6
      · left
        unfold isText
        simp only [Bool.and_eq_true, decide_eq_true_eq]
        exact ⟨by omega, by omega, by omega⟩
      · right; omega
    · simp [h2]
      exact h t ht (.inl hx) (by omega)
  · simp [h1]
    exact h t ht (.inl hx) (by omega)
end Mi

set_option maxHeartbeats 1000000
/-! B8: the law's texts, numbers. -/
namespace Mi
open PySem PySem.Spec PyProof.Rows L2
theorem isText_nil (k : Kd) : isText k [] = true := rfl
theorem k_l_law_text : Keeps g_l_law_text N_l_law_text.length 4 b_l_law_text sp_l_law_text := by
  rintro ds M Q X ⟨a, k, most, cap, rfl, hk, h1, h2, h3, h4, hQ⟩
  refine ⟨rfl, ?_⟩
  simp [b_l_law_text, startE, N_l_law_text]
  rw [draw_go]
  refine ⟨h1, by omega, by omega, fun r M1 r0 r1 g1 => ?_⟩
  simp [rngD]
  rw [if_pos (by constructor <;> omega)]
  simp
  refine forS_inv (fun ds ρ M' => Dr M' a ∧ ∃ (n m : Nat) (t : List St') (x y : Sl), ds = rngL n m ∧ n + m = r.toNat ∧ OkT k t ∧ t.length ≤ n ∧ isText k t = true ∧ ρ = [.val (.ref a), .val (kD k), .val (.int most), .val (.int cap), .val (txD t), x, y]) ⟨g1, 0, r.toNat, [], .no, .no, rfl, by omega, (fun _ h => by cases h), by simp, isText_nil k, rfl⟩ ?_ ?_
  · rintro ρ M' ⟨hd, n, m, t, x, y, e1, e2, ht, hl, hx, rfl⟩
    simp
    exact hQ t M' ht hx hd
  · rintro d ds ρ M' ⟨hd, n, m, t, x, y, e1, e2, ht, hl, hx, rfl⟩
    obtain ⟨m', rfl, rfl, rfl⟩ := rngL_cons e1
    simp
    rw [plain_go]
    refine ⟨hk, hd, fun p M2 hp hd2 => ?_⟩
    simp
    rw [draw_go]
    refine ⟨hd2, by omega, by omega, fun q M3 q0 q1 hd3 => ?_⟩
    by_cases hq : q = 0
    · simp [hq]
      rw [draw_go]
      refine ⟨hd3, by omega, by omega, fun c M4 c0 c1 hd4 => ?_⟩
      simp
      rw [plain_go]
      refine ⟨hk, hd4, fun p2 M5 hp2 hd5 => ?_⟩
      simp
      rw [draw_go]
      refine ⟨hd5, by omega, by omega, fun c2 M6 e0 e1' hd6 => ?_⟩
      have hc2 : c2 = 0 ∨ c2 = 1 := by omega
      obtain ⟨ps, hps, hlen, hok⟩ : ∃ ps : List Pl, Dat.tup ([plD p] ++ List.replicate c2.toNat (plD p2)) = .tup (ps.map plD) ∧ (1 ≤ ps.length ∧ ps.length ≤ 3) ∧ ∀ z ∈ ps, OkPl k z := by
        rcases hc2 with rfl | rfl
        · exact ⟨[p], rfl, by simp, by simp [hp]⟩
        · exact ⟨[p, p2], rfl, by simp, by simp [hp, hp2]⟩
      have ml : binD .Mult (.tup [plD p2]) (.int c2) = some (.val (.tup (List.replicate c2.toNat (plD p2)))) := by rw [mul_tup (by simp; omega)]; simp
      have al : binD .Add (.tup [plD p]) (.tup (List.replicate c2.toNat (plD p2))) = some (.val (.tup (ps.map plD))) := by
        rw [add_tup (by rcases hc2 with rfl | rfl <;> simp [sizeLine_eq]), hps]
      have hs : OkSt k (.again (2 + c) ps) := ⟨by omega, by omega, hlen.1, hlen.2, hok⟩
      have es : Dat.tup [.str (wS 11), .int (2 + c), .tup (ps.map plD)] = stD (.again (2 + c) ps) := rfl
      simp [-wps_ife, ml, al]
      rw [es]
      refine text_step hk ht hs (by omega) h4 hx (by simp) (by simp) fun t' k1 k2 k3 => ?_
      simp
      exact ⟨hd6, n + 1, m', by push_cast; rfl, by omega, t', k1, by omega, k2.resolve_right (by omega), rfl⟩
    · have es : plD p = stD (.pl p) := rfl
      simp [-wps_ife, hq]
      rw [es]
      refine text_step hk ht (s := .pl p) hp (by omega) h4 hx (by simp) (by simp) fun t' k1 k2 k3 => ?_
      simp
      exact ⟨hd3, n + 1, m', by push_cast; rfl, by omega, t', k1, by omega, k2.resolve_right (by omega), rfl⟩
/-! _law_numbers(kind, frame) -/
def N_l_law_numbers : List Str := ["kind", "frame", "found", "rod", "at"]
def b_l_law_numbers : Ss := (.cons (.asg 2 (.bin .Mult (.lst (.cons (.cst (.int 0)) .nil)) (.idx (.var 0) (.cst (.int 2)))))
    (.cons (.for_ (.var 3) (.seq (.var 1))
    (.cons (.asg 2 (.lc (.bin .Add (.bin .Mult (.idx (.var 2) (.var 4)) (.idx (.var 0) (.cst (.int 0)))) (.idx (.var 3) (.var 4))) (.cons (.var 4) (.rng (.cons (.idx (.var 0) (.cst (.int 2))) .nil)) .nil .nil) [4]))
    .nil))
    (.cons (.ret (.var 2))
    .nil)))
def g_l_law_numbers : Kn := kn [] [] []

def numsL (k : Kd) (f : List (List Int)) : List Dat := (rngL 0 k.d.toNat).map fun d => .int (numOf k f (intOf d))
def sp_l_law_numbers : Spec := pur (fun (a : Kd × List (List Int)) => [kD a.1, frD a.2]) (fun a => OkK a.1 ∧ OkF a.1 a.2) (fun a => .own (.lst (numsL a.1 a.2)))
theorem rngL_mem {lo : Int} {n : Nat} {d : Dat} (h : d ∈ rngL lo n) : ∃ i : Int, d = .int i ∧ lo ≤ i ∧ i < lo + n := by
  unfold rngL at h
  obtain ⟨i, hi, rfl⟩ := List.mem_map.mp h
  rw [List.mem_range] at hi
  exact ⟨_, rfl, by omega, by omega⟩
theorem rngL_len (lo : Int) (n : Nat) : (rngL lo n).length = n := by simp [rngL]
theorem idx_nums {M : MH} {k : Kd} {f : List (List Int)} {i : Int} (h0 : 0 ≤ i) (h1 : i < k.d) : idxD M (.lst (numsL k f)) (.int i) = some (.int (numOf k f i)) := by
  show L2.atI (numsL k f) i = _
  unfold L2.atI ixN
  have hl : (numsL k f).length = k.d.toNat := by simp [numsL, rngL_len]
  rw [if_pos h0, if_pos (by rw [hl]; omega)]
  have : i.toNat < k.d.toNat := by omega
  simp [numsL, rngL, this, intOf]
  congr 1; omega
theorem k_l_law_numbers : Keeps g_l_law_numbers N_l_law_numbers.length 2 b_l_law_numbers sp_l_law_numbers := by
  rintro ds M Q X ⟨⟨k, f⟩, rfl, ⟨hk, hf⟩, hQ⟩
  refine ⟨rfl, ?_⟩
  simp only at hk hf hQ
  have d1 := hk.d1
  have d2 := hk.d2
  have b1 := hk.b1
  have b2 := hk.b2
  have e0 : (List.replicate k.d.toNat [Dat.int 0]).flatten = numsL k [] := by
    have : k.d.toNat = 1 ∨ k.d.toNat = 2 ∨ k.d.toNat = 3 := by omega
    rcases this with h | h | h <;> simp [numsL, h, rngL, numOf, List.range, List.range.loop]
  have ml : binD .Mult (.lst [.int 0]) (.int k.d) = some (.own (.lst (numsL k []))) := by
    show (if k.d ≤ 1000 ∧ -1000 ≤ k.d ∧ [Dat.int 0].length ≤ 1000 then some (Rv.own (.lst (List.replicate k.d.toNat [Dat.int 0]).flatten)) else none) = _
    rw [if_pos (by simp; omega), e0]
  simp [b_l_law_numbers, startE, N_l_law_numbers, ml, frD]
  refine forS_inv (fun ds ρ M' => M' = M ∧ ∃ (done rest : List (List Int)) (x : Sl), f = done ++ rest ∧ ds = rest.map rodD ∧ ρ = [.val (kD k), .val (frD f), .own (.lst (numsL k done)), x, .no]) ⟨rfl, [], f, .no, rfl, rfl, rfl⟩ ?_ ?_
  · rintro ρ M ⟨rfl, done, rest, x, rfl, h2, rfl⟩
    obtain rfl : rest = [] := by simpa using h2.symm
    simpa using hQ
  · rintro d ds ρ M ⟨rfl, done, rest, x, e1, h2, rfl⟩
    cases rest with
    | nil => simp at h2
    | cons r rest =>
      simp at h2
      obtain ⟨rfl, rfl⟩ := h2
      have hr := hf r (by rw [e1]; simp)
      simp
      refine lcS_map (rngL 0 k.d.toNat) (fun d => .int (numOf k (done ++ [r]) (intOf d))) rfl (by rw [rngL_len, sizeLine_eq]; omega) ?_ ?_ ?_
      · simp [rngD]
        rw [if_pos (by omega)]
        simp
      · intro d hd
        obtain ⟨i, rfl, i0, i1⟩ := rngL_mem hd
        have m1 : ∀ t, binD .Mult (.int t) (.int k.b) = some (.val (.int (t * k.b))) := fun t => mul_int (mulOk_r (by omega) (by omega))
        have m2 : ∀ M : MH, idxD M (rodD r) (.int i) = some (.int (dg r i)) := fun M => idx_rod i0 (by rw [hr.1]; omega)
        have m3 : ∀ M : MH, idxD M (.lst (numsL k done)) (.int i) = some (.int (numOf k done i)) := fun M => idx_nums i0 (by omega)
        simp [wipeE, m1, m2, m3, intOf]
        simp [numOf]
      · simp
        exact ⟨done ++ [r], rest, by simp [e1], rfl, rfl⟩
theorem l_law_numbers_go {M : MH} {X : PX} {P : PE_} {ρ : Env} {k : Kd} {f : List (List Int)} (hk : OkK k) (hf : OkF k f) : callS sp_l_law_numbers [kD k, frD f] M X P ρ = P (.own (.lst (numsL k f))) ρ M :=
  callS_pur (k, f) rfl ⟨hk, hf⟩ (by
    rintro ⟨k', f'⟩ h
    simp at h
    obtain ⟨g1, g2⟩ := h
    obtain rfl := kD_eq g1
    obtain rfl := frD_inj g2
    rfl)
end Mi

set_option maxHeartbeats 2000000
/-! D4: stages by the numbers. -/
namespace Mi
open PySem PySem.Spec PyProof.Rows L2
theorem numsL_eq (k : Kd) (f : List (List Int)) : numsL k f = (numsI k f).map Dat.int := by
  unfold numsL numsI rngL
  simp [Function.comp_def, intOf]
theorem reck_all {k : Kd} (hk : OkK k) : ∀ (ps : List Pl) (f : List (List Int)), (∀ p ∈ ps, OkPl k p) → OkF k f → OkF k (leftBy k ps f) ∧ (leftBy k ps f).length = f.length := fun ps f h1 h2 => leftBy_ok hk ps f h1 h2
theorem numsI_lenI {k : Kd} (hk : OkK k) (f : List (List Int)) : ((numsI k f).length : Int) = k.d := by rw [numsI_len]; have := hk.d1; omega
/-! _law_stages(kind, text, frame) -/
def N_l_law_stages : List Str := ["kind", "text", "frame", "numbers", "size", "found", "step", "note"]
def b_l_law_stages : Ss := (.cons (.asgL [3, 4, 5] (.cons (.call "_law_numbers" (.cons (.var 0) (.cons (.var 2) .nil))) (.cons (.call "_law_raised" (.cons (.idx (.var 0) (.cst (.int 0))) (.cons (.bf .len (.var 2)) .nil))) (.cons (.lst .nil) .nil))))
    (.cons (.for_ (.var 6) (.seq (.call "_law_walks" (.cons (.var 1) .nil)))
    (.cons (.asgU [3, 7] (.call "_law_reckoned" (.cons (.var 0) (.cons (.var 6) (.cons (.var 3) (.cons (.var 4) .nil))))))
    (.cons (.app 5 (.tup (.cons (.call "_law_frame_of" (.cons (.var 0) (.cons (.var 3) (.cons (.bf .len (.var 2)) .nil)))) (.cons (.var 7) .nil))))
    .nil)))
    (.cons (.ret (.var 5))
    .nil)))
def g_l_law_stages : Kn := kn [("_law_walks", sp_l_law_walks), ("_law_frame_of", sp_l_law_frame_of), ("_law_reckoned", sp_l_law_reckoned), ("_law_raised", (sp_l_law_raised 8)), ("_law_numbers", sp_l_law_numbers)] [] []
@[simp ↓] theorem g_l_law_stages_l_law_walks : g_l_law_stages.fn "_law_walks" = some sp_l_law_walks := by kernel_rfl
@[simp ↓] theorem g_l_law_stages_l_law_frame_of : g_l_law_stages.fn "_law_frame_of" = some sp_l_law_frame_of := by kernel_rfl
@[simp ↓] theorem g_l_law_stages_l_law_reckoned : g_l_law_stages.fn "_law_reckoned" = some sp_l_law_reckoned := by kernel_rfl
@[simp ↓] theorem g_l_law_stages_l_law_raised : g_l_law_stages.fn "_law_raised" = some (sp_l_law_raised 8) := by kernel_rfl
@[simp ↓] theorem g_l_law_stages_l_law_numbers : g_l_law_stages.fn "_law_numbers" = some sp_l_law_numbers := by kernel_rfl

def sp_l_law_stages : Spec := pur (fun (a : Kd × List St' × List (List Int)) => [kD a.1, txD a.2.1, frD a.2.2]) (fun a => OkK a.1 ∧ OkT a.1 a.2.1 ∧ a.2.1.length ≤ 1000 ∧ OkF a.1 a.2.2 ∧ a.2.2.length ≤ 250)
  (fun a => .own (.lst ((walkAll a.1 (walksOf a.2.1) a.2.2).map pairD)))
theorem k_l_law_stages : Keeps g_l_law_stages N_l_law_stages.length 3 b_l_law_stages sp_l_law_stages := by
  rintro ds M Q X ⟨⟨k, t, f⟩, rfl, ⟨hk, ht, htl, hf, hl⟩, hQ⟩
  refine ⟨rfl, ?_⟩
  simp only at hk ht htl hf hl hQ
  have hz := okT_sz ht htl
  have hwl := walksOf_len hz.2
  have hz1 : 1 ≤ k.b ^ f.length := Int.pow_pos (by have := hk.b1; omega)
  have hz2 : (k.b ^ f.length).natAbs.log2 < 9000 := by have := pow_log hk.b1 hk.b2 f.length; omega
  simp [b_l_law_stages, startE, N_l_law_stages]
  rw [l_law_numbers_go hk hf, numsL_eq]
  simp
  rw [raised_go hk.b1 hk.b2 (by omega) (by omega) (by omega) (by omega)]
  simp [setAll]
  rw [l_law_walks_go hz]
  simp
  refine forS_inv (fun ds ρ M' => M' = M ∧ ∃ (done rest : List Pl) (s x y : Sl), walksOf t = done ++ rest ∧ ds = rest.map plD ∧ HasL s ((numsI k (leftBy k done f)).map Dat.int) ∧ ρ = [.val (kD k), .val (txD t), .val (frD f), s, .val (.int (k.b ^ f.length)), .own (.lst ((walkAll k done f).map pairD)), x, y]) ⟨rfl, [], walksOf t, _, .no, .no, rfl, rfl, .inr rfl, rfl⟩ ?_ ?_
  · rintro ρ M' ⟨rfl, done, rest, s, x, y, e1, h2, hs, rfl⟩
    obtain rfl : rest = [] := by simpa using h2.symm
    simp at e1
    rw [e1] at hQ
    simp [takeR]
    exact hQ
  · rintro d ds ρ M' ⟨rfl, done, rest, s, x, y, e1, h2, hs, rfl⟩
    cases rest with
    | nil => simp at h2
    | cons p rest =>
      simp at h2
      obtain ⟨rfl, rfl⟩ := h2
      have hp := ht.wk p (by rw [e1]; simp)
      obtain ⟨l1, l2⟩ := leftBy_ok hk done f (fun q hq => ht.wk q (by rw [e1]; simp [hq])) hf
      have lt : (walkAll k done f).length < sizeLine := by rw [walkAll_len, sizeLine_eq]; have := congrArg List.length e1; simp at this; omega
      have rw_ := reck_walk hk hp l1
      rw [l2] at rw_
      obtain ⟨wf, wl, _⟩ := walk_ok hk hp l1
      have fo := frameOf_nums hk _ wf
      rw [wl, l2] at fo
      have q1 := congrArg Prod.fst rw_
      have q2 := congrArg Prod.snd rw_
      simp only at q1 q2
      rcases hs with rfl | rfl
      all_goals
        simp
        rw [reckoned_go hk hp (numsI_lenI hk _) hz1 hz2, ← q1, ← q2]
        simp [tgtF, setAll, hasL]
        rw [frame_of_go hk (by rw [numsI_len]; have := hk.d2; omega) (by omega), fo]
        simp [appAt, lt]
        exact ⟨done ++ [p], rest, by simp [e1], rfl, _, .inl (by rw [leftBy_snoc]), rfl, by simp [walkAll_snoc, pairD]⟩
theorem l_law_stages_go {M : MH} {X : PX} {P : PE_} {ρ : Env} {k : Kd} {t : List St'} {f : List (List Int)} (hk : OkK k) (ht : OkT k t) (htl : t.length ≤ 1000) (hf : OkF k f) (hl : f.length ≤ 250) :
    callS sp_l_law_stages [kD k, txD t, frD f] M X P ρ = P (.own (.lst ((walkAll k (walksOf t) f).map pairD))) ρ M :=
  callS_pur (k, t, f) rfl ⟨hk, ht, htl, hf, hl⟩ (by
    rintro ⟨k', t', f'⟩ h
    simp at h
    obtain ⟨g1, g2, g3⟩ := h
    obtain rfl := kD_eq g1
    obtain rfl := frD_inj g3
    simp only [(walkAll_inj f' (txD_inj' g2)).1])
/-! _law_left(kind, text, frame) -/
def N_l_law_left : List Str := ["kind", "text", "frame", "found"]
def b_l_law_left : Ss := (.cons (.asg 3 (.call "_law_stages" (.cons (.var 0) (.cons (.var 1) (.cons (.var 2) .nil)))))
    (.cons (.ret (.ite (.cmp .NotEq (.var 3) (.lst .nil)) (.idx (.idx (.var 3) (.neg (.cst (.int 1)))) (.cst (.int 0))) (.var 2)))
    .nil))
def g_l_law_left : Kn := kn [("_law_stages", sp_l_law_stages)] [] []
@[simp ↓] theorem g_l_law_left_l_law_stages : g_l_law_left.fn "_law_stages" = some sp_l_law_stages := by kernel_rfl

def sp_l_law_left : Spec := pur (fun (a : Kd × List St' × List (List Int)) => [kD a.1, txD a.2.1, frD a.2.2]) (fun a => OkK a.1 ∧ OkT a.1 a.2.1 ∧ a.2.1.length ≤ 1000 ∧ OkF a.1 a.2.2 ∧ a.2.2.length ≤ 250)
  (fun a => .val (frD (leftBy a.1 (walksOf a.2.1) a.2.2)))
theorem left_last {k : Kd} : ∀ (ps : List Pl) (f : List (List Int)), ps ≠ [] → ∃ l w, walkAll k ps f = l ++ [w] ∧ w.1 = leftBy k ps f := by
  intro ps
  refine rev_ind (C := fun ps => ∀ f : List (List Int), ps ≠ [] → ∃ l w, walkAll k ps f = l ++ [w] ∧ w.1 = leftBy k ps f) ps (fun f h => absurd rfl h) fun ps p _ f _ => ?_
  exact ⟨walkAll k ps f, walk k p (leftBy k ps f), walkAll_snoc ps p f, (leftBy_snoc ps p f).symm⟩
@[simp] theorem plain_pairD (w : List (List Int) × Int) : (pairD w).plain = true := by simp [pairD]
theorem plain_pairs (l : List (List (List Int) × Int)) : plainAll (l.map pairD) = true := by
  induction l with
  | nil => simp
  | cons w l ih => simp [ih]
theorem k_l_law_left : Keeps g_l_law_left N_l_law_left.length 3 b_l_law_left sp_l_law_left := by
  rintro ds M Q X ⟨⟨k, t, f⟩, rfl, ⟨hk, ht, htl, hf, hl⟩, hQ⟩
  refine ⟨rfl, ?_⟩
  simp only at hk ht htl hf hl hQ
  have en : ∀ l : List (List (List Int) × Int), eqD (.lst (l.map pairD)) (.lst []) = some (l.isEmpty) := by
    intro l
    unfold eqD
    rw [if_pos (by simp [plain_pairs, Dat.dep, depAll])]
    cases l <;> simp [eqv, eqvAll]
  simp [b_l_law_left, startE, N_l_law_left]
  rw [l_law_stages_go hk ht htl hf hl]
  by_cases c : walksOf t = []
  · rw [c] at hQ ⊢
    have := en []
    simp at this
    simp [walkAll, this]
    exact hQ
  · obtain ⟨l, w, e, e2⟩ := left_last (k := k) (walksOf t) f c
    rw [e]
    have h1 := en (l ++ [w])
    have h2 : (l ++ [w]).isEmpty = false := by cases l <;> rfl
    rw [h2] at h1
    have h3 : ∀ M : MH, idxD M (.lst ((l ++ [w]).map pairD)) (.int (-1)) = some (pairD w) := by
      intro M
      show L2.atI ((l ++ [w]).map pairD) (-1) = _
      unfold L2.atI ixN
      rw [if_neg (by omega), if_pos (by simp; omega)]
      simp
      rw [List.getElem?_append_right (by simp; omega)]
      simp
      rw [show ((-1 + ((l.length : Int) + 1)).toNat - l.length) = 0 by omega]
      rfl
    have h4 : ∀ M : MH, idxD M (pairD w) (.int 0) = some (frD w.1) := fun M => by simp [pairD]
    rw [e2] at h4
    generalize ((l ++ [w]).map pairD) = L at h1 h3 ⊢
    simp [h1, h3, h4]
    exact hQ
theorem l_law_left_go {M : MH} {X : PX} {P : PE_} {ρ : Env} {k : Kd} {t : List St'} {f : List (List Int)} (hk : OkK k) (ht : OkT k t) (htl : t.length ≤ 1000) (hf : OkF k f) (hl : f.length ≤ 250) :
    callS sp_l_law_left [kD k, txD t, frD f] M X P ρ = P (.val (frD (leftBy k (walksOf t) f))) ρ M :=
  callS_pur (k, t, f) rfl ⟨hk, ht, htl, hf, hl⟩ (by
    rintro ⟨k', t', f'⟩ h
    simp at h
    obtain ⟨g1, g2, g3⟩ := h
    obtain rfl := kD_eq g1
    obtain rfl := frD_inj g3
    simp only [(walkAll_inj f' (txD_inj' g2)).2])
end Mi

set_option maxHeartbeats 1000000
/-! B9: the law. -/
namespace Mi
open PySem PySem.Spec PyProof.Rows L2
def lamS : Sl → Sl
  | .own _ => .no
  | s => s
@[simp] theorem lamS_v (d : Dat) : lamS (.val d) = .val d := id rfl
@[simp] theorem lamE_cons (s : Sl) (ρ : Env) : lamE (s :: ρ) = lamS s :: lamE ρ := by cases s <;> rfl
mutual
theorem eqv_self : ∀ d : Dat, d.plain = true → eqv d d = true
  | .non, _ => by simp [eqv]
  | .bl b, _ => by simp [eqv]
  | .int i, _ => by simp [eqv]
  | .str s, _ => by simp [eqv]
  | .tup ds, h => by
    have h : plainAll ds = true := by simpa using h
    simp only [eqv]; exact eqvAll_self ds h
  | .lst ds, h => by
    have h : plainAll ds = true := by simpa using h
    simp only [eqv]; exact eqvAll_self ds h
  | .fn _, h => by simp [Dat.plain] at h
  | .ref _, h => by simp [Dat.plain] at h
  | .ty _, h => by simp [Dat.plain] at h
  | .scr _, h => by simp [Dat.plain] at h
theorem eqvAll_self : ∀ ds : List Dat, plainAll ds = true → eqvAll ds ds = true
  | [], _ => rfl
  | d :: ds, h => by
    have h : d.plain = true ∧ plainAll ds = true := by simpa using h
    simp only [eqvAll, eqv_self d h.1, eqvAll_self ds h.2, Bool.and_self]
end
theorem eqD_self {d : Dat} (h : d.plain = true) (hd : d.dep ≤ 60) : eqD d d = some true := by
  unfold eqD
  rw [if_pos (by simp [h]; omega), eqv_self d h]
theorem plain_map {α : Type} {l : List α} {g : α → Dat} (h : ∀ a ∈ l, (g a).plain = true) : plainAll (l.map g) = true := by
  induction l with
  | nil => simp
  | cons a l ih => simp [h a (by simp), ih fun b hb => h b (by simp [hb])]
theorem dep_map {α : Type} {l : List α} {g : α → Dat} {n : Nat} (h : ∀ a ∈ l, (g a).dep ≤ n) : depAll (l.map g) ≤ n := by
  induction l with
  | nil => simp
  | cons a l ih =>
    have h1 := h a (by simp)
    have h2 := ih fun b hb => h b (by simp [hb])
    simp; omega
theorem eq_nums (k : Kd) (f : List (List Int)) : eqD (.lst (numsL k f)) (.lst (numsL k f)) = some true := by
  refine eqD_self ?_ ?_
  · have := plain_map (l := rngL 0 k.d.toNat) (g := fun d => .int (numOf k f (intOf d))) (by simp)
    simpa [numsL] using this
  · have := dep_map (l := rngL 0 k.d.toNat) (g := fun d => .int (numOf k f (intOf d))) (n := 0) (by simp)
    simp only [numsL, Dat.dep]; omega
theorem eq_wk (k : Kd) (t : List St') : eqD (.lst (wkL k t)) (.lst (wkL k t)) = some true := by
  refine eqD_self ?_ ?_
  · have := plain_map (l := walksOf t) (g := fun p => .tup [sideW p, .int (width k p)]) (by simp [sideW])
    simpa [wkL] using this
  · have := dep_map (l := walksOf t) (g := fun p => .tup [sideW p, .int (width k p)]) (n := 1) (by simp [sideW])
    simp only [wkL, Dat.dep]; omega
theorem fl_in (p : Pl) : inD (.str (wS p.w.n)) (.tup [.str (wS 3), .str (wS 4), .str (wS 10)]) = some (fromLeft p) := by
  obtain ⟨w, i, x⟩ := p
  cases w <;> simp [Wd.n, fromLeft]
/-! ### values that are none -/
theorem bad_app {k : Kd} {f : List (List Int)} {x : Dat} {m : Int} (h : ∀ r, x = rodD r → OkR k r → False) : areRods k (.tup (f.map rodD ++ [x])) m = false :=
  areRods_false fun f' e hf _ => by
    simp only [frD, Dat.tup.injEq] at e
    have : x ∈ f'.map rodD := by rw [← e]; simp
    obtain ⟨r, hr, e2⟩ := List.mem_map.mp this
    exact h r e2.symm (hf r hr)
theorem bad_appT {k : Kd} {t : List St'} {x : Dat} (h : ∀ s, x = stD s → OkSt k s → False) : isTextV k (.tup (t.map stD ++ [x])) = false :=
  isTextV_false fun t' e ht _ => by
    simp only [txD, Dat.tup.injEq] at e
    have : x ∈ t'.map stD := by rw [← e]; simp
    obtain ⟨r, hr, e2⟩ := List.mem_map.mp this
    exact h r e2.symm (ht r hr)
theorem st_no {k : Kd} {s : St'} {x : Dat} (e : x = stD s) (h : OkSt k s) (n : isStep k x = false) : False := by
  rw [e, isStep_st h] at n; cases n
theorem frs_bad {k : Kd} (hk : OkK k) (f : List (List Int)) : ∀ d ∈ ([.non, .lst (f.map rodD), .tup (f.map rodD ++ [.non]), .tup (f.map rodD ++ [.tup [.int 0, .int 0, .int 0, .int 0]]), .str (wS 49)] : List Dat), d.plain = true ∧ areRods k d 60 = false := by
  have hp : plainAll (f.map rodD) = true := plain_map (by simp)
  have ha : ∀ {a b : List Dat}, plainAll a = true → plainAll b = true → plainAll (a ++ b) = true := by
    intro a b h1 h2
    induction a with
    | nil => exact h2
    | cons x a ih =>
      have h : x.plain = true ∧ plainAll a = true := by simpa using h1
      simp [h.1, ih h.2]
  have d2 := hk.d2
  intro d hd
  simp only [List.mem_cons, List.not_mem_nil, or_false] at hd
  rcases hd with rfl | rfl | rfl | rfl | rfl
  · exact ⟨rfl, areRods_false fun f' e _ _ => by cases e⟩
  · exact ⟨by simpa using hp, areRods_false fun f' e _ _ => by cases e⟩
  · exact ⟨by simpa using ha hp (by simp), bad_app fun r e _ => by cases e⟩
  · refine ⟨by simpa using ha hp (by simp), bad_app fun r e hr => ?_⟩
    simp only [rodD, Dat.tup.injEq] at e
    have := congrArg List.length e
    simp at this
    have := hr.1
    omega
  · exact ⟨rfl, areRods_false fun f' e _ _ => by cases e⟩
theorem txs_bad {k : Kd} (hk : OkK k) (t : List St') : ∀ d ∈ ([.non, .lst (t.map stD), .tup (t.map stD ++ [.non]), .tup [.tup [.str (wS 2), .int 0, .int 1]], .tup [.tup [.str (wS 7), .int 0, .int 0]], .str (wS 37)] : List Dat), d.plain = true ∧ isTextV k d = false := by
  have hp : plainAll (t.map stD) = true := plain_map (by simp)
  have ha : ∀ {a b : List Dat}, plainAll a = true → plainAll b = true → plainAll (a ++ b) = true := by
    intro a b h1 h2
    induction a with
    | nil => exact h2
    | cons x a ih =>
      have h : x.plain = true ∧ plainAll a = true := by simpa using h1
      simp [h.1, ih h.2]
  have d1 := hk.d1
  intro d hd
  simp only [List.mem_cons, List.not_mem_nil, or_false] at hd
  rcases hd with rfl | rfl | rfl | rfl | rfl | rfl
  · exact ⟨rfl, isTextV_false fun f' e _ _ => by cases e⟩
  · exact ⟨by simpa using hp, isTextV_false fun f' e _ _ => by cases e⟩
  · exact ⟨by simpa using ha hp (by simp), bad_appT fun s e h => st_no e h (by rw [isStep_n (by intro w n c e; cases e)]; rfl)⟩
  · refine ⟨by simp, bad_appT (t := []) fun s e h => st_no e h ?_⟩
    rw [isStep_w (by simp), show wS 2 = wS (Wd.times).n from rfl, isPlain3]
    simp [Wd.tri]
  · refine ⟨by simp, bad_appT (t := []) fun s e h => st_no e h ?_⟩
    rw [isStep_w (by simp), show wS 7 = wS (Wd.more).n from rfl, isPlain3]
    simp [Wd.tri]
  · exact ⟨rfl, isTextV_false fun f' e _ _ => by cases e⟩
end Mi

set_option maxHeartbeats 2000000
/-! E2: the law. -/
namespace Mi
open PySem PySem.Spec PyProof.Rows L2
/-! law(script) -/
def N_law : List Str := ["script", "k", "bag", "turn", "kind", "text", "frame", "due", "here", "new", "note", "found"]
def b_law : Ss := (.cons (.for_ (.var 1) (.rng (.cons (.bf2 .max (.cst (.int 1)) (.bf2 .min (.cst (.int 10)) (.bf .len (.var 0)))) .nil))
    (.cons (.asg 2 (.call "_law_bag" (.cons (.var 0) (.cons (.var 1) .nil))))
    (.cons (.for_ (.var 3) (.rng (.cons (.cst (.int 5)) .nil))
    (.cons (.asg 4 (.call "_law_kind" (.cons (.var 2) .nil)))
    (.cons (.asgU [5, 6] (.tup (.cons (.call "_law_text" (.cons (.var 2) (.cons (.var 4) (.cons (.cst (.int 6)) (.cons (.cst (.int 40)) .nil))))) (.cons (.call "_law_frame" (.cons (.var 2) (.cons (.var 4) (.cons (.call "_law_pick" (.cons (.var 2) (.cons (.lst (.cons (.cst (.int 1)) (.cons (.cst (.int 3)) (.cons (.cst (.int 8)) (.cons (.cst (.int 30)) .nil))))) .nil))) .nil)))) .nil))))
    (.cons (.asgL [7, 8] (.cons (.cst (.int 0)) (.cons (.var 6) .nil)))
    (.cons (.for_ (.tup [9, 10]) (.seq (.call "_law_stages" (.cons (.var 4) (.cons (.var 5) (.cons (.var 6) .nil)))))
    (.cons (.asgL [7, 8] (.cons (.bin .Add (.var 7) (.call "_law_cost" (.cons (.var 4) (.cons (.var 8) (.cons (.var 9) .nil))))) (.cons (.var 9) .nil)))
    .nil))
    (.cons (.asg 11 (.call "moves" (.cons (.var 4) (.cons (.var 5) (.cons (.var 6) .nil)))))
    (.cons (.ife (.bop .Or (.cons (.cmp .NotEq (.var 11) (.var 7)) (.cons (.isi (.var 11) .bool) .nil)))
    (.cons (.ret (.cst (.bl false)))
    .nil)
    .nil)
    .nil)))))))
    (.cons (.ife (.cmp .NotEq (.lcall [] (.call "moves" (.cons (.var 4) (.cons (.var 5) (.cons (.cst .non) .nil))))) (.tup (.cons (.cst (.str (wS 35))) .nil)))
    (.cons (.ret (.cst (.bl false)))
    .nil)
    .nil)
    (.cons (.ife (.cmp .NotEq (.lcall [] (.call "moves" (.cons (.var 4) (.cons (.cst .non) (.cons (.cst .non) .nil))))) (.tup (.cons (.cst (.str (wS 31))) (.cons (.cst (.int 0)) .nil))))
    (.cons (.ret (.cst (.bl false)))
    .nil)
    .nil)
    .nil)))))
    (.cons (.ret (.cmp .Eq (.call "moves" (.cons (.tup (.cons (.cst (.int 10)) (.cons (.cst (.int 5)) (.cons (.cst (.int 2)) .nil)))) (.cons (.tup (.cons (.tup (.cons (.cst (.str (wS 2))) (.cons (.cst (.int 0)) (.cons (.cst (.int 7)) .nil)))) (.cons (.tup (.cons (.cst (.str (wS 7))) (.cons (.cst (.int 0)) .nil))) (.cons (.tup (.cons (.cst (.str (wS 1))) (.cons (.cst (.int 0)) (.cons (.cst (.int 1)) .nil)))) .nil)))) (.cons (.tup (.cons (.tup (.cons (.cst (.int 0)) (.cons (.cst (.int 0)) .nil))) (.cons (.tup (.cons (.cst (.int 4)) (.cons (.cst (.int 7)) .nil))) (.cons (.tup (.cons (.cst (.int 9)) (.cons (.cst (.int 5)) .nil))) .nil)))) .nil)))) (.cst (.int 12))))
    .nil))
def g_law : Kn := kn [("moves", sp_moves), ("_law_stages", sp_l_law_stages), ("_law_cost", sp_l_law_cost), ("_law_frame", sp_l_law_frame), ("_law_pick", sp_l_law_pick), ("_law_text", sp_l_law_text), ("_law_kind", sp_l_law_kind), ("_law_bag", sp_l_law_bag)] [] [] [] [("InvalidKind", ((wS 48), none)), ("InvalidFrame", ((wS 35), none)), ("InvalidText", ((wS 31), (some ("line" : Str))))]
@[simp ↓, simp] theorem td_law_InvalidKind : toldX g_law.kd ⟨"InvalidKind", none⟩ = some (.tup [.str (wS 48)]) := by kernel_rfl
@[simp ↓, simp] theorem td_law_InvalidFrame : toldX g_law.kd ⟨"InvalidFrame", none⟩ = some (.tup [.str (wS 35)]) := by kernel_rfl
@[simp ↓, simp] theorem td_law_InvalidText (d : Dat) : toldX g_law.kd ⟨"InvalidText", some ("line", d)⟩ = some (.tup [.str (wS 31), d]) := by kernel_rfl
@[simp ↓] theorem g_law_moves : g_law.fn "moves" = some sp_moves := by kernel_rfl
@[simp ↓] theorem g_law_l_law_stages : g_law.fn "_law_stages" = some sp_l_law_stages := by kernel_rfl
@[simp ↓] theorem g_law_l_law_cost : g_law.fn "_law_cost" = some sp_l_law_cost := by kernel_rfl
@[simp ↓] theorem g_law_l_law_frame : g_law.fn "_law_frame" = some sp_l_law_frame := by kernel_rfl
@[simp ↓] theorem g_law_l_law_pick : g_law.fn "_law_pick" = some sp_l_law_pick := by kernel_rfl
@[simp ↓] theorem g_law_l_law_text : g_law.fn "_law_text" = some sp_l_law_text := by kernel_rfl
@[simp ↓] theorem g_law_l_law_kind : g_law.fn "_law_kind" = some sp_l_law_kind := by kernel_rfl
@[simp ↓] theorem g_law_l_law_bag : g_law.fn "_law_bag" = some sp_l_law_bag := by kernel_rfl

@[simp] theorem eqT1 (s : Str) : eqD (.tup [.str s]) (.tup [.str s]) = some true := eqD_self (by simp) (by simp [Dat.dep, depAll])
@[simp] theorem eqT2 (s : Str) (i : Int) : eqD (.tup [.str s, .int i]) (.tup [.str s, .int i]) = some true := eqD_self (by simp) (by simp [Dat.dep, depAll])
@[simp] theorem eqI (i : Int) : eqD (.int i) (.int i) = some true := eqD_self (by simp) (by simp [Dat.dep])
theorem last_moves {M : MH} {X : PX} {P : PE_} {ρ : Env} : callS sp_moves [.tup [.int 10, .int 5, .int 2], .tup [.tup [.str (wS 2), .int 0, .int 7], .tup [.str (wS 7), .int 0], .tup [.str (wS 1), .int 0, .int 1]], .tup [.tup [.int 0, .int 0], .tup [.int 4, .int 7], .tup [.int 9, .int 5]]] M X P ρ = P (.val (.int 12)) ρ M := by
  have hk : OkK ⟨10, 5, 2⟩ := ⟨by decide, by decide, by decide, by decide, by decide, by decide, by decide⟩
  have h : Ok3 ⟨10, 5, 2⟩ [.pl ⟨.times, 0, 7⟩, .pl ⟨.more, 0, 0⟩, .pl ⟨.less, 0, 1⟩] [[0, 0], [4, 7], [9, 5]] := by
    refine ⟨hk, ?_, by decide, ?_, by decide⟩
    · intro s hs
      simp at hs
      rcases hs with rfl | rfl | rfl <;> exact ⟨by decide, by decide, by simp⟩
    · intro r hr
      simp at hr
      rcases hr with rfl | rfl | rfl <;> exact ⟨by decide, by decide⟩
  have e := moves_go (M := M) (X := X) (P := P) (ρ := ρ) h
  have e2 : movesOf 5 (walkAll ⟨10, 5, 2⟩ (walksOf [.pl ⟨.times, 0, 7⟩, .pl ⟨.more, 0, 0⟩, .pl ⟨.less, 0, 1⟩]) [[0, 0], [4, 7], [9, 5]]) [[0, 0], [4, 7], [9, 5]] = 12 := by decide +kernel
  simp only [e2] at e
  exact e
theorem k_law : Keeps g_law N_law.length 1 b_law (lawSpec 63) := by
  rintro ds M Q X ⟨⟨ns, rfl, hn⟩, hQ⟩
  refine ⟨rfl, ?_⟩
  have ln : ∀ M : MH, callD M .len (.scr ns) = some (.val (.int ns.length)) := fun _ => rfl
  have mn : call2D .min (.int 10) (.int ns.length) = some (.val (.int (if (ns.length : Int) < 10 then ns.length else 10))) := rfl
  have mx : ∀ t : Int, call2D .max (.int 1) (.int t) = some (.val (.int (if t > 1 then t else 1))) := fun _ => rfl
  simp [b_law, startE, N_law, ln, mn, mx, rngD]
  rw [if_pos (by split <;> split <;> omega)]
  simp
  refine forS_inv (fun ds ρ M' => ∃ (n m : Nat) (x1 x2 x3 x4 x5 x6 x7 x8 x9 x10 x11 : Sl), ds = rngL n m ∧ n + m ≤ 10 ∧ ρ = [.val (.scr ns), x1, x2, x3, x4, x5, x6, x7, x8, x9, x10, x11]) ⟨0, _, .no, .no, .no, .no, .no, .no, .no, .no, .no, .no, .no, rfl, by split <;> omega, rfl⟩ ?_ ?_
  · rintro ρ M' ⟨n, m, x1, x2, x3, x4, x5, x6, x7, x8, x9, x10, x11, e1, e2, rfl⟩
    simp
    rw [last_moves]
    simp
    exact hQ _
  · rintro d ds ρ M' ⟨n, m, x1, x2, x3, x4, x5, x6, x7, x8, x9, x10, x11, e1, e2, rfl⟩
    obtain ⟨m', rfl, rfl, rfl⟩ := rngL_cons e1
    simp
    rw [bag_go]
    refine ⟨by omega, by omega, fun a M1 _ hd => ?_⟩
    simp [rngD]
    refine forS_inv (fun ds ρ M' => Dr M' a ∧ ∃ (i j : Nat) (x3 x4 x5 x6 x7 x8 x9 x10 x11 : Sl), ds = rngL i j ∧ i + j = 5 ∧ (i = 0 ∨ ∃ k t, OkK k ∧ OkT k t ∧ isText k t = true ∧ x4 = .val (kD k) ∧ x5 = .val (txD t)) ∧ ρ = [.val (.scr ns), .val (.int n), .val (.ref a), x3, x4, x5, x6, x7, x8, x9, x10, x11]) ⟨hd, 0, 5, _, _, _, _, _, _, _, _, _, rfl, rfl, .inl rfl, rfl⟩ ?_ ?_
    · rintro ρ M2 ⟨hd2, i, j, x3, x4, x5, x6, x7, x8, x9, x10, x11, e3, e4, h5, rfl⟩
      obtain rfl := rngL_nil e3
      rcases h5 with h5 | ⟨k, t, hk, ht, hx, rfl, rfl⟩
      · omega
      have tt : isTextV k (txD t) = true := by rw [isTextV_tx ht]; exact hx
      have tn : isTextV k .non = false := isTextV_false fun f' e _ _ => by cases e
      have fn : areRods k .non 60 = false := areRods_false fun f' e _ _ => by cases e
      simp
      refine lcall_go ?_
      simp
      rw [moves_goV hk (plain_txD t) rfl, tt, fn]
      simp [eF]
      refine lcall_go ?_
      simp
      rw [moves_goV hk rfl rfl, tn]
      simp [eT]
      exact ⟨n + 1, m', by push_cast; rfl, by omega⟩
    · rintro d ds ρ M2 ⟨hd2, i, j, x3, x4, x5, x6, x7, x8, x9, x10, x11, e3, e4, h5, rfl⟩
      obtain ⟨j', rfl, rfl, rfl⟩ := rngL_cons e3
      simp
      rw [kind_go]
      refine ⟨hd2, fun k M3 hk hd3 => ?_⟩
      simp
      rw [text_go]
      refine ⟨hk, hd3, by omega, by omega, by omega, fun t M4 ht hx hd4 => ?_⟩
      simp
      rw [pick_go]
      refine ⟨hd4, by simp, by simp, fun dd M5 hdd hd5 => ?_⟩
      obtain ⟨c, rfl, c0, c1⟩ : ∃ c : Int, dd = .int c ∧ 0 ≤ c ∧ c ≤ 60 := by
        simp only [List.mem_cons, List.not_mem_nil, or_false] at hdd
        rcases hdd with rfl | rfl | rfl | rfl <;> exact ⟨_, rfl, by omega, by omega⟩
      simp
      rw [frame_go]
      refine ⟨hk, hd5, c0, by omega, fun f M6 hf lf hd6 => ?_⟩
      have lt := isText_len hx
      have h3 : Ok3 k t f := ⟨hk, ht, hx, hf, by omega⟩
      have htl : t.length ≤ 1000 := by omega
      have hfl : f.length ≤ 250 := by omega
      simp [tgtF, setAll]
      rw [l_law_stages_go hk ht htl hf hfl]
      simp
      refine forS_inv (fun ds ρ M' => M' = M6 ∧ ∃ (rest : List (List (List Int) × Int)) (here : List (List Int)) (z : Int) (x9 x10 : Sl), ds = rest.map pairD ∧ (∀ w ∈ rest, OkF k w.1 ∧ w.1.length = f.length) ∧ OkF k here ∧ here.length = f.length ∧
        z + movesOf k.f rest here = movesOf k.f (walkAll k (walksOf t) f) f ∧ ρ = [.val (.scr ns), .val (.int n), .val (.ref a), .val (.int i), .val (kD k), .val (txD t), .val (frD f), .val (.int z), .val (frD here), x9, x10, x11])
        ⟨rfl, walkAll k (walksOf t) f, f, 0, _, _, rfl, walkAll_ok hk _ _ (OkT.wk ht) hf, hf, rfl, by simp, rfl⟩ ?_ ?_
      · rintro ρ M7 ⟨rfl, rest, here, z, x9, x10, e6, _, _, _, e7, rfl⟩
        obtain rfl : rest = [] := by simpa using e6.symm
        simp [movesOf] at e7
        have ib : ∀ i : Int, isD .bool (.int i) = some false := fun _ => rfl
        simp
        rw [moves_go h3]
        simp [e7, ib]
        refine ⟨hd6, i + 1, j', by push_cast; rfl, by omega, ?_⟩
        exact ⟨_, _, _, .inr ⟨k, hk, t, ht, hx, rfl, rfl⟩, rfl, rfl, rfl⟩
      · rintro d ds ρ M7 ⟨rfl, rest, here, z, x9, x10, e6, e8, e9, e10, e7, rfl⟩
        cases rest with
        | nil => simp at e6
        | cons w rest =>
          simp at e6
          obtain ⟨rfl, rfl⟩ := e6
          have e11 : here.length ≤ 1000 := by omega
          obtain ⟨g1, g2⟩ := e8 w (by simp)
          have e12 : w.1.length ≤ 1000 := by omega
          simp [pairD, tgtF, setAll, hk, e9, e11, g1, e12]
          exact ⟨rest, rfl, fun a b hab => e8 (a, b) (List.mem_cons_of_mem _ hab), w.1, g1, g2, _, by simp only [movesOf] at e7; rw [← e7, Int.add_assoc], rfl, rfl⟩
end Mi

set_option maxHeartbeats 4000000
/-! Mi21: the link: the law's def, tables, the end. -/
namespace Mi
open PySem PySem.Spec PyProof.Rows L2
section
variable {P : Program} {w : World} {K : PySem.W.Frag} {mg : Str → Option Value} {T : List (Addr × Str)} {base : Heap}
/-- a def as a FnOk -/
theorem ok_of {Γ : Kn} {κ : Nat} {x qual : Str} {params : Arguments} {body : List Stmt} {scope : Scope} {kws : List (Str × V)} {f : Addr} {fd : FuncData} {N ps : List Str} {ss : Ss} {Sx : Spec}
    (F : FunD K x qual params body scope [] kws f fd) (Sc : FnScope N ps scope)
    (chk : chkSs ⟨N, scope, scope, false⟩ ss body = true) (kept : Keeps Γ N.length ps.length ss Sx)
    (fn : ∀ f S, Γ.fn f = some S → Fk P w K mg T base κ f S) (gl : ∀ x d, Γ.gl x = some d → Gk K mg x d) (bt : ∀ x, x ∈ btNames → mg x = none) (tb : ∀ t l, Γ.tab t = some l → Tk K w mg t l)
    (ex : ∀ c a, Γ.exc c = some a → Ek P w K mg base κ c a) :
    FnOk P w K mg base (L2N.CX P w) (κ + 1) f fd ps (spOf K mg T ps.length Sx) := by
  refine F.ok Sc ?_ ?_
  · rintro vs H Q E ⟨F0, M, ds, Q0, X0, hmr, hr, hl, _⟩
    rw [hr.length, hl]
  · rintro cdv A outer s H vs Q E hroom ⟨F0, M, ds, Q0, X0, hmr, hr, hl, hpre, hpost, hx⟩
    have hvl := hr.length
    let C : Gh := ⟨K, mg, T, H, F0, M⟩
    have O : Okc (cxOf (L2N.CX P w) P w K mg base N qual scope f cdv A outer s H E) C Γ κ ⟨N, scope, scope, false⟩ X0 :=
      { K := rfl, mg := rfl, N := rfl, sc := rfl, nd := Sc.nd, calm := rfl, room := hroom, fn := fn, gl := gl, bt := bt, tb := tb, ex := ex
        xp := (L2N.takes_of rfl rfl rfl rfl).imp fun c d σ H' ⟨e, F', M', h1, h2, h3⟩ => hx e M' F' c d H' h3 h1 h2
        lk := fun z => nomatch z
        rl := fun x h => h
        rc := fun x h => ⟨h, rfl⟩ }
    refine ⟨_, sndSs O (passes_of rfl) ss chk, F0, startE N.length ds, M, { nx := fun _ M' => Q0 (.val .non) M', rt := Q0 }, ?_, (kept ds M Q0 X0 hpre).2, ?_, ?_, fun _ _ _ _ _ z => z.elim, fun _ _ _ _ _ z => z.elim⟩
    · have hpl : ps.length ≤ N.length := by have := congrArg List.length Sc.pre; rw [List.length_take] at this; omega
      exact MR.start hmr hr N.length (by omega)
    · intro ρ M' F' σ H' h s' r
      exact hpost (.val .non) M' F' .non H' h r.end_ ((rep_non (K := K) (mg := mg) (F := F')).mpr rfl)
    · intro q M' F' x H' h1 h2 h3
      exact hpost q M' F' x H' h1 h2 h3
/-- a def with lambdas; its code object is known -/
theorem ok_ofL {Γ : Kn} {κ : Nat} {x qual : Str} {params : Arguments} {body : List Stmt} {scope : Scope} {kws : List (Str × V)} {f : Addr} {fd : FuncData} {N ps : List Str} {ss : Ss} {Sx : Spec}
    (F : FunD K x qual params body scope [] kws f fd) (Sc : FnScope N ps scope)
    (chk : chkSs ⟨N, scope, scope, true⟩ ss body = true) (kept : Keeps Γ N.length ps.length ss Sx)
    (fn : ∀ f S, Γ.fn f = some S → Fk P w K mg T base κ f S) (gl : ∀ x d, Γ.gl x = some d → Gk K mg x d) (bt : ∀ x, x ∈ btNames → mg x = none) (tb : ∀ t l, Γ.tab t = some l → Tk K w mg t l)
    (ex : ∀ c a, Γ.exc c = some a → Ek P w K mg base κ c a)
    (lk : ∀ (oc : Value) (od : Option Addr) (dV kV doc pm : Value) (an : Option Addr) (cdv ct : Value) (osl : Array (Option Value)) (A : Around) (outer : List PySem.Env) (s : Shared) (H : Hp) (E : XK), fd = PySem.W.fnOf x qual params body scope dV kV doc pm an cdv ct → K.lookup f = some ⟨oc, od, .func fd, osl⟩ → PySem.W.codeIn K cdv qual = true → Room κ (A.deeper (envOfC qual scope s.heap.objs.size f cdv)) →
      ∃ κ', LamOk (cxOf (L2N.CX P w) P w K mg base N qual scope f cdv A outer s H E) T κ' Γ.kd ∧ (∀ f S, Γ.fn f = some S → Fk P w K mg T base κ' f S) ∧ (∀ c a, Γ.exc c = some a → Ek P w K mg base κ' c a) ∧ ∀ c t a, Γ.kd c = some (t, a) → t.length ≤ sizeLine) :
    FnOk P w K mg base (L2N.CX P w) (κ + 1) f fd ps (spOf K mg T ps.length Sx) := by
  obtain ⟨oc, od, dV, kV, doc, pm, an, cdv, ct, osl, rfl, lkp, hcd, _, _⟩ := F.ex
  refine fn_of lkp hcd Sc ?_ ?_
  · rintro vs H Q E ⟨F0, M, ds, Q0, X0, hmr, hr, hl, _⟩
    rw [hr.length, hl]
  · rintro A outer s H vs Q E hroom ⟨F0, M, ds, Q0, X0, hmr, hr, hl, hpre, hpost, hx⟩
    have hvl := hr.length
    let C : Gh := ⟨K, mg, T, H, F0, M⟩
    have O : Okc (cxOf (L2N.CX P w) P w K mg base N qual scope f cdv A outer s H E) C Γ κ ⟨N, scope, scope, true⟩ X0 :=
      { K := rfl, mg := rfl, N := rfl, sc := rfl, nd := Sc.nd, calm := rfl, room := hroom, fn := fn, gl := gl, bt := bt, tb := tb, ex := ex
        xp := (L2N.takes_of rfl rfl rfl rfl).imp fun c d σ H' ⟨e, F', M', h1, h2, h3⟩ => hx e M' F' c d H' h3 h1 h2
        lk := fun _ => lk oc od dV kV doc pm an cdv ct osl A outer s H E rfl lkp hcd hroom
        rl := fun x h => h
        rc := fun x h => ⟨h, rfl⟩ }
    refine ⟨_, sndSs O (passes_of rfl) ss chk, F0, startE N.length ds, M, { nx := fun _ M' => Q0 (.val .non) M', rt := Q0 }, ?_, (kept ds M Q0 X0 hpre).2, ?_, ?_, fun _ _ _ _ _ z => z.elim, fun _ _ _ _ _ z => z.elim⟩
    · have hpl : ps.length ≤ N.length := by have := congrArg List.length Sc.pre; rw [List.length_take] at this; omega
      exact MR.start hmr hr N.length (by omega)
    · intro ρ M' F' σ H' h s' r
      exact hpost (.val .non) M' F' .non H' h r.end_ ((rep_non (K := K) (mg := mg) (F := F')).mpr rfl)
    · intro q M' F' x H' h1 h2 h3
      exact hpost q M' F' x H' h1 h2 h3
end
/-- a table with text keys and ints -/
theorem nsIn_none {K : PySem.W.Frag} {a : Addr} {ks : List Str} {Pm : Params} {z : Str} (e : He.dicW K a = some (He.keysIn Pm ks)) (h : z ∉ ks) : PySem.W.nsIn K a z = some none := by
  unfold He.dicW at e
  unfold PySem.W.nsIn
  split at e
  · rename_i c es n sl q
    rw [q]
    split at e
    · have e2 : ∀ (l : List DictEntry) (ks : List Str), l.map He.keyOf = He.keysIn Pm ks → z ∉ ks → l.find? (fun x => x.key.isStr z) = none ∧ l.any (fun x => x.refKey) = false := by
        intro l
        induction l with
        | nil => intro ks _ _; exact ⟨rfl, rfl⟩
        | cons x l ih =>
          intro ks e h
          cases ks with
          | nil => cases e
          | cons k ks =>
            have e3 : He.keyOf x :: l.map He.keyOf = some (k, PyData.keyHash Pm k) :: He.keysIn Pm ks := e
            injection e3 with e4 e5
            obtain ⟨i1, i2⟩ := ih ks e5 (fun m => h (by simp [m]))
            unfold He.keyOf at e4
            split at e4
            · rename_i y t hk
              obtain ⟨rfl, _⟩ := Prod.mk.inj (Option.some.inj e4)
              have hne : (y == z) = false := by
                have : y ≠ z := fun m => h (by simp [m])
                simpa using this
              refine ⟨?_, ?_⟩
              · have e6 : x.key.isStr z = false := by rw [hk]; exact hne
                rw [List.find?_cons, e6]
                exact i1
              · have e6 : x.refKey = false := by unfold DictEntry.refKey; rw [hk]
                rw [List.any_cons, e6, i2]; rfl
            · cases e4
      obtain ⟨g1, g2⟩ := e2 es.toList ks (Option.some.inj e) h
      show (match es.toList.find? (fun x => x.key.isStr z) with
        | some e => some (some e.val)
        | none => if es.toList.any (fun x => x.refKey) then none else some none) = some none
      rw [g1, g2]
      rfl
    · cases e
  · cases e
theorem getS_map {l : List (Str × Int)} {z : Str} {d : Dat} (h : getS z (l.map fun p => (p.1, Dat.int p.2)) = some d) : ∃ i, (z, i) ∈ l ∧ d = .int i := by
  induction l with
  | nil => cases h
  | cons p l ih =>
    simp only [List.map_cons, getS] at h
    split at h
    · rename_i e; cases h; exact ⟨p.2, by simp [e], rfl⟩
    · obtain ⟨i, a, b⟩ := ih h; exact ⟨i, by simp [a], b⟩
theorem getS_none {l : List (Str × Int)} {z : Str} (h : getS z (l.map fun p => (p.1, Dat.int p.2)) = none) : z ∉ l.map (·.1) := by
  induction l with
  | nil => simp
  | cons p l ih =>
    simp only [List.map_cons, getS] at h
    split at h
    · cases h
    · rename_i e; simp only [List.map_cons, List.mem_cons, not_or]; exact ⟨e, ih h⟩
theorem tk_of {K : PySem.W.Frag} {w : World} {mg : Str → Option Value} {t : Str} {a : Addr} (l : List (Str × Int)) (hg : mg t = some (.ref a)) (e : He.dicW K a = some (He.keysIn w.params (l.map (·.1)))) (v : He.valsB K a (l.map fun p => (p.1, He.Dv.int p.2)) = true) :
    Tk K w mg t (l.map fun p => (p.1, Dat.int p.2)) := by
  obtain ⟨es, n, hd⟩ := He.dicW_ok e
  refine ⟨a, es, n, hg, hd, fun z => ?_⟩
  cases h : getS z (l.map fun p => (p.1, Dat.int p.2)) with
  | none => exact nsIn_none e (getS_none h)
  | some d =>
    obtain ⟨i, hm, rfl⟩ := getS_map h
    obtain ⟨u, h1, h2⟩ := He.valsB_ok v (q := (z, .int i)) (List.mem_map.mpr ⟨(z, i), hm, rfl⟩)
    exact ⟨u, .int i, h1, h2, rep_int.mpr rfl⟩
/-- L2.walk_ofE, what is raised hanging on the world -/
theorem walk_ofW {l : PySem.W.OpenLaw} {n k : Nat} {q : Program} {loose : List Str} {XP : (Str → Option Value) → Heap → Prop} {YP : World → Heap → Prop} {d : DefRec} {CX : World → CXT} {x : Str}
    (hn : l.most = some n) (hn2 : n ≤ sizeLine) (hdf : d.params.defaults = []) (hr : Room k callerA)
    (F : ∀ (w : World) (mg : Str → Option Value) (fa : Addr) (h : Heap), YP w h → h.Ns mainGlobals mg → mg d.name = some (.ref fa) →
      ∃ (K : PySem.W.Frag) (fd : FuncData) (sp : Sp), K.In h ∧ (∀ (s : Shared) (u : Value), BindsTo s fd ⟨[u], []⟩ [(x, u)]) ∧
        (∀ (H : Hp) (a : Addr) (ns : List Int), ns.length ≤ n → Only H → SqL K H a (ns.map V.int) → sp [.ref a] H (fun v _ => v = .bl true) fun _ _ _ => False) ∧
        ∀ base : Heap, K.In base → base.Ns mainGlobals mg → FnOk l.prog w K mg base (CX w) k fa fd [x] sp)
    (hCX : ∀ (w : World) (H : Hp) (s : Shared) (e : Value) (s' : Shared), CX w [] H s (fun _ _ _ => False) e s' → False) :
    PySem.W.WalkO q loose XP YP l.row.toRowW d [] (fun f vs => PySem.call f vs) := by
  refine Att.attach_call hn hdf fun w s₀ s₁ mg mb fa o pm cd doc a vs ns G Y ho hd hcd hmg hobj hints hlen hg => ?_
  obtain ⟨K, fd, sp, KX, hb, hsp, hF⟩ := F w mg fa _ Y G.T.g hmg
  exact law_call KX G.T.g G.T.b G.T.builtins G.T.nolimit hg hobj hints (Nat.le_trans hlen hn2) hr hF hb (fun H hO hS => hsp H a ns hlen hO hS) fun H e s' => hCX w H s₁ e s'
end Mi

set_option maxHeartbeats 2000000
/-! Ho1: where an exception is handled: the ends of list, tuple and zip iterators, unpacking of tuples. -/
namespace Ho
open PySem PySem.Spec PyProof.Rows L2 HotX
section
variable {prog : Program} {w : World} {A : Around} {E : Value → Shared → Prop} {s : Shared}
/-- a StopIteration is made and raised; what stood stands -/
theorem stop_hot {x1 : Addr} {α : Type} {Q : α → Shared → Prop} (hot : HotAt A x1 s.heap)
    (hE : ∀ h' e, (∀ b o, s.heap.get? b = some o → h'.get? b = some o) → (∃ o, h'.get? e = some o ∧ o.cls = .type "StopIteration") → E (.ref e) { s with heap := h' }) :
    wpAny (model prog w) A ((do let x ← newExc (.type "StopIteration") []; raiseNew x) : Sem α) Q E s := by
  obtain ⟨hh, o1, vs1, g1, g2, g3⟩ := hot
  refine wpAny_bind ?_; simp only [newExc, newTuple]
  refine wpAny_bind (wpAny_newObj_type ?_ (by size_fits)); refine wpAny_bind (m := firstArgMember _ _) (wpAny_of_eq (a := Value.none) (by first | rfl | (simp only [firstArgMember]; rfl)) ?_)
  refine wpAny_newObj_type ?_ (by size_fits)
  refine raiseNew_hot ⟨hh, o1, vs1, Heap.get?_push_of_some _ (Heap.get?_push_of_some _ g1), g2, g3⟩ (Nat.ne_of_lt (Heap.lt_size (Heap.get?_push_of_some _ g1))) (Heap.get?_push_size _ rfl) rfl (by first | (simp; done) | (simp; omega) | (simp only [Array.size_append]; simp; omega)) ?_
  refine hE _ _ (fun b o e => ?_) ⟨_, Heap.get?_update_self _ (Heap.get?_push_size _ rfl) rfl, rfl⟩
  rw [Heap.get?_update_other _ _ (Nat.ne_of_gt (Heap.lt_size (Heap.get?_push_of_some _ e)))]; exact Heap.get?_push_of_some _ (Heap.get?_push_of_some _ e)
theorem HotAt.keep {x1 : Addr} {h h' : Heap} (hot : HotAt A x1 h) (k : ∀ o, h.get? x1 = some o → h'.get? x1 = some o) : HotAt A x1 h' := by
  obtain ⟨hh, o1, vs1, g1, g2, g3⟩ := hot
  exact ⟨hh, o1, vs1, k _ g1, g2, g3⟩
theorem nextOf_end_hot {x1 it l : Addr} {i : Nat} {xs : Array Value} {Q : Value → Shared → Prop} (hot : HotAt A x1 s.heap) (hx1 : x1 ≠ it) (hit : s.heap.IsListIter it l i) (hl : s.heap.IsList l xs) (hx : xs[i]? = none)
    (hE : ∀ h' e, Heap.ExtBut it s.heap h' → (∃ o, h'.get? e = some o ∧ o.cls = .type "StopIteration") → E (.ref e) { s with heap := h' }) : wpAny (model prog w) A (Builtin.SmallTypes.nextOf (.ref it)) Q E s := by
  obtain ⟨oi, ei, ci, di⟩ := id hit; obtain ⟨ol, el, cl, nl, dl⟩ := hl
  unfold Builtin.SmallTypes.nextOf
  refine wpAny_bind (wpAny_callSpecial?_slot (name := Str.ofString "__next__") hit.typeIs slot_listiter_next (wpAny_call_entry slot_listiter_next hit.typeIs entry_listiter_next ?_ (args_listiter_next _)))
  show wpAny _ _ (field (.ref it) 0 >>= _) _ _ s; refine wpAny_bind (wpAny_field ei di (x := .ref l) rfl ?_)
  show wpAny _ _ (if (Value.ref l == Value.none) = true then _ else _) _ _ s; rw [if_neg (show ¬ ((Value.ref l == Value.none) = true) from Bool.false_ne_true)]
  show wpAny _ _ (field (.ref it) 1 >>= _) _ _ s; refine wpAny_bind (wpAny_field ei di (x := .int i 0) rfl ?_)
  show wpAny _ _ (seqItems? (.ref l) >>= _) _ _ s; refine wpAny_bind (wpAny_seqItems el dl ?_); simp only [Int.toNat_natCast, hx]
  refine wpAny_bind (wpAny_rule (wpAny_bind (wpAny_setField ei di (by simp) ?_)))
  have sb : Heap.SameBut it s.heap (s.heap.update it (Obj.mapFields (·.setIfInBounds 0 .none))) := Heap.SameBut.update ..
  refine stop_hot (x1 := x1) (HotAt.keep hot fun o e => (sb.2 x1 hx1).trans e) fun h' e k he => hE h' e (fun b o hb q => k b o ((sb.2 b hb).trans q)) he
theorem next_tuple_hot {x1 it t : Addr} {i : Nat} {xs : Array Value} {Q : Option Value → Shared → Prop} (hot : HotAt A x1 s.heap) (hx1 : x1 ≠ it) (hit : IsTupIter s.heap it t i) (ht : IsTup s.heap t xs) (hx : xs[i]? = none)
    (hQ : ∀ h', Heap.ExtBut it s.heap h' → Q none { s with heap := h' }) : wpAny (model prog w) A (pyNext (.ref it)) Q E s := by
  obtain ⟨oi, ei, ci, di⟩ := id hit; obtain ⟨ol, el, cl, nl, dl⟩ := ht
  unfold pyNext
  refine wpAny_bind (wpAny_attempt (wpAny_callSpecial?_slot (name := Str.ofString "__next__") hit.typeIs slot_tupleiter_next (wpAny_call_entry slot_tupleiter_next hit.typeIs entry_tupleiter_next ?_ (args_tupleiter_next _))))
  show wpAny _ _ (field (.ref it) 0 >>= _) _ _ s; refine wpAny_bind (wpAny_field ei di (x := .ref t) rfl ?_)
  show wpAny _ _ (if (Value.ref t == Value.none) = true then _ else _) _ _ s; rw [if_neg (show ¬ ((Value.ref t == Value.none) = true) from Bool.false_ne_true)]
  show wpAny _ _ (field (.ref it) 1 >>= _) _ _ s; refine wpAny_bind (wpAny_field ei di (x := .int i 0) rfl ?_)
  show wpAny _ _ (seqItems? (.ref t) >>= _) _ _ s; refine wpAny_bind (wpAny_seqItems el dl ?_); simp only [Int.toNat_natCast, hx]
  refine wpAny_bind (wpAny_rule (wpAny_bind (wpAny_setField ei di (by simp) ?_)))
  have sb : Heap.SameBut it s.heap (s.heap.update it (Obj.mapFields (·.setIfInBounds 0 .none))) := Heap.SameBut.update ..
  refine stop_hot (x1 := x1) (HotAt.keep hot fun o e => (sb.2 x1 hx1).trans e) fun h' e k ⟨oe, he, hc⟩ => ?_
  refine wpAny_bind (wpAny_isInstance (T := "StopIteration") (b := true) ⟨oe, he, hc⟩ isSubtype_stop ?_); exact wpAny_pure (hQ _ fun b o hb q => k b o ((sb.2 b hb).trans q))
theorem unpack_hot {x1 t : Addr} {xs : Array Value} {targets : List (Bool × (Value → Sem Unit))} {Q : Unit → Shared → Prop} (hot : HotAt A x1 s.heap) (ht : IsTup s.heap t xs) (hn : targets.length = xs.size) (hst : targets.findIdx? (·.1) = none)
    (h : ∀ h', Heap.ExtBut s.heap.objs.size s.heap h' → wpAny (model prog w) A (assignInOrder (targets.map (·.2)) xs.toList) Q E { s with heap := h' }) : wpAny (model prog w) A (unpack (.ref t) targets) Q E s := by
  have lt : t ≠ s.heap.objs.size := by obtain ⟨o, ho, _⟩ := ht; exact Nat.ne_of_lt (Heap.lt_size ho)
  have l1 : x1 ≠ s.heap.objs.size := by obtain ⟨_, o, _, ho, _⟩ := hot; exact Nat.ne_of_lt (Heap.lt_size ho)
  unfold unpack; rw [hn, hst]; refine wpAny_bind (wpAny_holding ?_); unfold unpackItems
  refine wpAny_bind ?_; unfold notIterableAtAll
  refine wpAny_bind (wpAny_specialOf ht.typeIs slot_tuple_iter.lookup ?_); refine wpAny_pure ?_; simp only [Bool.false_eq_true, if_false]
  refine wpAny_bind (wpAny_holding (iter_tuple ht ?_))
  refine wpAny_bind (wpAny_holding (draw_tuple lt xs.size 0 _ _ ⟨_, Heap.get?_push_size _ rfl, rfl, rfl⟩ (ht.push _) (by omega) fun h1 hit1 hs1 => ?_))
  have all : List.take xs.size (List.drop 0 xs.toList) = xs.toList := by rw [List.drop_zero]; exact List.take_of_length_le (by simp)
  rw [all, if_neg (by simp)]
  have ht1 : IsTup h1 t xs := (ht.push _).extBut hs1.extBut lt
  refine wpAny_bind (wpAny_holding (next_tuple_hot (x1 := x1) (HotAt.keep hot fun o e => hs1.extBut x1 o l1 (Heap.get?_push_of_some _ e)) l1 hit1 ht1 (by simp) fun h2 e2 => ?_))
  simp only [Option.isSome_none, Bool.false_eq_true, if_false]; refine wpAny_pure (h h2 fun b o hb e => e2 b o hb (hs1.extBut b o hb (Heap.get?_push_of_some _ e)))
theorem zip_end_hot {x1 z TI TO i1 i2 l1 l2 : Addr} {k1 k2 : Nat} {xs ys : Array Value} {a b : Value} {Q : Option Value → Shared → Prop} (hot : HotAt A x1 s.heap) (nz : x1 ≠ z) (n1 : x1 ≠ i1) (n2 : x1 ≠ i2) (nT : x1 ≠ TO) (D : ZipApart z TI TO i1 i2 l1 l2)
    (hz : IsZip s.heap z TI TO .none) (hTI : IsPair s.heap TI (.ref i1) (.ref i2)) (hTO : IsPair s.heap TO a b) (h1 : s.heap.IsListIter i1 l1 k1) (h2 : s.heap.IsListIter i2 l2 k2) (hl1 : s.heap.IsList l1 xs) (hl2 : s.heap.IsList l2 ys) (hend : xs[k1]? = none ∨ ys[k2]? = none)
    (hQ : ∀ h', (∀ c o, c ≠ z → c ≠ TO → c ≠ i1 → c ≠ i2 → s.heap.get? c = some o → h'.get? c = some o) → Q none { s with heap := h' }) : wpAny (model prog w) A (pyNext (.ref z)) Q E s := by
  have hTy : s.TypeIs (.ref z) "zip" := ⟨_, hz, rfl⟩
  unfold pyNext
  have fin : ∀ h' e, (∀ c o, c ≠ z → c ≠ TO → c ≠ i1 → c ≠ i2 → s.heap.get? c = some o → h'.get? c = some o) → (∃ o, h'.get? e = some o ∧ o.cls = .type "StopIteration") →
      wpAny (model prog w) A (isInstance (.ref e) (.type "StopIteration") >>= fun q => if q = true then pure (none : Option Value) else throw (.ref e)) Q E { s with heap := h' } := fun h' e k ⟨o, ho, hc⟩ => by
    refine wpAny_bind (wpAny_isInstance (T := "StopIteration") (b := true) ⟨o, ho, hc⟩ isSubtype_stop ?_); exact wpAny_pure (hQ _ k)
  refine wpAny_bind (wpAny_attempt (wpAny_callSpecial?_slot (name := Str.ofString "__next__") hTy F.slot_zip_next (wpAny_call_entry F.slot_zip_next hTy F.entry_zip_next ?_ (F.args_zip_next_1 _))))
  show wpAny _ _ (field (.ref z) 2 >>= _) _ _ _; refine wpAny_bind (wpAny_field hz rfl (x := .bool false) rfl ?_)
  show wpAny _ _ (field (.ref z) 3 >>= _) _ _ _; refine wpAny_bind (wpAny_field hz rfl (x := .ref TI) rfl ?_); refine wpAny_bind (wpAny_seqItems hTI rfl ?_)
  show wpAny _ _ (Builtin.SmallTypes.ownedTupleIsFree (.ref z) >>= _) _ _ _; refine wpAny_bind ?_; unfold Builtin.SmallTypes.ownedTupleIsFree
  refine wpAny_bind (wpAny_field hz rfl (x := .none) rfl (wpAny_pure ?_)); simp only [if_true]
  refine wpAny_bind (wpAny_rule ?_); refine wpAny_bind (wpAny_field hz rfl (x := .ref TO) rfl ?_); refine wpAny_bind (wpAny_setField_rec hz (by simp) fun g1 hz1 s1 => ?_)
  replace hz1 : IsZip g1 z TI TO .ellipsis := hz1
  refine wpAny_bind ?_; simp only [List.zipIdx_cons, List.zipIdx_nil, List.forIn_cons, List.forIn_nil]; refine wpAny_bind (wpAny_bind (wpAny_onRaise ?_))
  show wpAny _ _ (Builtin.SmallTypes.nextOf (.ref i1) >>= _) _ _ _
  have hot1 : HotAt A x1 g1 := HotAt.keep hot fun o e => s1.extBut x1 o nz e
  cases hx : xs[k1]? with
  | none =>
    refine wpAny_bind (nextOf_end_hot (x1 := x1) hot1 n1 (h1.extBut s1.extBut D.i1z) (hl1.extBut s1.extBut D.l1z) hx fun g2 e s2 he => ?_)
    obtain ⟨oe, hoe, hce⟩ := he
    have hz2 : IsZip g2 z TI TO .ellipsis := s2 _ _ D.i1z.symm hz1
    have hez : e ≠ z := fun x => by subst x; rw [hz2] at hoe; cases hoe; simp at hce
    refine wpAny_setField_rec hz2 (by simp) fun g3 _ s3 => ?_
    exact fin g3 e (fun c o c1 _ c3 _ x => s3.extBut _ _ c1 (s2 _ _ c3 (s1.extBut _ _ c1 x))) ⟨oe, s3.extBut _ _ hez hoe, hce⟩
  | some x =>
    have hy : ys[k2]? = none := by rcases hend with h | h; rw [hx] at h; cases h; exact h
    refine wpAny_bind (wpAny_nextOf_list_item (h1.extBut s1.extBut D.i1z) (hl1.extBut s1.extBut D.l1z) hx fun g2 h12 s2 => wpAny_pure ?_)
    have hTO2 : IsPair g2 TO a b := s2.extBut _ _ D.TOi1 (s1.extBut _ _ D.TOz hTO)
    refine wpAny_bind (wpAny_seqItems hTO2 rfl ?_); refine wpAny_bind (wpAny_updateSeq_pair hTO2 fun g3 hTO3 s3 => ?_)
    refine wpAny_bind (wpAny_letGo (wpAny_pure ?_)); refine wpAny_bind (wpAny_bind (wpAny_onRaise ?_))
    show wpAny _ _ (Builtin.SmallTypes.nextOf (.ref i2) >>= _) _ _ _
    refine wpAny_bind (nextOf_end_hot (x1 := x1) (HotAt.keep hot1 fun o q => s3.extBut _ _ nT (s2.extBut _ _ n1 q)) n2 (((h2.extBut s1.extBut D.i2z).extBut s2.extBut D.i12.symm).extBut s3.extBut D.TOi2.symm) (((hl2.extBut s1.extBut D.l2z).extBut s2.extBut D.l2i1).extBut s3.extBut D.l2TO) hy fun g4 e s4 he => ?_)
    obtain ⟨oe, hoe, hce⟩ := he
    have hz4 : IsZip g4 z TI TO .ellipsis := s4 _ _ D.i2z.symm (s3.extBut _ _ D.TOz.symm (s2.extBut _ _ D.i1z.symm hz1))
    have hez : e ≠ z := fun x => by subst x; rw [hz4] at hoe; cases hoe; simp at hce
    refine wpAny_setField_rec hz4 (by simp) fun g5 _ s5 => ?_
    exact fin g5 e (fun c o c1 c2 c3 c4 x => s5.extBut _ _ c1 (s4 _ _ c4 (s3.extBut _ _ c2 (s2.extBut _ _ c3 (s1.extBut _ _ c1 x))))) ⟨oe, s5.extBut _ _ hez hoe, hce⟩
end
end Ho

set_option maxHeartbeats 2000000
/-! Ho2: where an exception is handled: targets that are tuples, zip walked, comprehensions. -/
namespace Ho
open PySem PySem.Spec PyProof.Rows L2 HotX L2H
/-- p is handled, and pinned -/
def HotP (X : Cx) (p : Addr × Obj) : Prop := Hot1 X.A p ∧ p ∈ X.pn
theorem HotP.hotC {X : Cx} {p : Addr × Obj} (h : HotP X p) : HotC X := ⟨p, h.1, h.2⟩
theorem HotP.at {X : Cx} {p : Addr × Obj} {pins : List (Addr × Obj)} {σ : L2.St} {H : Hp} {s : Shared} (h : HotP X p) (I : Inv X pins σ H s) : HotAt X.A p.1 s.heap := by
  obtain ⟨⟨hh, vs, e1, e2⟩, hp⟩ := h
  exact ⟨hh, p.2, vs, (I.pin p (List.mem_append_left _ hp)).1, e1, e2⟩
theorem pg_tupH {X : Cx} {p : Addr × Obj} {es : List Expr} {k : Nat} {t : TGs} {n : Nat} {pos : Pos} (hc : HotP X p) (h : PGs X es t) (hn : (assignEach es X.env).length = n := by rfl) (hst : (assignEach es X.env).findIdx? (·.1) = none := by rfl) : PG X (.Tuple es k pos) (gTup X.K n t) := by
  refine ⟨fun pins s σ H v u Q I r hw => ?_⟩
  obtain ⟨a, xs, rfl, hq, hl, hw⟩ := hw; cases r
  obtain ⟨its, rv, ht, hz⟩ := I.tuple hq
  rw [assign_Tuple]; refine wpAny_bind (wpAny_standAt (unpack_hot (hc.at I) ht (by simp [hn, ← hl, rv.length]) hst fun h' hx => ?_))
  have J : Inv X pins σ H { s with heap := h' } := I.kept (t' := s.toks) fun b o e => hx b o (Nat.ne_of_lt (Heap.lt_size e)) e
  exact h.run pins _ σ H xs _ Q J (by simpa using rv) hw
/-- a walk in such a context -/
structure TnP (q : Addr × Obj) (P : Program) (w : World) (K : PySem.W.Frag) (tg : Expr) (J : It) (fp : List Addr) (it : Addr) (tn : Nat → Heap → Prop) : Prop where
  mem : it ∈ fp
  obj : ∀ i h, tn i h → ∀ b ∈ fp, ∃ o, h.get? b = some o ∧ ∀ v, o.data ≠ .cell v
  keep : ∀ i h h', tn i h → (∀ b ∈ fp, ∀ o, h.get? b = some o → h'.get? b = some o) → tn i h'
  item : ∀ (X : Cx), X.prog = P → X.w = w → X.K = K → HotP X q → ∀ (i : Nat) (pins : List (Addr × Obj)) (s : Shared) (σ : L2.St) (H : Hp) (E : Value → Shared → Prop), Inv X pins σ H s → (∀ b ∈ fp, FpOk X pins H b) → tn i s.heap → J.go i H →
    wpAny (model P w) X.A (pyNext (.ref it)) (fun r s1 => ∃ u, r = some u ∧ wpAny (model P w) X.A (letOwnedTupleGo tg (.ref it) u) (fun _ s2 => ∃ x H', Inv X pins σ H' s2 ∧ RelV x u ∧ J.yld i H x H' ∧ tn (i + 1) s2.heap ∧ ∀ b ∈ fp, H' b = none) E s1) E s
  done : ∀ (X : Cx), X.prog = P → X.w = w → X.K = K → HotP X q → ∀ (i : Nat) (pins : List (Addr × Obj)) (s : Shared) (σ : L2.St) (H : Hp) (E : Value → Shared → Prop), Inv X pins σ H s → (∀ b ∈ fp, FpOk X pins H b) → tn i s.heap → J.stop i H → wpAny (model P w) X.A (pyNext (.ref it)) (fun r s1 => r = none ∧ Inv X pins σ H s1) E s
  self : ∀ (A : Around) (i : Nat) (s : Shared) (Q : Value → Shared → Prop) (E : Value → Shared → Prop), tn i s.heap → Q (.ref it) s → wpAny (model P w) A (pyIter (.ref it)) Q E s
theorem zip_tn {q : Addr × Obj} {P : Program} {w : World} {K : PySem.W.Frag} {elts : List Expr} {kk : Nat} {tpos : Pos} {a b z TI TO i1 i2 : Addr} (D : ZipApart z TI TO i1 i2 a b) :
    TnP q P w K (.Tuple elts kk tpos) (Itz K a b) [z, TI, TO, i1, i2] z (fun i h => IsZip h z TI TO .none ∧ IsPair h TI (.ref i1) (.ref i2) ∧ (∃ x y, IsPair h TO x y) ∧ h.IsListIter i1 a i ∧ h.IsListIter i2 b i) where
  mem := (turn_zip (P := P) (w := w) (K := K) (elts := elts) (kk := kk) (tpos := tpos) D).mem
  obj := (turn_zip (P := P) (w := w) (K := K) (elts := elts) (kk := kk) (tpos := tpos) D).obj
  keep := (turn_zip (P := P) (w := w) (K := K) (elts := elts) (kk := kk) (tpos := tpos) D).keep
  self := (turn_zip (P := P) (w := w) (K := K) (elts := elts) (kk := kk) (tpos := tpos) D).self
  item := by
    intro X hP hw hK hc i pins s σ H E I hf st hg; subst hP hw hK
    obtain ⟨hz, hTI, ⟨x0, y0, hTO⟩, h1, h2⟩ := st; obtain ⟨xs, ys, x, y, qx, qy, hx, hy⟩ := hg
    obtain ⟨its, rv, p1, _⟩ := I.list qx; obtain ⟨jts, rw2, p2, _⟩ := I.list qy
    obtain ⟨u, hu, ru⟩ := rv.get hx; obtain ⟨u2, hu2, ru2⟩ := rw2.get hy
    have zl : z < s.heap.objs.size := Heap.lt_size hz
    refine wpAny_pyNext_zip_item D hz hTI hTO h1 h2 p1.isList p2.isList (x := u) (y := u2) (by simpa using hu) (by simpa using hu2) fun g z' TO' g1 g2 hT hsz hk => ⟨_, rfl, ?_⟩
    refine wpAny_letOwnedTupleGo_zip (s := { s with heap := g }) z' fun g' z'' sb => ?_
    have T2 : g'.get? s.heap.objs.size = some { cls := .type "tuple", data := .seq #[u, u2] } := (sb.2 _ (Nat.ne_of_gt zl)).trans hT
    have new : ObjOk X.prog X.w (upd H s.heap.objs.size (.tup [x, y])) g' s.heap.objs.size (.tup [x, y]) := ⟨by show 2 ≤ sizeLine; decide, [u, u2], .cons ru (.cons ru2 .nil), ⟨_, T2, rfl, _, rfl⟩⟩
    have J : Inv X pins σ (upd H s.heap.objs.size (.tup [x, y])) { s with heap := g' } := I.turnedNew (t' := s.toks) (ch := [z, TI, TO, i1, i2]) (fun c o hb e => (sb.2 c (fun e' => hb (by simp [e']))).trans (hk c o (fun e' => hb (by simp [e'])) (fun e' => hb (by simp [e'])) (fun e' => hb (by simp [e'])) (fun e' => hb (by simp [e'])) e)) hf (Nat.le_refl _) new
    refine ⟨.ref s.heap.objs.size, _, J, rfl, ⟨_, x, y, rfl, I.hok.fresh (Nat.le_refl _), rfl, fun l hl => by rw [I.list_inj hl qx]; exact hx, fun l hl => by rw [I.list_inj hl qy]; exact hy⟩, ⟨z'', (sb.2 _ D.TIz).trans (hk _ _ D.TIz D.TITO D.TIi1 D.TIi2 hTI), ⟨u, u2, (sb.2 _ D.TOz).trans TO'⟩, g1.at fun o e => (sb.2 _ D.i1z).trans e, g2.at fun o e => (sb.2 _ D.i2z).trans e⟩, fun c hcm => ?_⟩
    have hlt : c < s.heap.objs.size := by
      have e' : c = z ∨ c = TI ∨ c = TO ∨ c = i1 ∨ c = i2 := by simpa using hcm
      rcases e' with e | e | e | e | e <;> rw [e]
      · exact zl
      · exact Heap.lt_size hTI
      · exact Heap.lt_size hTO
      · obtain ⟨_, e1, _⟩ := h1; exact Heap.lt_size e1
      · obtain ⟨_, e2, _⟩ := h2; exact Heap.lt_size e2
    rw [upd_ne (Nat.ne_of_lt hlt)]; exact (hf c hcm).1
  done := by
    intro X hP hw hK hc i pins s σ H E I hf st hg; subst hP hw hK
    obtain ⟨hz, hTI, ⟨x0, y0, hTO⟩, h1, h2⟩ := st; obtain ⟨xs, ys, qx, qy, hend⟩ := hg
    obtain ⟨its, rv, p1, _⟩ := I.list qx; obtain ⟨jts, rw2, p2, _⟩ := I.list qy
    have l1 := rv.length; have l2 := rw2.length
    have he : its.toArray[i]? = none ∨ jts.toArray[i]? = none := by rcases hend with e | e <;> first | exact .inl (by simp; omega) | exact .inr (by simp; omega)
    have far : ∀ b ∈ [z, TI, TO, i1, i2], q.1 ≠ b := fun b hb => (hf b hb).2.2.2.2.2 q (List.mem_append_left _ hc.2)
    refine zip_end_hot (hc.at I) (far z (by simp)) (far i1 (by simp)) (far i2 (by simp)) (far TO (by simp)) D hz hTI hTO h1 h2 p1.isList p2.isList he fun h' hk => ⟨rfl, ?_⟩
    exact I.turnedL (t' := s.toks) (ch := [z, TI, TO, i1, i2]) (fun c o hb e => hk c o (fun e' => hb (by simp [e'])) (fun e' => hb (by simp [e'])) (fun e' => hb (by simp [e'])) (fun e' => hb (by simp [e'])) e) hf
def PIEP (q : Addr × Obj) (X : Cx) (pins : List (Addr × Obj)) (σ : L2.St) (tg : Expr) (R : It → Hp → Prop) (itv : Value) (s2 : Shared) : Prop :=
  ∃ (it : Addr) (fp : List Addr) (tn : Nat → Heap → Prop) (J : It) (H' : Hp), itv = .ref it ∧ Inv X pins σ H' s2 ∧ TnP q X.prog X.w X.K tg J fp it tn ∧ tn 0 s2.heap ∧ (∀ b ∈ fp, FpOk X pins H' b) ∧ R J H'
structure PIP (q : Addr × Obj) (X : Cx) (tg iter : Expr) (wi : TI) : Prop where
  run : ∀ (pins : List (Addr × Obj)) (s : Shared) (σ : L2.St) (H : Hp) (R : It → Hp → Prop), Inv X pins σ H s → wi σ H R →
    wpAny (model X.prog X.w) X.A (eval iter X.env) (fun v s1 => wpAny (model X.prog X.w) X.A (pyIter v) (PIEP q X pins σ tg R) X.xe s1) X.xe s
theorem pi_zipP {q : Addr × Obj} {X : Cx} {e e2 : Expr} {ta : TA} {p pos tpos : Pos} {elts : List Expr} {kk : Nat} (hg : Gl X "zip") (hm : X.mg "zip" = none) (ha : PA X [e, e2] ta)
    (hs : starEach [e, e2] X.env = (false, eval e X.env) :: starEach [e2] X.env := by rfl) (hpl : (backTo pos (starEach [e2] X.env)).any (·.1) = false := by rfl) : PIP q X (.Tuple elts kk tpos) (.Call (.Name "zip" p) [e, e2] [] pos) (iZip X.K ta) := by
  refine ⟨fun pins s σ H R I h => ?_⟩
  refine Call_ (ld_blt I hg hm PyProof.Rows.boot_zip (PyProof.Rows.callWith_type1 (thn (ha.run pos pins s σ H _ I h) fun us s1 ⟨vs, H1, I1, r1, a, b, xs, ys, ex, qx, qy, k⟩ => ?_) hs hpl)); subst ex
  cases r1 with
  | cons r rr =>
    cases rr with
    | cons r' rr =>
      cases rr; cases r; cases r'
      obtain ⟨its, rv, p1, _⟩ := I1.list qx; obtain ⟨jts, rv2, p2, _⟩ := I1.list qy
      refine call_zip_2 p1.isList p2.isList fun h' hz hTI hTO h1 h2 hsz hk => wpAny_pyIter_zip hz ?_
      have I2 : Inv X pins σ H1 { s1 with heap := h' } := I1.kept (t' := s1.toks) hk
      refine ⟨s1.heap.objs.size + 4, [s1.heap.objs.size + 4, s1.heap.objs.size + 2, s1.heap.objs.size + 3, s1.heap.objs.size, s1.heap.objs.size + 1], _, _, H1, rfl, I2, zip_tn (PySem.W.ktu_apart s1.heap.objs.size a b p1.lt p2.lt), ⟨hz, hTI, ⟨_, _, hTO⟩, h1, h2⟩, fun c hcm => ?_, k⟩
      have hle : s1.heap.objs.size ≤ c := by
        simp only [List.mem_cons, List.not_mem_nil, or_false] at hcm
        rcases hcm with z | z | z | z | z <;> (rw [z]; first | exact Nat.le_add_right _ _ | exact Nat.le_refl _)
      exact I1.fpOk hle (I1.hok.fresh hle)
/-! ### a comprehension -/
/-- the block's context, the handled exception pinned -/
abbrev blP (q : Addr × Obj) (X : Cx) (s : Shared) (H : Hp) (scope : Scope) (ce : Env) (fp : List Addr) : Cx := (X.blk s H scope ce fp).tr [q] (fun _ _ => False)
theorem lc_hot {q : Addr × Obj} {X : Cx} {elt tg iter : Expr} {ifs : List Expr} {scope : Scope} {own : List (Str × Nat)} {pos : Pos} {wi : TI} {g : TG} {tt : TT} {te : TE} (hc : HotP X q) (hN : X.N.Nodup) (hi : PIP q X tg iter wi) (ok : BlkOk X.N X.env.scope scope own)
    (hg : ∀ (s : Shared) (H : Hp) (C : Addr) (cl : List (Str × Addr)) (fp : List Addr), PG (blP q X s H scope (compEnvC scope cl C X.env) fp) tg g) (ht : ∀ (s : Shared) (H : Hp) (C : Addr) (cl : List (Str × Addr)) (fp : List Addr), PTs (blP q X s H scope (compEnvC scope cl C X.env) fp) ifs tt)
    (he : ∀ (s : Shared) (H : Hp) (C : Addr) (cl : List (Str × Addr)) (fp : List Addr), PE (blP q X s H scope (compEnvC scope cl C X.env) fp) elt te) (hs : ∀ x, foldedSetIterable iter X.env x = pure x := by intro _; rfl) :
    PE X (.ListComp elt [⟨tg, iter, ifs, 0⟩] scope pos) (tLc wi g tt te (own.map (·.2))) := by
  refine ⟨fun pins s σ H Q I h => ?_⟩; rw [eval_ListComp]
  have free : ∀ y ∈ scope.names, y.2 = .free → ∃ c, X.env.cells.lookup y.1 = some c := fun y hy e => by rcases ok.free y hy e with k | k <;> first | exact I.ok.has _ (.inl k) | exact I.ok.has _ (.inr k)
  refine wpAny_comprehension_free (use := none) rfl hs (closure_ok free) ok.kind (fun y hy e => by rw [ok.uniq y hy, e]) (thn (hi.run pins s σ H _ I h) fun xv s1 hx => thn hx fun itv s2 h2 => ?_)
  obtain ⟨it, fp, tn, J, H2, rfl, I2, T, st2, f2, qq⟩ := h2
  refine wpAny_newObj_type (newEnv_comp ?_) (by show 0 ≤ sizeLine; decide); generalize hD : s2.heap.objs.size = D
  obtain ⟨W, ⟨m0, w0⟩, turn⟩ := qq D (I2.hok.fresh (Nat.le_of_eq hD))
  generalize hs3 : ({ s2 with heap := s2.heap.push { cls := .type "list", data := .seq ([] : List Value).toArray } } : Shared) = s3
  have I3 : Inv X pins σ (upd H2 D (.lst [])) s3 := by
    rw [← hs3]; refine I2.laid (t' := s2.toks) (fun b o e => Heap.get?_push_of_some _ e) (Nat.le_of_eq hD) ⟨Nat.zero_le _, [], 0, .nil, ?_⟩
    rw [← hD]; exact Heap.get?_push_size _ rfl
  have h3 : s3.heap = s2.heap.push { cls := .type "list", data := .seq ([] : List Value).toArray } := by rw [← hs3]
  have f3 : ∀ b ∈ fp, FpOk X pins (upd H2 D (.lst [])) b ∧ b < s3.heap.objs.size := fun b hb => by
    obtain ⟨o, e, _⟩ := T.obj _ _ st2 b hb; have lt : b < s2.heap.objs.size := Heap.lt_size e
    refine ⟨⟨?_, (f2 b hb).2⟩, by rw [h3, Heap.size_push]; exact Nat.lt_succ_of_lt lt⟩; rw [upd_ne (by rw [← hD]; exact Nat.ne_of_lt lt)]; exact (f2 b hb).1
  have st3 : tn 0 s3.heap := T.keep _ _ _ st2 fun b _ o e => by rw [h3]; exact Heap.get?_push_of_some _ e
  have I4 := block_start I3 ok hN f3
  have q3 := I3.pin q (List.mem_append_left _ hc.2)
  have qx : ∀ b ∈ fp, q.1 ≠ b := fun b hb => (f3 b hb).1.2.2.2.2.2 q (List.mem_append_left _ hc.2)
  have pg := hg s3 (upd H2 D (.lst [])) s3.heap.objs.size (cellsFrom (s3.heap.objs.size + 1) scope.names (cloFrom X.env.cells scope.names [])) fp
  have pt := ht s3 (upd H2 D (.lst [])) s3.heap.objs.size (cellsFrom (s3.heap.objs.size + 1) scope.names (cloFrom X.env.cells scope.names [])) fp
  have pe := he s3 (upd H2 D (.lst [])) s3.heap.objs.size (cellsFrom (s3.heap.objs.size + 1) scope.names (cloFrom X.env.cells scope.names [])) fp
  show codeAny _ _ (.compStart (.ListComp elt [⟨tg, iter, ifs, 0⟩] scope pos) 0 (.ref it) (.ref D) (compEnvC scope (cellsFrom (s3.heap.objs.size + 1) scope.names (cloFrom X.env.cells scope.names [])) s3.heap.objs.size X.env)) (compPost (model X.prog X.w) X.A X.xe none (EP X pins σ Q) (.ref D) s3.heap.objs.size) { s3 with heap := pushCells (s3.heap.push { cls := .type "dict", data := .dict #[] }) scope.names }
  have n3 : ∀ b ∈ fp, (upd H2 D (.lst [])) b = none := fun b hb => (f3 b hb).1.1
  have keep4 : ∀ b o, s3.heap.get? b = some o → (pushCells (s3.heap.push { cls := .type "dict", data := .dict #[] }) scope.names).get? b = some o := fun b o e => pushCells_keeps _ _ _ _ (Heap.get?_push_of_some _ e)
  have lt3 : q.1 < s3.heap.objs.size := Heap.lt_size q3.1
  generalize hce : compEnvC scope (cellsFrom (s3.heap.objs.size + 1) scope.names (cloFrom X.env.cells scope.names [])) s3.heap.objs.size X.env = ce at I4 pg pt pe ⊢
  have cL : ce.locals = s3.heap.objs.size := by subst hce; rfl
  generalize hH3 : upd H2 D (.lst []) = H3 at I3 I4 pg pt pe w0 n3 f3 q3
  generalize hs4 : ({ s3 with heap := pushCells (s3.heap.push { cls := .type "dict", data := .dict #[] }) scope.names } : Shared) = s4 at I4 ⊢
  have st4 : tn 0 s4.heap := T.keep _ _ _ st3 fun b _ o e => by rw [← hs4]; exact keep4 b o e
  have I4p : Inv (blP q X s3 H3 scope ce fp) [] (wipe σ (own.map (·.2))) H3 s4 := by
    have J : Inv (X.blk s3 H3 scope ce fp) [q] (wipe σ (own.map (·.2))) H3 s4 := ⟨I4.ok, I4.os, I4.bare, I4.base, I4.loc, I4.cell, I4.free, I4.freeC, fun p hp => by
      obtain rfl : p = q := by simpa using hp
      exact ⟨by rw [← hs4]; exact keep4 _ _ q3.1, q3.2.1, by rw [show (X.blk s3 H3 scope ce fp).env.locals = ce.locals from rfl, cL]; exact Nat.ne_of_lt lt3, fun hm => (List.mem_cons.mp (I3.stkSub p.1 hm)).elim q3.2.2.1 q3.2.2.2.1, q3.2.2.2.2⟩, I4.hok, I4.len⟩
    exact J.toTry _
  have hotB : HotP (blP q X s3 H3 scope ce fp) q := ⟨hc.1, by simp⟩
  have stat : ∀ {σ' : L2.St} {H' : Hp} {s' : Shared}, Inv (blP q X s3 H3 scope ce fp) [] σ' H' s' → (∀ b ∈ fp, H' b = none) → ∀ b ∈ fp, FpOk (blP q X s3 H3 scope ce fp) [] H' b := fun {σ' H' s'} I' hn b hb => ⟨hn b hb, (I'.ok.exf b hb).1, I'.ok.exfs b hb, .inl hb, fun x c e => (I'.ok.exf b hb).2 x c e, fun p hp => by
    obtain rfl : p = q := by simpa using hp
    exact qx b hb⟩
  have loop : codeAny (model X.prog X.w) X.A (.compLoop (.ListComp elt [⟨tg, iter, ifs, 0⟩] scope pos) 0 (.ref it) (.ref D) ce) (compPost (model X.prog X.w) X.A X.xe none (EP X pins σ Q) (.ref D) s3.heap.objs.size) s4 := by
    refine compLoop_any (fun n s' => ∃ i H', Inv (blP q X s3 H3 scope ce fp) [] (wipe σ (own.map (·.2))) H' s' ∧ tn i s'.heap ∧ (∀ b ∈ fp, H' b = none) ∧ W i n H') ?_ m0 ⟨0, H3, I4p, st4, n3, w0⟩
    rintro n s5 ⟨i, H5, I5, st5, n5, w5⟩
    rcases turn i n H5 w5 with ⟨stop, dn⟩ | ⟨go, Nx, hNx, step⟩
    · refine thnF (T.done (blP q X s3 H3 scope ce fp) rfl rfl rfl hotB i [] s5 _ H5 (fun _ _ => False) I5 (stat I5 n5) st5 stop) fun r s6 ⟨hr, I6⟩ => ?_; subst hr
      have I7 : Inv X pins σ H5 s6 := I3.call' (ch := fp) I6.os I6.base I6.hok I6.bare fun b hb => ⟨(f3 b hb).1.2.2.2.1, (f3 b hb).1.2.1, (f3 b hb).1.2.2.2.2.1, (f3 b hb).1.2.2.2.2.2⟩
      have nC : H5 s3.heap.objs.size = none := by have z : H5 ce.locals = none := I6.free; rw [cL] at z; exact z
      obtain ⟨m, hn, _⟩ := I6.loc; have hn : s6.heap.Ns ce.locals m := hn; rw [cL] at hn
      refine ⟨m, hn, fun h'' sb => ?_⟩
      obtain ⟨a0, a1, a2, a3, a4, a5⟩ := I3.fpOk (H' := H5) (Nat.le_refl _) nC
      exact ⟨.ref D, H5, I7.turned (t' := s6.toks) (fun b o hb e => (sb.2 b hb).trans e) a0 a1 a3 a4 a5, rfl, dn⟩
    · refine thnF (T.item (blP q X s3 H3 scope ce fp) rfl rfl rfl hotB i [] s5 _ H5 (fun _ _ => False) I5 (stat I5 n5) st5 go) fun r s6 ⟨u, hr, h6⟩ => ?_; subst hr
      refine thnF h6 fun _ s7 ⟨x, H7, I7, r7, y7, st7, n7⟩ => ?_
      refine thnF (pg.run _ s7 _ H7 x u _ (I7.pinned (stat I7 n7) (T.obj _ _ st7)) r7 (step x H7 y7)) fun _ s8 ⟨σ8, H8, I8, hw8, q8⟩ => ?_
      refine thnF (pt.run _ s8 σ8 H8 _ I8 q8) fun b s9 ⟨H9, I9, q9⟩ => ?_
      have fin : ∀ {s' : Shared} {H' : Hp}, Inv (blP q X s3 H3 scope ce fp) ([] ++ pinsAt fp s7.heap) σ8 H' s' → Nx H' → ∃ m, m < n ∧ ∃ i H', Inv (blP q X s3 H3 scope ce fp) [] (wipe σ (own.map (·.2))) H' s' ∧ tn i s'.heap ∧ (∀ b ∈ fp, H' b = none) ∧ W i m H' := fun {s' H'} I' nx => by
        obtain ⟨m', hm, w'⟩ := hNx H' nx
        have pin' : ∀ b ∈ fp, ∀ o, s7.heap.get? b = some o → s'.heap.get? b = some o ∧ H' b = none := fun b hb o e => let z := I'.pin (b, o) (List.mem_append_right _ (List.mem_append_right _ (mem_pinsAt hb e))); ⟨z.1, z.2.1⟩
        have hl : (wipe σ (own.map (·.2))).length = σ8.length := by rw [← hw8, wipe_length]
        refine ⟨m', hm, i + 1, H', (I'.unpinned (pins := [])).weak hl (fun j v e => by rw [← hw8] at e; exact (wipe_some e).1), T.keep _ _ _ st7 fun b hb o e => (pin' b hb o e).1, fun b hb => ?_, w'⟩
        obtain ⟨o, e, _⟩ := T.obj _ _ st7 b hb; exact (pin' b hb o e).2
      cases b with
      | false => simp only [Bool.false_eq_true, if_false] at q9 ⊢; exact fin I9 q9
      | true =>
        simp only [if_true] at q9 ⊢
        refine thnF (pe.run _ s9 σ8 H9 _ I9 q9) fun z s10 ⟨yv, H10, I10, r10, acc, hD10, hz10, nx⟩ => ?_
        exact app_ok (X := blP q X s3 H3 scope ce fp) I10 hD10 hz10 r10 fun s11 I11 => fin I11 nx
  exact codeAny_compStart_list loop (T.self X.A 0 _ _ _ st4 loop)
end Ho

set_option maxHeartbeats 2000000
/-! Ho3: try with several except clauses, all 'as n'; isinstance of a caught exception; a def called where an exception is handled. -/
namespace Ho
open PySem PySem.Spec PyProof.Rows L2 HotX L2H
/-- behind a suite the name is gone -/
def goneE (i : Nat) (D : Ends) : Ends := { nx := fun σ' H' => D.nx (σ'.set i none) H', rt := D.rt, bk := fun σ' H' => D.bk (σ'.set i none) H', ct := fun σ' H' => D.ct (σ'.set i none) H' }
def wEach (K : PySem.W.Frag) (i : Nat) (Wout : WX) (D : Ends) : List (Value × (Addr → Value → Option Addr → TS)) → WX
  | [] => Wout
  | (c, ts) :: r => fun cls d σ H => ∃ b, PySem.W.exmOne K cls c = some b ∧ (b = true → ∀ a, H a = none → ts a cls d (goneE i D) (σ.set i (some (.ref a))) H) ∧ (b = false → wEach K i Wout D r cls d σ H)
inductive HdE (X : Cx) (n : Str) : List ExceptHandler → List (Value × (Addr → Value → Option Addr → TS)) → Prop
  | nil : HdE X n [] []
  | cons {x : Str} {c : Value} {ts : Addr → Value → Option Addr → TS} {b0 : Stmt} {suite : List Stmt} {np pos' : Pos} {hds : List ExceptHandler} {l : List (Value × (Addr → Value → Option Addr → TS))} (hc : Names X x c)
      (hsu : ∀ (a : Addr) (oe : Obj) (cls : Value) (d : Option Addr) (pn : List (Addr × Obj)), L2N.Zn cls d oe → (∃ vs : Array Value, oe.data = .fields vs) → PSs (X.suite a ((a, oe) :: pn)) (b0 :: suite) (ts a cls d)) (r : HdE X n hds l) :
      HdE X n (.ExceptHandler (some (.Name x np)) (some n) (b0 :: suite) pos' :: hds) ((c, ts) :: l)
theorem try_each {X : Cx} {n : Str} {i : Nat} {body : List Stmt} {h0 : ExceptHandler} {hds : List ExceptHandler} {l : List (Value × (Addr → Value → Option Addr → TS))} {pos : Pos} {tb : WX → TS} {Wout : WX} (hs : X.stack = X.env :: X.outer) (hf : X.env.frame = some X.env.locals) (hN : X.N.Nodup) (hi : X.N[i]? = some n) (hln : X.env.kindOf n = some .local) (tk : L2N.Takes X Wout)
    (hb : ∀ (W : WX) (pn : List (Addr × Obj)) (xe : Value → Shared → Prop), L2N.Takes (X.tr pn xe) W → PassesOwn (model X.prog X.w) X.A X.env xe → PSs (X.tr pn xe) body (tb W)) (hh : HdE X n (h0 :: hds) l) :
    PS X (.Try body (h0 :: hds) [] [] pos) (fun D σ H => tb (wEach X.K i Wout D l) D σ H) := by
  refine ⟨fun pins s σ H D I h => ?_⟩; have ok := I.ok; have hfr : X.A.frames = some (X.env :: X.outer) := by rw [ok.frames, hs]
  have lo : Loc X.env.scope n := .inl hln
  refine wpAny_Try_except ?_
  refine wpAny_mono ((hb (wEach X.K i Wout D l) (X.pn ++ pins) (fun e s₁ => wpAny (model X.prog X.w) X.A (noteFrame e X.env) (fun _ s₂ => wpAny (model X.prog X.w) X.A (setFlight e none) (fun _ s₃ => wpAny (model X.prog X.w) X.A (handleBy e X.env (h0 :: hds)) (SP X pins D) X.xe s₃) X.xe s₂) X.xe s₁) (fun u s' xx => ?_) PassesOwn.looking).run [] s σ H D (I.toTry _) h) (fun f s1 hsp => ?_) (fun e s1 he => he)
  · obtain ⟨a, B, sI, pins', σ', H', cls, d, rfl, J', nb, up, sky, na, os, ag, w⟩ := xx
    have J : Inv X pins σ' H' sI := J'.ofTry ok; have sky' : Sky B (X.env :: X.outer) a (L2N.Zn cls d) X.env.locals s'.heap := by rw [← hs]; exact sky
    show wpAny (model X.prog X.w) X.A (noteFrame (.ref a) X.env) _ _ _; refine L2N.Sky.land L2N.Zn.steady hfr hf sky' fun h3 fl3 up3 => ?_
    have J3 : Inv X pins σ' H' { s' with heap := h3 } := J.landed nb fl3.1 (up.trans up3) os ag; obtain ⟨oe3, vs3, he3, hz3, hd3⟩ := fl3.there
    have nfr : a ∉ frs (X.env :: X.outer) := fun hm => by obtain ⟨_, o', e', hnf⟩ := fl3.2.2.1.mem hm; rw [he3] at e'; cases e'; exact hnf _ hd3
    have nL : a ≠ X.env.locals := fun z => nfr (List.mem_filterMap.mpr ⟨X.env, List.mem_cons_self, by rw [hf, z]⟩)
    have nF : a ∉ X.fs := fun hm => by obtain ⟨e, he, q⟩ := List.mem_filterMap.mp hm; exact nfr (List.mem_filterMap.mpr ⟨e, List.mem_cons_of_mem _ he, q⟩)
    have S3 := J3.suite he3 hd3 na nL nF
    have go : ∀ {hds' : List ExceptHandler} {l' : List (Value × (Addr → Value → Option Addr → TS))}, HdE X n hds' l' → wEach X.K i Wout D l' cls d σ' H' → wpAny (model X.prog X.w) X.A (handleBy (.ref a) X.env hds') (SP X pins D) X.xe { s' with heap := h3 } := by
      intro hds' l' hk
      induction hk with
      | nil =>
        intro w; refine wpAny_handleBy_nil ?_; obtain ⟨k1, k2, k3, oe, vs, T, oT, ts', he, hz, hd, h1, hr⟩ := id fl3
        unfold PySem.passOn; refine wpAny_bind (wpAny_field he hd h1 ?_); rw [if_neg (show ¬ ((Value.ref T == Value.none) = true) from by simp)]
        have fin : wpAny (model X.prog X.w) X.A (setFlight (.ref a) X.env.frame) (fun _ s4 => wpAny (model X.prog X.w) X.A (throw (.ref a) : Sem Flow) (SP X pins D) X.xe s4) X.xe { s' with heap := h3 } := by
          rw [hf]; refine HandSPX.setFlight_upZ fl3 fun h4 hh4 up4 => wpAny_throw (tk _ _ ⟨a, B, sI, pins, σ', H', cls, d, rfl, J, nb, (up.trans up3).trans up4, .inr (.inr (by rw [hs]; exact hh4)), na, os, ag, w⟩)
        first | exact wpAny_bind (wpAny_pure (wpAny_bind fin)) | exact wpAny_bind fin
      | @cons x c ts b0 suite np pos' hds2 l2 hc hsu r ih =>
        intro w; obtain ⟨b, hb1, hyes, hno⟩ := w; refine wpAny_handleBy_cons (codeAny_handlers_test ?_) (by intro q; cases q)
        have LT : PySem.W.Looks (model X.prog X.w) h3 (typeOf (.ref a)) cls := fun A Q E s k q => wpAny_typeOf_ref (k _ _ he3) (by rw [hz3.1]; exact q)
        have LM := PySem.W.exm_one (M := model X.prog X.w) (J3.kIn) LT hb1
        have test : ∀ {Q : Value → Shared → Prop} {E : Value → Shared → Prop}, Q c { s' with heap := h3 } → wpAny (model X.prog X.w) (X.A.mark (some (.ref a))) (eval (.Name x np) X.env) Q E { s' with heap := h3 } := fun {Q E} q => by
          obtain ⟨hg, hdbg, hm | ⟨hm, hv, hnn⟩⟩ := hc <;> first | exact ld_glob (X := X.suite a ((a, oe3) :: (X.pn ++ pins))) S3 hg hm q hdbg | exact ld_blt (X := X.suite a ((a, oe3) :: (X.pn ++ pins))) S3 hg hm hv q hnn hdbg
        refine test (LM.here ?_)
        cases b with
        | true =>
          refine codeAny_handlers_suite_as ?_; refine HandSPX.lands_againZ fl3 fun h4 fl4 up4 => ?_
          have J4 : Inv X pins σ' H' { s' with heap := h4 } := J.landed nb fl4.1 ((up.trans up3).trans up4) os ag; obtain ⟨oe4, vs4, he4, hz4, hd4⟩ := fl4.there
          have S4 := J4.suite he4 hd4 na nL nF
          refine store_ok (X := X.suite a ((a, oe4) :: (X.pn ++ pins))) (v := .ref a) S4 hN hi lo rfl (fun s5 S5 => ?_) (.inr hln)
          refine wpAny_mono ((hsu a oe4 cls d (X.pn ++ pins) hz4 ⟨_, hd4⟩).run [] s5 _ H' _ S5 (hyes rfl a na)) (fun f s6 hsp => ?_) (fun _ _ z => False.elim z)
          have end_ : ∀ {σ6 : L2.St} {H6 : Hp} {Q : Shared → Prop}, Inv (X.suite a ((a, oe4) :: (X.pn ++ pins))) [] σ6 H6 s6 → (∀ s7, Inv X pins (σ6.set i none) H6 s7 → Q s7) → wpAny (model X.prog X.w) X.A (do bindName X.env n .none; unbindBehindTheSuite X.env n pos') (fun _ s7 => Q s7) X.xe s6 := fun {σ6 H6 Q} S6 hq => gone_ok (S6.unsuite ok) hN hi hln hq
          cases f with
          | next => obtain ⟨σ6, H6, S6, q6⟩ := hsp; exact end_ S6 fun s7 J7 => ⟨_, _, J7, q6⟩
          | brk => obtain ⟨σ6, H6, S6, q6⟩ := hsp; exact end_ S6 fun s7 J7 => ⟨_, _, J7, q6⟩
          | cont => obtain ⟨σ6, H6, S6, q6⟩ := hsp; exact end_ S6 fun s7 J7 => ⟨_, _, J7, q6⟩
          | ret u => obtain ⟨v6, σ6, H6, S6, r6, q6⟩ := hsp; exact end_ S6 fun s7 J7 => ⟨_, _, _, J7, r6, q6⟩
        | false => show wpAny _ X.A (handleBy (.ref a) X.env hds2) _ _ _; exact ih (hno rfl)
    exact go hh w
  · cases f with
    | next => obtain ⟨σ', H', J', q⟩ := hsp; exact wpAny_execs_nil ⟨σ', H', J'.ofTry ok, q⟩
    | brk => obtain ⟨σ', H', J', q⟩ := hsp; exact ⟨σ', H', J'.ofTry ok, q⟩
    | cont => obtain ⟨σ', H', J', q⟩ := hsp; exact ⟨σ', H', J'.ofTry ok, q⟩
    | ret u => obtain ⟨v, σ', H', J', r, q⟩ := hsp; exact ⟨v, σ', H', J'.ofTry ok, r, q⟩
/-! ### isinstance(e, C), e the exception that is handled, with a dict or without -/
section
variable {prog : Program} {w : World} {A : Around} {E : Value → Shared → Prop} {s : Shared} {K : PySem.W.Frag} {x D : Addr} {ox : Obj}
open PySem.W in
theorem data_bind {C : Addr} {od : Option Obj} {name : Str} {a g : Value} (hc : (clsIn K C).isSome = true) (ha : findIn K (.ref C) name = some (some a)) (hg : specialIn K a "__get__" = some (some g)) (ht : takesIn K a = some true) : findObj K C od name = some (.bind g a) := by
  obtain ⟨cd, hc⟩ := Option.isSome_iff_exists.mp hc
  unfold findObj; rw [hc, Option.bind_some, ha, Option.bind_some]; simp [hg, ht]
open PySem.W in
theorem own_class {Q : Option Value → Shared → Prop} (T : ExcC K D) (X : K.In s.heap) (I : ∃ od, InstAt s.heap x ox D od) (h : Q (some (.ref D)) { s with toks := s.toks + 1 }) : wpAny (model prog w) A (getAttr? (.ref x) "__class__") Q E s := by
  obtain ⟨od, I⟩ := I
  have hf : findObj K D od "__class__" = some (.bind (.builtin "getset_descriptor.__get__") (.builtin "object.__class__")) := data_bind (by obtain ⟨cd, hc, _⟩ := any_some T.hd; rw [hc]; rfl) T.ha T.hn T.ht
  obtain ⟨hp, g, d, t, os⟩ := s
  have A0 := I.type (M := model prog w); have A1 := looks_findIn (M := model prog w) X T.hg; have A2 := looks_findIn (M := model prog w) X T.hk; have A3 := looks_find (M := model prog w) X I hf
  have sub : Looks (model prog w) hp (isInstance (.ref x) (.type "BaseException")) true := A0.andThen (looks_subIn X T.hs)
  have z0 : (false && onTheHeap (Value.builtin "BaseException.__getattribute__")) = false := rfl
  have z2 : (Value.builtin "BaseException.__getattribute__" == Value.builtin "object.__getattribute__") = false := by decide +kernel
  have z1 : (onTheHeap (Value.ref D) && Value.builtin "BaseException.__getattribute__" == Value.builtin "object.__getattribute__") = false := by rw [z2]; rfl
  unfold getAttr? getAttrBy? getAttrBy; refine wpAny_bind (wpAny_mkText (wpAny_bind (wpAny_attempt (wpAny_holding (wpAny_bind (A0.at (wpAny_bind (A1.at ?_))))))))
  show wpAny _ _ (if (onTheHeap (Value.ref D) && Value.builtin "BaseException.__getattribute__" == Value.builtin "object.__getattribute__") = true then _ else _) _ _ _; rw [z1, if_neg Bool.false_ne_true]
  unfold getAttrByItsOwn hookBefore; refine wpAny_bind ?_; rw [if_pos (show onTheHeap (Value.ref D) = true from rfl)]
  refine A2.at ?_; refine wpAny_bind (wpAny_attempt (wpAny_holding ?_)); unfold callGetattribute; rw [z0, if_neg Bool.false_ne_true]
  unfold boundAndCalled; rw [PySem.F.excAttr_ValueError.ga.bind (.ref x)]; refine wpAny_bind (wpAny_pure ?_)
  show wpAny _ _ (call (.builtin "BaseException.__getattribute__") [.ref x, .str "__class__" t]) _ _ _; refine wpAny_call (codeAny_call_builtin PySem.F.excAttr_ValueError.ga.plain PySem.F.entry_bexc_ga ?_)
  refine @check_slot (model prog w) _ _ ⟨hp, g, d, t + 1, os⟩ "BaseException.__getattribute__" "BaseException" "__getattribute__" (.ref x) [.str "__class__" t] [] _ (by decide +kernel) (by decide +kernel) sub (PySem.F.args_bexc_ga (.ref x) (.str "__class__" t)) ?_; unfold Builtin.«object.__getattribute__»
  refine wpAny_bind (wpAny_of_eq (a := ((Value.ref x : Value), [Value.str "__class__" t])) (by first | rfl | (simp only [slotArgs]; rfl)) ?_); refine wpAny_bind (wpAny_pure (wpAny_bind (A0.at (wpAny_bind (A3.at ?_)))))
  show wpAny _ _ (holding [Value.builtin "object.__class__"] (call (.builtin "getset_descriptor.__get__") [.builtin "object.__class__", .ref x, .ref D]) >>= ret) _ _ _; refine wpAny_bind (wpAny_holding (wpAny_call (class_get (s := ⟨hp, g, d, t + 1, os⟩) (ox := ox) (od := od) X I T.hm ?_)))
  refine wpAny_pure ?_; show wpAny _ _ (handedOut (.ref D)) _ _ _; rw [handedOut_of (v := .ref D) rfl]
  first | exact wpAny_pure (wpAny_pure h) | exact wpAny_pure h | exact wpAny_pure (wpAny_bind (wpAny_pure (wpAny_pure h)))
open PySem.W in
theorem kit_exc (T : ExcC K D) : KitX K (.ref x) (.ref D) (fun h => ∃ od, InstAt h x ox D od) where
  ty := fun _ _ _ ⟨_, I⟩ => I.type
  it := fun _ _ X _ => by
    obtain ⟨cdD, hcD, _⟩ := any_some T.hd; unfold clsIn at hcD
    split at hcD
    · rename_i c' d' cd' sl' ho; intro A' Q' E' s' k q; unfold isType loadHead; exact wpAny_bind (wpAny_loadPart (k _ _ (X _ _ ho)) (wpAny_pure q))
    · cases hcD
  ne := fun h tp dd its n sl X htp => by
    obtain ⟨cdD, hcD, _⟩ := any_some T.hd; refine Bool.eq_false_iff.mpr fun q => ?_
    obtain rfl : D = tp := Value.ref.inj (beq_iff_eq.mp q); unfold clsIn at hcD
    split at hcD
    · rename_i c' d' cd' sl' ho; have z := (X _ _ ho).symm.trans htp; cases z
    · cases hcD
  ca := fun X I k => own_class T X I k
end
/-- what isinstance answers of the handled exception -/
theorem isinst_hot {X : Cx} {D : Addr} {q : Addr × Obj} {d : Option Addr} (T : ExcC X.K D) (hq : q ∈ X.pn) (hz : Zc (.ref D) d q.2) (hf : ∃ vs : Array Value, q.2.data = .fields vs) : CallR X (.builtin "isinstance") (fun xs H Q => (∀ dd, d = some dd → ∃ o, H dd = some o) ∧ rIsE X.K D q.1 xs H Q) := by
  intro pins s σ H xs us Q I r h; obtain ⟨hd, c, cv, b, rfl, hcv, e, k⟩ := h
  cases r with
  | cons rx rr =>
    cases rr with
    | cons rt rr =>
      cases rr; cases rx; obtain rfl := hcv _ rt
      have hget := (I.pin q (List.mem_append_left _ hq)).1; obtain ⟨vs, hv⟩ := hf
      have J : ∃ od, PySem.W.InstAt s.heap q.1 q.2 D od := by
        cases d with
        | none => exact ⟨none, hget, hz.1, by unfold PySem.W.notCls; rw [hv] <;> rfl, by rw [hz.2]; trivial⟩
        | some dd => obtain ⟨u, hu⟩ := hd dd rfl; obtain ⟨o, ho⟩ := objOk_get (I.hok dd u hu); exact ⟨some o, hget, hz.1, by unfold PySem.W.notCls; rw [hv] <;> rfl, by rw [hz.2]; exact ho⟩
      exact PySem.W.kia_one (kit_exc T) I.kIn J e (fun z => nomatch z) fun tk => ⟨.bl b, H, I.kept (t' := tk) fun _ _ z => z, rfl, k⟩
/-! ### a def called where an exception is handled, its promise told of that exception -/
theorem hot_run {CX : CXT} {P : Program} {w : World} {K : PySem.W.Frag} {mg : Str → Option Value} {base : Heap} {k : Nat} {f : Addr} {name qual : Str} {params : Arguments} {body : List Stmt} {scope : Scope} {dV kV doc pm cdv ct oc : Value} {an od : Option Addr} {osl : Array (Option Value)} {N ps : List Str}
    (lk : K.lookup f = some ⟨oc, od, .func (PySem.W.fnOf name qual params body scope dV kV doc pm an cdv ct), osl⟩) (hcd : PySem.W.codeIn K cdv qual = true) (S : FnScope N ps scope) {A : Around} {outer : List Env} {s : Shared} {H : Hp} {args : Args} {us : List Value} {vs : List V} {Q : VK} {E : XK} {p : Addr × Obj}
    (hr : RoomH (k + 1) A) (hpin : PinOk outer H s p) (e0 : Env0 P w K mg base A outer s H) (hb : BindsTo s (PySem.W.fnOf name qual params body scope dV kV doc pm an cdv ct) args (ps.zip us)) (r : Vals vs us) (hl : vs.length = ps.length)
    (hbody : RoomH k (A.deeper (envOfC qual scope s.heap.objs.size f cdv)) → ∃ t, PSs (cxH CX P w K mg base N qual scope f cdv A outer s H E p) body t ∧ t { nx := fun _ H' => Q .non H', rt := Q } (L2.start N vs) H) :
    codeAny (model P w) A (.call (.ref f) args) (CR CX outer P w H s Q E) s := by
  have KX : K.In s.heap := e0.mod.kin.keeps fun b o e => (e0.bs b o e).1
  have lim : s.heap.NoLimit := e0.mod.nolimit.keeps fun b o e => (e0.bs b o e).1
  have hk : ∀ y ∈ ps.zip us, scope.names.lookup y.1 = some .local ∨ (scope.names.lookup y.1 = some .cell ∧ ((cellsFrom (s.heap.objs.size + 1) scope.names []).lookup y.1).isSome = true) := fun ⟨n, v⟩ hy => by
    rcases S.par n (List.of_mem_zip hy).1 with q | q <;> first | exact .inl q | exact .inr ⟨q, PySem.W.cellsFrom_some _ _ _ (.inl q)⟩
  refine codeAny_call_function hr.depth (KX _ _ lk) rfl S.co S.gen rfl (PySem.W.codeRec_of KX hcd) (hb _ _ _ _ ?_); refine wpAny_newFunctionEnv_cells S.kind hk fun env he s1 x => ?_; subst he
  refine ⟨lim.keeps x.toInCall.keep, codeAny_func ?_⟩; obtain ⟨t, ht, hq⟩ := hbody (hr.deeper _)
  have I := inv_startH (CX := CX) (E := E) S hpin e0 hl r x
  refine wpAny_mono (ht.run [] s1 (L2.start N vs) H _ I hq) (fun fl s' hs => ?_) fun e s' hs => hs
  have fin : ∀ {σ' : L2.St} {H' : Hp} {v : V} {u : Value}, Inv (cxH CX P w K mg base N qual scope f cdv A outer s H E p) [] σ' H' s' → L2.RelV v u → Q v H' → CE outer P w H s Q u s' := fun {σ' H' v u} J rv q => ⟨v, H', J.os, J.bare, J.base, J.hok, rv, q⟩
  cases fl with
  | ret u => obtain ⟨v, σ', H', J, rv, q⟩ := hs; exact fin J rv q
  | next => obtain ⟨σ', H', J, q⟩ := hs; exact fin (v := V.non) (u := Value.none) J rfl q
  | brk => obtain ⟨_, _, _, q⟩ := hs; exact False.elim q
  | cont => obtain ⟨_, _, _, q⟩ := hs; exact False.elim q
/-- f(e ..) in such a context: B, what the body asks -/
theorem pe_hot {X : Cx} {k : Nat} {f : Addr} {name qual x : Str} {params : Arguments} {body : List Stmt} {scope : Scope} {dV kV doc pm cdv ct oc : Value} {an od : Option Addr} {osl : Array (Option Value)} {N ps : List Str} {p : Addr × Obj} {e : Expr} {es : List Expr} {t : TA} {q pos : Pos} {B : List V → Hp → VK → Prop}
    (lk : X.K.lookup f = some ⟨oc, od, .func (PySem.W.fnOf name qual params body scope dV kV doc pm an cdv ct), osl⟩) (hcd : PySem.W.codeIn X.K cdv qual = true) (S : FnScope N ps scope) (hr : RoomH (k + 1) X.A) (hp : HotP X p) (hg : Gl X x) (hm : X.mg x = some (.ref f)) (hk : PySem.W.keepIn X.K (.ref f) = true) (hb : Binds X.K (PySem.W.fnOf name qual params body scope dV kV doc pm an cdv ct) ps [])
    (hB : ∀ (A : Around) (outer : List Env) (s : Shared) (H : Hp) (vs : List V) (Q : VK), Hot1 A p → RoomH k (A.deeper (envOfC qual scope s.heap.objs.size f cdv)) → B vs H Q → vs.length = ps.length ∧ ∃ t, PSs (cxH CX0 X.prog X.w X.K X.mg X.base N qual scope f cdv A outer s H (fun _ _ _ => False) p) body t ∧ t { nx := fun _ H' => Q .non H', rt := Q } (L2.start N vs) H)
    (ha : PA X (e :: es) t) (hdb : (x == ("__debug__" : Str)) = false := by decide) (he : starEach (e :: es) X.env = (false, eval e X.env) :: starEach es X.env := by rfl) (hpl : (backTo pos (starEach es X.env)).any (·.1) = false := by rfl) :
    PE X (.Call (.Name x q) (e :: es) [] pos) (fun σ H Q => t σ H fun vs H1 => B vs H1 Q) := by
  refine ⟨fun pins s σ H Q I h => ?_⟩; refine wpAny_Call_Name_kw (ld_glob I hg hm ?_ hdb)
  refine PySem.W.callWith_K (h₀ := X.base) I.ok.mod.kin hk (thn (ha.run pos pins s σ H _ I h) fun us s1 ⟨vs, H1, I1, r, k⟩ => ⟨I1.kIn, ?_⟩) he hpl
  have P1 := I1.pin p (List.mem_append_left _ hp.2)
  have hpin : PinOk X.stack H1 s1 p := ⟨P1.1, P1.2.1, fun hm => (List.mem_cons.mp (I1.stkSub p.1 hm)).elim P1.2.2.1 P1.2.2.2.1, P1.2.2.2.2⟩
  have hl : vs.length = ps.length := (hB X.A X.stack s1 H1 vs Q hp.1 (hr.deeper _) k).1
  have b := hb s1 us I1.kIn (by rw [List.append_nil, ← r.length]; exact hl); rw [List.append_nil] at b
  refine wpAny_call (codeAny_mono (hot_run (CX := CX0) (E := fun _ _ _ => False) (args := ⟨us, []⟩) lk hcd S hr hpin I1.env0 b r hl fun hr' => (hB X.A X.stack s1 H1 vs Q hp.1 hr' k).2) fun r s' hq => ?_)
  cases r with
  | error e => exact False.elim hq
  | ok fl =>
    cases fl with
    | ret u => exact I1.after hq
    | next => exact False.elim hq
    | brk => exact False.elim hq
    | cont => exact False.elim hq
end Ho

set_option maxHeartbeats 4000000
/-! Ho4: the law's _law_kinds, walked where the exception is handled. -/
namespace Ho
open PySem PySem.Spec PyProof.Rows L2 HotX L2H
def compSc : Scope := { kind := .function, names := [(".0", .local), ("word", .local), ("good", .local)], isGenerator := false, isCoroutine := false, more := [] }
def kindsSc : Scope := { kind := .function, names := [("e", .local), ("some", .local), ("words", .local), ("isinstance", .globalImplicit), ("InvalidFactors", .globalImplicit), ("InvalidFrame", .globalImplicit), ("InvalidIndex", .globalImplicit), ("InvalidKind", .globalImplicit), ("InvalidNumber", .globalImplicit), ("InvalidParts", .globalImplicit), ("InvalidStep", .globalImplicit), ("InvalidText", .globalImplicit), ("NothingToUndo", .globalImplicit), ("TooMany", .globalImplicit), ("Unlike", .globalImplicit), ("ValueError", .globalImplicit), ("zip", .globalImplicit)], isGenerator := false, isCoroutine := false, more := [("fast", .str "e"), ("fast", .str "some"), ("fast", .str "words"), ("fast", .str "word"), ("fast", .str "good")] }
def callSc : Scope := { kind := .function, names := [("call_so", .local), ("found", .local), ("e", .local), ("TooMany", .globalImplicit), ("_law_kinds", .globalImplicit), ("InvalidText", .globalImplicit), ("RodError", .globalImplicit)], isGenerator := false, isCoroutine := false, more := [] }
def kindsBody (p : Nat → Pos) : List Stmt := [.Assign [(.Name "some" (p 0))] (.List [(.Call (.Name "isinstance" (p 1)) [(.Name "e" (p 2)), (.Name "InvalidFactors" (p 3))] [] (p 4)), (.Call (.Name "isinstance" (p 5)) [(.Name "e" (p 6)), (.Name "InvalidFrame" (p 7))] [] (p 8)), (.Call (.Name "isinstance" (p 9)) [(.Name "e" (p 10)), (.Name "InvalidIndex" (p 11))] [] (p 12))] (p 13)) (p 14),
  .Assign [(.Name "some" (p 15))] (.BinOp (.Name "some" (p 16)) .Add (.List [(.Call (.Name "isinstance" (p 17)) [(.Name "e" (p 18)), (.Name "InvalidKind" (p 19))] [] (p 20)), (.Call (.Name "isinstance" (p 21)) [(.Name "e" (p 22)), (.Name "InvalidNumber" (p 23))] [] (p 24)), (.Call (.Name "isinstance" (p 25)) [(.Name "e" (p 26)), (.Name "InvalidParts" (p 27))] [] (p 28))] (p 29)) (p 30)) (p 31),
  .Assign [(.Name "some" (p 32))] (.BinOp (.Name "some" (p 33)) .Add (.List [(.Call (.Name "isinstance" (p 34)) [(.Name "e" (p 35)), (.Name "InvalidStep" (p 36))] [] (p 37)), (.Call (.Name "isinstance" (p 38)) [(.Name "e" (p 39)), (.Name "InvalidText" (p 40))] [] (p 41)), (.Call (.Name "isinstance" (p 42)) [(.Name "e" (p 43)), (.Name "NothingToUndo" (p 44))] [] (p 45))] (p 46)) (p 47)) (p 48),
  .Assign [(.Name "some" (p 49))] (.BinOp (.Name "some" (p 50)) .Add (.List [(.Call (.Name "isinstance" (p 51)) [(.Name "e" (p 52)), (.Name "TooMany" (p 53))] [] (p 54)), (.Call (.Name "isinstance" (p 55)) [(.Name "e" (p 56)), (.Name "Unlike" (p 57))] [] (p 58)), (.Call (.Name "isinstance" (p 59)) [(.Name "e" (p 60)), (.Name "ValueError" (p 61))] [] (p 62))] (p 63)) (p 64)) (p 65),
  .Assign [(.Name "words" (p 66))] (.List [(.Constant (.str "InvalidFactors") 0 (p 67)), (.Constant (.str "InvalidFrame") 0 (p 68)), (.Constant (.str "InvalidIndex") 0 (p 69)), (.Constant (.str "InvalidKind") 0 (p 70)), (.Constant (.str "InvalidNumber") 0 (p 71)), (.Constant (.str "InvalidParts") 0 (p 72))] (p 73)) (p 74),
  .Assign [(.Name "words" (p 75))] (.BinOp (.Name "words" (p 76)) .Add (.List [(.Constant (.str "InvalidStep") 0 (p 77)), (.Constant (.str "InvalidText") 0 (p 78)), (.Constant (.str "NothingToUndo") 0 (p 79)), (.Constant (.str "TooMany") 0 (p 80)), (.Constant (.str "Unlike") 0 (p 81)), (.Constant (.str "+") 0 (p 82))] (p 83)) (p 84)) (p 85),
  .Return (some (.Call (.Attribute (.Constant (.str " ") 0 (p 86)) "join" (p 87)) [(.ListComp (.Name "word" (p 88)) [⟨(.Tuple [(.Name "word" (p 89)), (.Name "good" (p 90))] 0 (p 91)), (.Call (.Name "zip" (p 92)) [(.Name "words" (p 93)), (.Name "some" (p 94))] [] (p 95)), [(.Name "good" (p 96))], 0⟩] compSc (p 97))] [] (p 98))) (p 99)]
def callBody (p : Nat → Pos) : List Stmt := [.Assign [(.Name "found" (p 0))] (.Constant .none 0 (p 1)) (p 2),
  .Try [.Assign [(.Name "found" (p 3))] (.Tuple [(.Constant (.str "told") 0 (p 4)), (.Call (.Name "call_so" (p 5)) [] [] (p 6))] 0 (p 7)) (p 8)]
    [.ExceptHandler (some (.Name "TooMany" (p 9))) (some "e") [.Assign [(.Name "found" (p 10))] (.Tuple [(.Call (.Name "_law_kinds" (p 11)) [(.Name "e" (p 12))] [] (p 13)), (.Attribute (.Name "e" (p 14)) "limit" (p 15))] 0 (p 16)) (p 17)] (p 18),
    .ExceptHandler (some (.Name "InvalidText" (p 19))) (some "e") [.Assign [(.Name "found" (p 20))] (.Tuple [(.Call (.Name "_law_kinds" (p 21)) [(.Name "e" (p 22))] [] (p 23)), (.Attribute (.Name "e" (p 24)) "line" (p 25))] 0 (p 26)) (p 27)] (p 28),
    .ExceptHandler (some (.Name "RodError" (p 29))) (some "e") [.Assign [(.Name "found" (p 30))] (.Tuple [(.Call (.Name "_law_kinds" (p 31)) [(.Name "e" (p 32))] [] (p 33))] 0 (p 34)) (p 35)] (p 36)] [] [] (p 37),
  .Return (some (.Name "found" (p 38))) (p 39)]
def nine : List Str := ["InvalidFactors", "InvalidFrame", "InvalidIndex", "InvalidKind", "InvalidNumber", "InvalidParts", "InvalidStep", "InvalidText", "NothingToUndo", "TooMany", "Unlike"]
structure KF (K : PySem.W.Frag) (mg : Str → Option Value) (D : Addr) (b : Nat → Bool) : Prop where
  T : ExcC K D
  at_ : ∀ i, i < 11 → ∃ C : Addr, mg (nine.getD i Str.empty) = some (.ref C) ∧ PySem.W.kitOne K (.ref D) (.ref C) = some (b i)
  ve : PySem.W.kitOne K (.ref D) (.type "ValueError") = some true
/-- the names that they are made of -/
structure KN (mg : Str → Option Value) : Prop where
  ve : mg "ValueError" = none
  isi : mg "isinstance" = none
  zip : mg "zip" = none
def wordsL : List Str := nine ++ [("+" : Str)]
def boolsL (b : Nat → Bool) : List Bool := (List.range 11).map b ++ [true]
/-- the words that are told -/
def kept (b : Nat → Bool) (i : Nat) : List Str := (((wordsL.zip (boolsL b)).take i).filter fun q => q.2).map (·.1)
abbrev tIs (K : PySem.W.Frag) (d : Option Addr) (D a : Addr) (c : V) : TE := tCB (fun xs H Q => (∀ dd, d = some dd → ∃ o, H dd = some o) ∧ rIsE K D a xs H Q) (tCons (tVar 0) (tCons (tC c) tNil))
theorem is_read {K : PySem.W.Frag} {d : Option Addr} {D a : Addr} {c : V} {cv : Value} {b : Bool} {σ : L2.St} {H : Hp} {Q : VK} (h0 : σ[0]? = some (some (.ref a))) (hd : ∀ dd, d = some dd → ∃ o, H dd = some o) (hc : ∀ u, RelV c u → u = cv) (hk : PySem.W.kitOne K (.ref D) cv = some b) (hQ : Q (.bl b) H) : tIs K d D a c σ H Q :=
  ⟨.ref a, h0, hd, c, cv, b, rfl, hc, hk, hQ⟩
theorem sn {n : Nat} (h : n ≤ 1000) : n ≤ sizeLine := by rw [sizeLine_eq]; omega
theorem kinds_scope : FnScope ["e", "some", "words", "word", "good"] ["e"] kindsSc := ⟨rfl, rfl, rfl, by decide +kernel, rfl, by decide +kernel, by decide +kernel⟩
/-- the comprehension's reading -/
theorem zip_read {K : PySem.W.Frag} {σ : L2.St} {H : Hp} {Q : VK} {A B : Addr} {b : Nat → Bool} (hA : σ[2]? = some (some (.ref A))) (hB : σ[1]? = some (some (.ref B))) (eA : H A = some (.lst (wordsL.map V.str))) (eB : H B = some (.lst ((boolsL b).map V.bl))) (hl : σ.length = 5)
    (hQ : ∀ D H', Same H H' → H D = none → H' D = some (.lst ((kept b 12).map V.str)) → Q (.ref D) H') :
    tLc (iZip K (tCons (tVar 2) (tCons (tVar 1) tNil))) (gTup K 2 (gCons (gName 3) (gCons (gName 4) gNil))) (tB (tVar 4)) (tVar 3) [3, 4] σ H Q := by
  refine ⟨.ref A, hA, .ref B, hB, A, B, wordsL.map V.str, (boolsL b).map V.bl, rfl, SqL.of eA, SqL.of eB, fun D hD => ?_⟩
  obtain ⟨x0, x1, x2, x3, x4, rfl⟩ : ∃ x0 x1 x2 x3 x4, σ = [x0, x1, x2, x3, x4] := by
    match σ, hl with
    | [x0, x1, x2, x3, x4], _ => exact ⟨_, _, _, _, _, rfl⟩
  have nA : A ≠ D := ne_of_none eA hD
  have nB : B ≠ D := ne_of_none eB hD
  refine ⟨fun i m H' => m = 12 - i ∧ i ≤ 12 ∧ Same H H' ∧ H' D = some (.lst ((kept b i).map V.str)), ⟨12, rfl, Nat.zero_le _, fun c o e => by rw [upd_ne (ne_of_none e hD)]; exact e, by rw [upd_same]; rfl⟩, ?_⟩
  rintro i m H' ⟨rfl, hi, sm, eD⟩
  have lw : (wordsL.map V.str).length = 12 := rfl
  have lb : ((boolsL b).map V.bl).length = 12 := rfl
  by_cases h12 : i = 12
  · subst h12
    exact .inl ⟨⟨_, _, SqL.of (sm _ _ eA), SqL.of (sm _ _ eB), .inl (by rw [lw]; exact Nat.le_refl _)⟩, hQ D H' sm hD eD⟩
  · have hlt : i < 12 := by omega
    obtain ⟨x, ex⟩ : ∃ x, (wordsL.map V.str)[i]? = some x := ⟨_, List.getElem?_eq_getElem (by rw [lw]; exact hlt)⟩
    obtain ⟨y, ey⟩ : ∃ y, ((boolsL b).map V.bl)[i]? = some y := ⟨_, List.getElem?_eq_getElem (by rw [lb]; exact hlt)⟩
    refine .inr ⟨⟨_, _, x, y, SqL.of (sm _ _ eA), SqL.of (sm _ _ eB), ex, ey⟩, fun H2 => Same H H2 ∧ H2 D = some (.lst ((kept b (i + 1)).map V.str)), fun H2 ⟨s2, e2⟩ => ⟨12 - (i + 1), by omega, rfl, by omega, s2, e2⟩, ?_⟩
    rintro v H2 ⟨T, x', y', rfl, hT, rfl, gx, gy⟩
    obtain rfl : x = x' := Option.some.inj (ex.symm.trans (gx _ (SqL.of (sm _ _ eA))))
    obtain rfl : y = y' := Option.some.inj (ey.symm.trans (gy _ (SqL.of (sm _ _ eB))))
    rw [List.getElem?_map] at ex ey
    obtain ⟨w, ew, rfl⟩ := Option.map_eq_some_iff.mp ex
    obtain ⟨c, ec, rfl⟩ := Option.map_eq_some_iff.mp ey
    have nT : D ≠ T := ne_of_none eD hT
    have s2 : Same H (upd H' T (.tup [.str w, .bl c])) := fun a o e => by rw [upd_ne (ne_of_none (sm _ _ e) hT)]; exact sm _ _ e
    have ez : (wordsL.zip (boolsL b))[i]? = some (w, c) := by rw [List.getElem?_zip_eq_some]; exact ⟨ew, ec⟩
    have ek : kept b (i + 1) = kept b i ++ (if c = true then [w] else []) := by
      unfold kept
      rw [List.take_add_one, ez, List.filter_append, List.map_append]
      cases c <;> rfl
    have kl : (kept b i).length ≤ 12 := by
      unfold kept
      rw [List.length_map]
      refine Nat.le_trans (List.length_filter_le _ _) ?_
      rw [List.length_take]; omega
    refine ⟨T, _, rfl, SqT.of upd_same, rfl, _, _, rfl, _, _, rfl, rfl, ?_⟩
    refine ⟨rfl, ?_⟩
    refine ⟨.bl c, rfl, c, rfl, ?_⟩
    cases c with
    | true =>
      simp only [if_true]
      refine ⟨.str w, rfl, _, by rw [upd_ne nT]; exact eD, by rw [List.length_map, sizeLine_eq]; omega, fun a o e => by rw [upd_ne (fun z => by rw [z, hD] at e; cases e)]; exact s2 a o e, ?_⟩
      rw [upd_same, ek]; simp
    | false =>
      simp only [Bool.false_eq_true, if_false]
      exact ⟨s2, by rw [upd_ne nT, ek]; simpa using eD⟩

abbrev kZ (P : Program) (w : World) (K : PySem.W.Frag) (mg : Str → Option Value) (base : Heap) (f : Addr) (cdv : Value) (A : Around) (outer : List Env) (s : Shared) (H : Hp) (q : Addr × Obj) : Cx := cxH CX0 P w K mg base ["e", "some", "words", "word", "good"] "_law_kinds" kindsSc f cdv A outer s H (fun _ _ _ => False) q
theorem pe_is {P : Program} {w : World} {K : PySem.W.Frag} {mg : Str → Option Value} {base : Heap} {f : Addr} {cdv : Value} {A : Around} {outer : List Env} {s : Shared} {H : Hp} {q : Addr × Obj} {D C : Addr} {d : Option Addr} {x : Str} {p1 p2 p3 p4 : Pos} (hot : Hot1 A q) (T : ExcC K D) (F2 : KN mg) (hz : Zc (.ref D) d q.2)
    (hg : Gl (kZ P w K mg base f cdv A outer s H q) x) (hm : mg x = some (.ref C)) (hd : (x == ("__debug__" : Str)) = false) : PE (kZ P w K mg base f cdv A outer s H q) (.Call (.Name "isinstance" p1) [.Name "e" p2, .Name x p3] [] p4) (tIs K d D q.1 (.ref C)) :=
  pe_callB (isinst_hot T List.mem_cons_self hz ⟨_, hot.2.choose_spec.1⟩) (by rfl) F2.isi PyProof.Rows.boot_isinstance (pa_cons (pv 0) (pa_cons (pe_glob hg hm rfl hd) pa_nil))
theorem pe_isV {P : Program} {w : World} {K : PySem.W.Frag} {mg : Str → Option Value} {base : Heap} {f : Addr} {cdv : Value} {A : Around} {outer : List Env} {s : Shared} {H : Hp} {q : Addr × Obj} {D : Addr} {d : Option Addr} {p1 p2 p3 p4 : Pos} (hot : Hot1 A q) (T : ExcC K D) (F2 : KN mg) (hz : Zc (.ref D) d q.2) :
    PE (kZ P w K mg base f cdv A outer s H q) (.Call (.Name "isinstance" p1) [.Name "e" p2, .Name "ValueError" p3] [] p4) (tIs K d D q.1 (.ty "ValueError")) :=
  pe_callB (isinst_hot T List.mem_cons_self hz ⟨_, hot.2.choose_spec.1⟩) (by rfl) F2.isi PyProof.Rows.boot_isinstance (pa_cons (pv 0) (pa_cons (pe_bltn (by rfl) F2.ve PyProof.Rows.Boot.«ValueError» rfl) pa_nil))
theorem kinds_walk {P : Program} {w : World} {K : PySem.W.Frag} {mg : Str → Option Value} {base : Heap} {f : Addr} {cdv : Value} {A : Around} {outer : List Env} {s : Shared} {H : Hp} {Q : VK} {q : Addr × Obj} {D : Addr} {b : Nat → Bool} {d : Option Addr} {p : Nat → Pos} (hot : Hot1 A q) (F : KF K mg D b) (F2 : KN mg) (hz : Zc (.ref D) d q.2) (hd : ∀ dd, d = some dd → ∃ o, H dd = some o)
    (hpos : ((p 87).endLine == (p 98).line) = true) (hQ : ∀ H', Same H H' → Q (.str (Txt.join " " (kept b 12))) H') :
    ∃ t, PSs (kZ P w K mg base f cdv A outer s H q) (kindsBody p) t ∧ t { nx := fun _ H' => Q .non H', rt := Q } (L2.start ["e", "some", "words", "word", "good"] [.ref q.1]) H := by
  obtain ⟨C0, m0, k0⟩ := F.at_ 0 (by decide)
  obtain ⟨C1, m1, k1⟩ := F.at_ 1 (by decide)
  obtain ⟨C2, m2, k2⟩ := F.at_ 2 (by decide)
  obtain ⟨C3, m3, k3⟩ := F.at_ 3 (by decide)
  obtain ⟨C4, m4, k4⟩ := F.at_ 4 (by decide)
  obtain ⟨C5, m5, k5⟩ := F.at_ 5 (by decide)
  obtain ⟨C6, m6, k6⟩ := F.at_ 6 (by decide)
  obtain ⟨C7, m7, k7⟩ := F.at_ 7 (by decide)
  obtain ⟨C8, m8, k8⟩ := F.at_ 8 (by decide)
  obtain ⟨C9, m9, k9⟩ := F.at_ 9 (by decide)
  obtain ⟨C10, m10, k10⟩ := F.at_ 10 (by decide)
  refine ⟨_, (pss_cons (ps_set (i := 1) kinds_scope.nd rfl (.inl rfl) (pe_lst (pa_cons (pe_is hot F.T F2 hz (by rfl) m0 (by decide)) (pa_cons (pe_is hot F.T F2 hz (by rfl) m1 (by decide)) (pa_cons (pe_is hot F.T F2 hz (by rfl) m2 (by decide)) pa_nil)))))
      (pss_cons (ps_set (i := 1) kinds_scope.nd rfl (.inl rfl) (pe_op op_cat (pv 1) (pe_lst (pa_cons (pe_is hot F.T F2 hz (by rfl) m3 (by decide)) (pa_cons (pe_is hot F.T F2 hz (by rfl) m4 (by decide)) (pa_cons (pe_is hot F.T F2 hz (by rfl) m5 (by decide)) pa_nil))))))
      (pss_cons (ps_set (i := 1) kinds_scope.nd rfl (.inl rfl) (pe_op op_cat (pv 1) (pe_lst (pa_cons (pe_is hot F.T F2 hz (by rfl) m6 (by decide)) (pa_cons (pe_is hot F.T F2 hz (by rfl) m7 (by decide)) (pa_cons (pe_is hot F.T F2 hz (by rfl) m8 (by decide)) pa_nil))))))
      (pss_cons (ps_set (i := 1) kinds_scope.nd rfl (.inl rfl) (pe_op op_cat (pv 1) (pe_lst (pa_cons (pe_is hot F.T F2 hz (by rfl) m9 (by decide)) (pa_cons (pe_is hot F.T F2 hz (by rfl) m10 (by decide)) (pa_cons (pe_isV hot F.T F2 hz) pa_nil))))))
      (pss_cons (ps_set (i := 2) kinds_scope.nd rfl (.inl rfl) (pe_lst (pa_cons pe_str (pa_cons pe_str (pa_cons pe_str (pa_cons pe_str (pa_cons pe_str (pa_cons pe_str pa_nil))))))))
      (pss_cons (ps_set (i := 2) kinds_scope.nd rfl (.inl rfl) (pe_op op_cat (pv 2) (pe_lst (pa_cons pe_str (pa_cons pe_str (pa_cons pe_str (pa_cons pe_str (pa_cons pe_str (pa_cons pe_str pa_nil)))))))))
      (pss_one (ps_ret (pe_bm PySem.F.plainAttrs_str PySem.F.slot_str_join PySem.F.type_str_join mt_join pe_str (pa_cons (lc_hot (own := [("word", 3), ("good", 4)]) (q := q) (g := gTup K 2 (gCons (gName 3) (gCons (gName 4) gNil))) (tt := tB (tVar 4)) (te := tVar 3) ⟨hot, List.mem_cons_self⟩ kinds_scope.nd (pi_zipP (by rfl) F2.zip (pa_cons (pv 2) (pa_cons (pv 1) pa_nil))) (blkOk_by (own := [("word", 3), ("good", 4)]) (N := ["e", "some", "words", "word", "good"]) (sc := kindsSc) (by decide +kernel)) (fun _ _ _ _ _ => pg_tupH (p := q) ⟨hot, List.mem_cons_self⟩ (pgs_cons (pg_name (i := 3) kinds_scope.nd rfl (.inl rfl) (.inr rfl)) (pgs_cons (pg_name (i := 4) kinds_scope.nd rfl (.inl rfl) (.inr rfl)) pgs_nil))) (fun _ _ _ _ _ => pts_one (pt_val (pv 4))) (fun _ _ _ _ _ => pv 3)) pa_nil) (hline := hpos)))))))))), ?_⟩
  have up : ∀ {H1 : Hp} {l : Addr} {o : HO}, Same H H1 → H1 l = none → Same H (upd H1 l o) := fun {H1 l o} s n b u e => by rw [upd_ne (ne_of_none (s _ _ e) n)]; exact s _ _ e
  have hdc : ∀ H', Same H H' → ∀ dd, d = some dd → ∃ o, H' dd = some o := fun H' s dd e => (hd dd e).imp fun o z => s _ _ z
  have S := Same.refl H
  refine is_read rfl (hdc _ S) (fun _ h => h) k0 (is_read rfl (hdc _ S) (fun _ h => h) k1 (is_read rfl (hdc _ S) (fun _ h => h) k2 (⟨sn (by simp), fun l1 n1 => ?_⟩)))
  have e1 : upd H l1 (.lst [.bl (b 0), .bl (b 1), .bl (b 2)]) l1 = some (.lst ([b 0, b 1, b 2].map V.bl)) := upd_same
  have S1 := up (o := .lst [.bl (b 0), .bl (b 1), .bl (b 2)]) S n1
  generalize upd H l1 (.lst [.bl (b 0), .bl (b 1), .bl (b 2)]) = G1 at e1 S1 ⊢; clear S; have S := S1; clear S1
  refine ⟨_, rfl, is_read rfl (hdc _ S) (fun _ h => h) k3 (is_read rfl (hdc _ S) (fun _ h => h) k4 (is_read rfl (hdc _ S) (fun _ h => h) k5 (⟨sn (by simp), fun m3 n3 => ⟨_, _, _, _, rfl, rfl, by rw [upd_ne (ne_of_none e1 n3)]; exact e1, upd_same, sn (by simp), fun l2 q3 => ?_⟩⟩)))⟩
  have T3 := up (o := .lst [.bl (b 3), .bl (b 4), .bl (b 5)]) S n3
  have e2 : upd (upd G1 m3 (.lst [.bl (b 3), .bl (b 4), .bl (b 5)])) l2 (.lst (([b 0, b 1, b 2].map V.bl) ++ [.bl (b 3), .bl (b 4), .bl (b 5)])) l2 = some (.lst ([b 0, b 1, b 2, b 3, b 4, b 5].map V.bl)) := upd_same
  have S2 := up (o := .lst (([b 0, b 1, b 2].map V.bl) ++ [.bl (b 3), .bl (b 4), .bl (b 5)])) T3 q3
  generalize upd (upd G1 m3 (.lst [.bl (b 3), .bl (b 4), .bl (b 5)])) l2 (.lst (([b 0, b 1, b 2].map V.bl) ++ [.bl (b 3), .bl (b 4), .bl (b 5)])) = G2 at e2 S2 ⊢; clear S T3; have S := S2; clear S2
  refine ⟨_, rfl, is_read rfl (hdc _ S) (fun _ h => h) k6 (is_read rfl (hdc _ S) (fun _ h => h) k7 (is_read rfl (hdc _ S) (fun _ h => h) k8 (⟨sn (by simp), fun m6 n6 => ⟨_, _, _, _, rfl, rfl, by rw [upd_ne (ne_of_none e2 n6)]; exact e2, upd_same, sn (by simp), fun l3 q6 => ?_⟩⟩)))⟩
  have T6 := up (o := .lst [.bl (b 6), .bl (b 7), .bl (b 8)]) S n6
  have e3 : upd (upd G2 m6 (.lst [.bl (b 6), .bl (b 7), .bl (b 8)])) l3 (.lst (([b 0, b 1, b 2, b 3, b 4, b 5].map V.bl) ++ [.bl (b 6), .bl (b 7), .bl (b 8)])) l3 = some (.lst ([b 0, b 1, b 2, b 3, b 4, b 5, b 6, b 7, b 8].map V.bl)) := upd_same
  have S2 := up (o := .lst (([b 0, b 1, b 2, b 3, b 4, b 5].map V.bl) ++ [.bl (b 6), .bl (b 7), .bl (b 8)])) T6 q6
  generalize upd (upd G2 m6 (.lst [.bl (b 6), .bl (b 7), .bl (b 8)])) l3 (.lst (([b 0, b 1, b 2, b 3, b 4, b 5].map V.bl) ++ [.bl (b 6), .bl (b 7), .bl (b 8)])) = G3 at e3 S2 ⊢; clear S T6; have S := S2; clear S2
  refine ⟨_, rfl, is_read rfl (hdc _ S) (fun _ h => h) k9 (is_read rfl (hdc _ S) (fun _ h => h) k10 (is_read rfl (hdc _ S) (fun _ h => h) F.ve (⟨sn (by simp), fun m9 n9 => ⟨_, _, _, _, rfl, rfl, by rw [upd_ne (ne_of_none e3 n9)]; exact e3, upd_same, sn (by simp), fun l4 q9 => ?_⟩⟩)))⟩
  have T9 := up (o := .lst [.bl (b 9), .bl (b 10), .bl (true)]) S n9
  have e4 : upd (upd G3 m9 (.lst [.bl (b 9), .bl (b 10), .bl (true)])) l4 (.lst (([b 0, b 1, b 2, b 3, b 4, b 5, b 6, b 7, b 8].map V.bl) ++ [.bl (b 9), .bl (b 10), .bl (true)])) l4 = some (.lst ([b 0, b 1, b 2, b 3, b 4, b 5, b 6, b 7, b 8, b 9, b 10, true].map V.bl)) := upd_same
  have S2 := up (o := .lst (([b 0, b 1, b 2, b 3, b 4, b 5, b 6, b 7, b 8].map V.bl) ++ [.bl (b 9), .bl (b 10), .bl (true)])) T9 q9
  generalize upd (upd G3 m9 (.lst [.bl (b 9), .bl (b 10), .bl (true)])) l4 (.lst (([b 0, b 1, b 2, b 3, b 4, b 5, b 6, b 7, b 8].map V.bl) ++ [.bl (b 9), .bl (b 10), .bl (true)])) = G4 at e4 S2 ⊢; clear S T9; have S := S2; clear S2
  refine ⟨sn (by decide), fun w1 v1 => ?_⟩
  have f1 : upd G4 w1 (.lst [.str "InvalidFactors", .str "InvalidFrame", .str "InvalidIndex", .str "InvalidKind", .str "InvalidNumber", .str "InvalidParts"]) w1 = some (.lst [.str "InvalidFactors", .str "InvalidFrame", .str "InvalidIndex", .str "InvalidKind", .str "InvalidNumber", .str "InvalidParts"]) := upd_same
  have f2 : upd G4 w1 (.lst [.str "InvalidFactors", .str "InvalidFrame", .str "InvalidIndex", .str "InvalidKind", .str "InvalidNumber", .str "InvalidParts"]) l4 = _ := (upd_ne (ne_of_none e4 v1)).trans e4
  have S2 := up (o := .lst [.str "InvalidFactors", .str "InvalidFrame", .str "InvalidIndex", .str "InvalidKind", .str "InvalidNumber", .str "InvalidParts"]) S v1
  generalize upd G4 w1 (.lst [.str "InvalidFactors", .str "InvalidFrame", .str "InvalidIndex", .str "InvalidKind", .str "InvalidNumber", .str "InvalidParts"]) = G5 at f1 f2 S2 ⊢; clear S; have S := S2; clear S2
  refine ⟨_, rfl, sn (by decide), fun w2 v2 => ⟨_, _, _, _, rfl, rfl, by rw [upd_ne (ne_of_none f1 v2)]; exact f1, upd_same, sn (by decide), fun w3 v3 => ?_⟩⟩
  have S3 := up (o := .lst ([.str "InvalidFactors", .str "InvalidFrame", .str "InvalidIndex", .str "InvalidKind", .str "InvalidNumber", .str "InvalidParts"] ++ [.str "InvalidStep", .str "InvalidText", .str "NothingToUndo", .str "TooMany", .str "Unlike", .str "+"])) (up (o := .lst [.str "InvalidStep", .str "InvalidText", .str "NothingToUndo", .str "TooMany", .str "Unlike", .str "+"]) S v2) v3
  have g1 : upd (upd G5 w2 (.lst [.str "InvalidStep", .str "InvalidText", .str "NothingToUndo", .str "TooMany", .str "Unlike", .str "+"])) w3 (.lst ([.str "InvalidFactors", .str "InvalidFrame", .str "InvalidIndex", .str "InvalidKind", .str "InvalidNumber", .str "InvalidParts"] ++ [.str "InvalidStep", .str "InvalidText", .str "NothingToUndo", .str "TooMany", .str "Unlike", .str "+"])) w3 = some (.lst (wordsL.map V.str)) := upd_same
  have g2 : upd (upd G5 w2 (.lst [.str "InvalidStep", .str "InvalidText", .str "NothingToUndo", .str "TooMany", .str "Unlike", .str "+"])) w3 (.lst ([.str "InvalidFactors", .str "InvalidFrame", .str "InvalidIndex", .str "InvalidKind", .str "InvalidNumber", .str "InvalidParts"] ++ [.str "InvalidStep", .str "InvalidText", .str "NothingToUndo", .str "TooMany", .str "Unlike", .str "+"])) l4 = some (.lst ((boolsL b).map V.bl)) := by
    have h1 : upd G5 w2 (.lst [.str "InvalidStep", .str "InvalidText", .str "NothingToUndo", .str "TooMany", .str "Unlike", .str "+"]) l4 = _ := (upd_ne (ne_of_none f2 v2)).trans f2
    exact (upd_ne (ne_of_none h1 v3)).trans h1
  generalize upd (upd G5 w2 (.lst [.str "InvalidStep", .str "InvalidText", .str "NothingToUndo", .str "TooMany", .str "Unlike", .str "+"])) w3 (.lst ([.str "InvalidFactors", .str "InvalidFrame", .str "InvalidIndex", .str "InvalidKind", .str "InvalidNumber", .str "InvalidParts"] ++ [.str "InvalidStep", .str "InvalidText", .str "NothingToUndo", .str "TooMany", .str "Unlike", .str "+"])) = G6 at g1 g2 S3 ⊢
  refine ⟨rfl, zip_read rfl rfl g1 g2 rfl fun D G7 s7 nD eD => ⟨_, D, kept b 12, rfl, rfl, .inl (SqL.of eD), ?_, hQ _ fun a o e => s7 _ _ (S3 _ _ e)⟩⟩
  have k1 : ∀ l : List Str, (∀ x ∈ l, x.length ≤ 20) → l.length ≤ 12 → (l.map (·.length)).sum + l.length * (" " : Str).length ≤ 16777216 := by
    intro l h1 h2
    have h3 : (l.map (·.length)).sum ≤ l.length * 20 := by
      clear h2; induction l with
      | nil => simp
      | cons x l ih => have := h1 x (by simp); have := ih (fun y hy => h1 y (by simp [hy])); simp only [List.map_cons, List.sum_cons, List.length_cons]; omega
    have h4 : (" " : Str).length = 1 := by decide +kernel
    rw [h4]; omega
  refine k1 _ (fun x hx => ?_) ?_
  · unfold kept at hx
    obtain ⟨y, hy, rfl⟩ := List.mem_map.mp hx
    have h1 := (List.of_mem_zip (List.mem_of_mem_take (List.mem_filter.mp hy).1)).1
    have h2 : ∀ z ∈ wordsL, z.length ≤ 20 := by decide +kernel
    exact h2 _ h1
  · unfold kept
    rw [List.length_map]; refine Nat.le_trans (List.length_filter_le _ _) ?_; rw [List.length_take]; omega
end Ho

set_option maxHeartbeats 4000000
/-! HoL: a lambda without parameters handed to a def; what its body raises has no context. -/
namespace Ho
open PySem PySem.Spec PyProof.Rows L2 LamX
open Mi (lamN ExtT tLaw wishK)
section
variable {X : Cx} {pins : List (Addr × Obj)} {σ : L2.St} {H HZ : Hp} {s s1 : Shared}
theorem act_n {CXg : CXT} {Eg : XK} {Ng : List Str} {qg : Str} {sg : Scope} {g f c' : Addr} {cdg pm ctv : Value} {params : Arguments} {body : Expr} {scope : Scope} {k i : Nat} {a : Str} {pn : List (Addr × Obj)} {xe : Value → Shared → Prop} {W : WX} {E : XK} {tb : TE} {p1 p2 : Pos} (I : Inv X pins σ H s) (L : LamS X.env.scope scope)
    (hf : s.heap.get? f = some (PySem.W.kla_obj "<lambda>" (X.env.qual ++ "<lambda>") params body scope (cloFrom X.env.cells scope.names []) pm c' ctv)) (hfn : H f = none) (hfr : f ∉ frs X.stack) (hbind : bindArgs (PySem.W.kla_fn "<lambda>" (X.env.qual ++ "<lambda>") params body scope (cloFrom X.env.cells scope.names []) pm (.ref c') ctv) ⟨[], []⟩ = pure [])
    (tk : L2N.Takes ((cxOf CXg X.prog X.w X.K X.mg X.base Ng qg sg g cdg X.A X.stack s H Eg).tr pn xe) W) (hW : ∀ cls d σ' H', E cls d H' → W cls d σ' H') (hr : Room (k + 1) (X.A.deeper (envOfC qg sg s.heap.objs.size g cdg))) (hbody : ∀ (A : Around) (outer : List Env) (s : Shared) (H : Hp), Room k (A.deeper (lamEnv X scope s.heap.objs.size f c')) → PE (lamN X A outer s H E scope f c') body tb)
    (hN : Ng[i]? = some a) (hv : Vis sg a) (hd : (a == ("__debug__" : Str)) = false := by decide) (hcd : (a == ("__classdict__" : Str)) = false := by decide) :
    PE ((cxOf CXg X.prog X.w X.K X.mg X.base Ng qg sg g cdg X.A X.stack s H Eg).tr pn xe) (.Call (.Name a p1) [] [] p2) (fun σZ HZ Q => σZ[i]? = some (some (.ref f)) ∧ HZ c' = some (CodeO c' (X.env.qual ++ "<lambda>")) ∧ tb σ HZ Q) := by
  refine ⟨fun pinsZ sZ σZ HZ Q IZ ⟨hs, hc, ht⟩ => ?_⟩
  refine wpAny_Call_Name_kw (thn ((pe_var (pos := p1) (i := i) hN hv hd hcd).run pinsZ sZ σZ HZ (fun v H1 => v = .ref f ∧ H1 = HZ) IZ ⟨.ref f, hs, rfl, rfl⟩) fun u s1 ⟨v, H1, I1, r1, ev, eH⟩ => ?_); subst ev; rw [eH] at I1; obtain rfl : u = Value.ref f := r1
  have of1 : s1.heap.get? f = some (PySem.W.kla_obj "<lambda>" (X.env.qual ++ "<lambda>") params body scope (cloFrom X.env.cells scope.names []) pm c' ctv) := I1.base.keep f _ hf hfn hfr (fun z => nomatch (show f ∈ ([] : List Addr) from z))
  refine PySem.W.callWith_F0 ⟨_, _, _, _, of1⟩ ?_; have un : Un (frs X.stack) [] H HZ s.heap s1.heap := I1.base; obtain ⟨⟨oc, vs, t, hoc, hdc, hvc⟩, _, _⟩ := I1.hok c' _ hc
  have rc : codeAny (model X.prog X.w) (X.A.deeper (envOfC qg sg s.heap.objs.size g cdg)) (.call (.ref f) ⟨[], []⟩) (CR (L2N.CX X.prog X.w) (envOfC qg sg s.heap.objs.size g cdg :: X.stack) X.prog X.w HZ s1 Q E) s1 := by
    refine PySem.W.kla_callFunE hr.depth of1 rfl L.co L.gen rfl ⟨c', oc, vs, t, rfl, hoc, hdc, hvc⟩ ?_; rw [hbind]
    refine wpAny_pure (wpAny_newFunctionEnv (fun y hy => (L.own y hy).2) (fun y hy => absurd hy (by simp)) (fun h₁ hns hsb => ⟨I1.nolimit.fresh _ hsb, ?_⟩) L.kind); show codeAny _ _ (.expr body (lamEnv X scope s1.heap.objs.size f c')) _ _
    have kp : ∀ b o, s1.heap.get? b = some o → h₁.get? b = some o := fun b o e => hsb.extBut b o (Nat.ne_of_lt (Heap.lt_size e)) (Heap.get?_push_of_some _ e)
    have J := lam_start2 (tk := s1.toks + ([] : List (Str × Value)).length) (E := E) (f := f) (c' := c') I L I1.env0 hr.hd un hns kp
    refine PySem.W.kla_codeExpr (wpAny_mono ((hbody _ _ s1 HZ (hr.deeper _)).run [] _ _ HZ Q (J.toTry _) ht) (fun v s' ⟨w', H', J', rv, q⟩ => ⟨w', H', J'.os, J'.bare, J'.base, J'.hok, rv, q⟩) fun e s' hq => hq)
  have hx : Passes (L2N.CX X.prog X.w) ((cxOf CXg X.prog X.w X.K X.mg X.base Ng qg sg g cdg X.A X.stack s H Eg).tr pn xe) E := L2N.passes_call tk hW
  refine wpAny_call (codeAny_mono rc fun r s' hq => ?_)
  cases r with
  | error e => exact hx pinsZ σZ HZ s1 e s' I1 hq
  | ok fl => cases fl <;> first | exact I1.after hq | exact False.elim hq
end
/-- the def that calls what it got; its error wish: none -/
def GivesN (X : Cx) (κ : Nat) (Ng : List Str) (x : Str) (sg : Scope) (g : Addr) (cdg : Value) (bg : List Stmt) (a : Str) (q : Str) (TT : (XK → Hp → VK → Prop) → Hp → VK → Prop) : Prop :=
  ∀ (f c' : Addr) (s : Shared) (H : Hp) (Q : VK) (tl : XK → Hp → VK → Prop), Room κ (X.A.deeper (envOfC x sg s.heap.objs.size g cdg)) →
    (∀ (W : WX) (pn : List (Addr × Obj)) (xe : Value → Shared → Prop) (E : XK) (p1 p2 : Pos), L2N.Takes ((cxOf C8.CX0 X.prog X.w X.K X.mg X.base Ng x sg g cdg X.A X.stack s H C8.E0).tr pn xe) W → (∀ cls d σ' H', E cls d H' → W cls d σ' H') → PE ((cxOf C8.CX0 X.prog X.w X.K X.mg X.base Ng x sg g cdg X.A X.stack s H C8.E0).tr pn xe) (.Call (.Name a p1) [] [] p2) (fun σZ HZ Q => σZ[0]? = some (some (.ref f)) ∧ HZ c' = some (CodeO c' q) ∧ tl E HZ Q)) →
    H c' = some (CodeO c' q) → TT tl H Q → ∃ t, PSs (cxOf C8.CX0 X.prog X.w X.K X.mg X.base Ng x sg g cdg X.A X.stack s H C8.E0).nox bg t ∧ t { nx := fun _ H' => Q .non H', rt := Q } (L2.start Ng [.ref f]) H
/-- the lambda is made; all but its maker's table stay -/
theorem lam_make3 {X : Cx} {pins : List (Addr × Obj)} {σ : L2.St} {H : Hp} {s : Shared} {T : List (Addr × Str)} {c P : Addr} {params : Arguments} {body : Expr} {scope : Scope} {pos : Pos} {E : Value → Shared → Prop} {Q : Value → Shared → Prop} (I : Inv X pins σ H s) (TB : TabB X.base X.mg c P) (hcode : X.env.code = .ref c) (hm : (P, X.env.qual ++ "<lambda>") ∈ T)
    (hu : ∀ p ∈ T, p.1 = P → p.2 = X.env.qual ++ "<lambda>") (hT : Tabs T H) (hdef : defaultsOf params X.env = ([], [])) (hfree : ∀ y ∈ scope.names, y.2 = .free → ∃ c, X.env.cells.lookup y.1 = some c)
    (h : ∀ (f c' : Addr) (pm ctv : Value) (H1 : Hp) (s' : Shared), Inv X pins σ H1 s' → ExtT T H H1 → Tabs T H1 → s'.heap.get? f = some (PySem.W.kla_obj "<lambda>" (X.env.qual ++ "<lambda>") params body scope (cloFrom X.env.cells scope.names []) pm c' ctv) → H1 f = none → f ∉ frs X.stack → H1 c' = some (CodeO c' (X.env.qual ++ "<lambda>")) → Q (.ref f) s') :
    wpAny (model X.prog X.w) X.A (eval (.Lambda params body scope pos) X.env) Q E s := by
  obtain ⟨ps, hP, ht, ha⟩ := hT _ hm; refine PySem.W.kla_eval hdef ?_; have bP : s.heap.BuiltinsAt X.mg P := TB.bm.keeps I.bk; have hP' : s.heap.get? P = some { cls := .none, data := .fields ps } := I.hok P _ hP
  have inT : P ∈ T.map (·.1) := List.mem_map.mpr ⟨_, hm, rfl⟩
  have nofr : ∀ f, s.heap.objs.size ≤ f → f ∉ frs X.stack := fun f hf z => by rcases List.mem_cons.mp (I.stkSub _ z) with e | e <;> first | exact I.nofs hf e | (have h1 := I.lt; rw [← e] at h1; exact Nat.lt_irrefl _ (Nat.lt_of_lt_of_le h1 hf))
  cases hc : codeAmong pos ps.toList with
  | some cv =>
    obtain ⟨c', e, hco⟩ := ha pos cv hc; subst e
    refine PySem.W.kla_makeFunctionHit (mg := X.mg) (c := c) (P := P) (ps := ps) (closure_ok hfree) I.ok.glob (I.mod.glob.keeps I.bk) hcode (TB.code.keeps I.bk) hP' ht hc bP fun ctv h' tk hx hsz => ?_
    exact h h'.objs.size c' _ ctv H _ (I.kept fun b o e => Heap.get?_push_of_some _ (hx b o e)) (fun _ _ z _ => z) hT (Heap.get?_push_size _ rfl) (I.hok.fresh hsz) (nofr _ hsz) hco
  | none =>
    refine PySem.W.kla_makeFunction (mg := X.mg) (c := c) (P := P) (ps := ps) (closure_ok hfree) I.ok.glob (I.mod.glob.keeps I.bk) hcode (TB.code.keeps I.bk) hP' ht hc TB.gP bP fun c' ctv h' tk hx hge hlt hrec htb => ?_
    obtain ⟨c2, oc, vs, t, e2, hoc, hd, hv⟩ := hrec; cases e2; have hsz : s.heap.objs.size ≤ h'.objs.size := Nat.le_trans hge (Nat.le_of_lt hlt); have nC : H c' = none := I.hok.fresh hge
    have I1 := inv_table (t' := tk) (more := #[rawInt pos.line, rawInt pos.col, .ref c']) (h' := h'.push (PySem.W.kla_obj "<lambda>" (X.env.qual ++ "<lambda>") params body scope (cloFrom X.env.cells scope.names []) ((X.mg "__name__").getD .none) c' ctv)) I hP (fun b o hb e => Heap.get?_push_of_some _ (hx b o hb e)) (Heap.get?_push_of_some _ htb) hge ⟨oc, vs, t, Heap.get?_push_of_some _ hoc, hd, hv⟩
    have off : ∀ b o, b ≠ P → H b = some o → upd (upd H P (.tbl (ps ++ #[rawInt pos.line, rawInt pos.col, .ref c']))) c' (CodeO c' (X.env.qual ++ "<lambda>")) b = some o := fun b o n e => by rw [upd_ne (ne_of_none e nC), upd_ne n]; exact e
    have eL : (ps ++ #[rawInt pos.line, rawInt pos.col, .ref c']).toList = ps.toList ++ [rawInt pos.line, rawInt pos.col, .ref c'] := by simp
    have nP : ∀ {c0 : Addr} {q : Str}, H c0 = some (CodeO c0 q) → c0 ≠ P := fun e z => by rw [z, hP] at e; exact codeO_ne _ (Option.some.inj e).symm
    refine h h'.objs.size c' _ ctv _ _ I1 (fun b o e n => off b o (fun z => n (by rw [z]; exact inT)) e) (fun p hp => ?_) (Heap.get?_push_size _ rfl) ?_ (nofr _ hsz) upd_same
    · by_cases hb : p.1 = P
      · rw [hu p hp hb, hb]; refine ⟨_, by rw [upd_ne (ne_of_none hP nC), upd_same], by rw [eL]; exact PySem.TriplesOk_snoc _ _ _ _ ht, fun p' cv hcv => ?_⟩
        rw [eL] at hcv; rcases among_app _ ht hcv with z | z <;> first | exact ⟨c', z, upd_same⟩ | (obtain ⟨c0, e1, e2⟩ := ha p' cv z; exact ⟨c0, e1, off _ _ (nP e2) e2⟩)
      · obtain ⟨ps', a1, a2, a3⟩ := hT p hp; refine ⟨ps', by rw [upd_ne (ne_of_none a1 nC), upd_ne hb]; exact a1, a2, fun p' cv hcv => ?_⟩; obtain ⟨c0, e1, e2⟩ := a3 p' cv hcv; exact ⟨c0, e1, off _ _ (nP e2) e2⟩
    · rw [upd_ne (Nat.ne_of_gt hlt), upd_ne (Nat.ne_of_gt (Nat.lt_of_lt_of_le (Heap.lt_size hP') hsz))]; exact I.hok.fresh hsz
/-- _law_call's promise over the lambda's reading -/
def tTT (T : List (Addr × Str)) (TT : (XK → Hp → VK → Prop) → Hp → VK → Prop) (t : XK → TE) : TE := fun σ H Q => Tabs T H ∧ ∀ H1, ExtT T H H1 → Tabs T H1 → TT (fun E H' Q' => t E σ H' Q') H1 Q
/-- x(lambda: body) -/
theorem lamcall_n {X : Cx} {T : List (Addr × Str)} {TT : (XK → Hp → VK → Prop) → Hp → VK → Prop} {x a : Str} {g c P : Addr} {k : Nat} {pg : Arguments} {bg : List Stmt} {sg : Scope} {dV kV doc pm cdv ct oc : Value} {an od : Option Addr} {osl : Array (Option Value)} {Ng : List Str} {params : Arguments} {body : Expr} {scope : Scope} {t : XK → TE} {p lpos pos : Pos}
    (hg : Gl X x) (hm : X.mg x = some (.ref g)) (hk : PySem.W.keepIn X.K (.ref g) = true) (lk : X.K.lookup g = some ⟨oc, od, .func (PySem.W.fnOf x x pg bg sg dV kV doc pm an cdv ct), osl⟩) (hcg : PySem.W.codeIn X.K cdv x = true) (hb : L2.Binds X.K (PySem.W.fnOf x x pg bg sg dV kV doc pm an cdv ct) [a] []) (Sg : FnScope Ng [a] sg) (hNg : Ng[0]? = some a) (hva : Vis sg a)
    (hG : GivesN X (k + 1) Ng x sg g cdv bg a (X.env.qual ++ "<lambda>") TT) (TB : TabB X.base X.mg c P) (hcode : X.env.code = .ref c) (hmT : (P, X.env.qual ++ "<lambda>") ∈ T) (hu : ∀ p ∈ T, p.1 = P → p.2 = X.env.qual ++ "<lambda>") (hr : Room (k + 2) X.A) (L : LamS X.env.scope scope) (hdef : defaultsOf params X.env = ([], []))
    (hbind : ∀ (q : Str) (cl : List (Str × Addr)) (pm cv ctv : Value), bindArgs (PySem.W.kla_fn "<lambda>" q params body scope cl pm cv ctv) ⟨[], []⟩ = pure []) (hbody : ∀ (A : Around) (outer : List Env) (s : Shared) (H : Hp) (E : XK) (f c' : Addr), Room k (A.deeper (lamEnv X scope s.heap.objs.size f c')) → PE (lamN X A outer s H E scope f c') body (t E))
    (hdb : (x == ("__debug__" : Str)) = false := by decide) (hd : (a == ("__debug__" : Str)) = false := by decide) (hcd : (a == ("__classdict__" : Str)) = false := by decide) : PE X (.Call (.Name x p) [.Lambda params body scope lpos] [] pos) (tTT T TT t) := by
  refine ⟨fun pins s σ H Q I ⟨hT, h⟩ => ?_⟩; refine wpAny_Call_Name_kw (ld_glob I hg hm ?_ hdb); refine PySem.W.callWith_K (h₀ := X.base) I.ok.mod.kin hk ?_ (by rfl) (by rfl)
  show wpAny _ _ (spliced ((false, eval (.Lambda params body scope lpos) X.env) :: backTo pos (starEach [] X.env))) _ _ s
  refine Calls.spliced_cons (lam_make3 I TB hcode hmT hu hT hdef (L.has I.ok) fun f c' pm' ctv H1 s' I1 eN T1 hf hfn hfr hco => Calls.spliced_nil ⟨I1.kIn, ?_⟩)
  have rc : codeAny (model X.prog X.w) X.A (.call (.ref g) ⟨[.ref f], []⟩) (CR C8.CX0 X.stack X.prog X.w H1 s' Q C8.E0) s' := by
    refine run_ofS (N := Ng) (ps := [a]) (us := [.ref f]) (vs := [.ref f]) lk hcg Sg hr I1.env0 (hb s' [.ref f] I1.kIn rfl) (.cons rfl .nil) rfl fun hr' => ?_
    obtain ⟨t', ht', hq'⟩ := hG f c' s' H1 Q (fun E H' Q' => t E σ H' Q') hr' (fun W pn xe E p1 p2 tk hW => act_n (i := 0) I1 L hf hfn hfr (hbind _ _ _ _ _) tk hW hr' (fun A outer s H hr2 => hbody A outer s H E f c' hr2) hNg hva hd hcd) hco (h H1 eN T1); exact ⟨t', ht'.nox, hq'⟩
  refine wpAny_call (codeAny_mono rc fun r s2 hq => ?_)
  cases r with
  | error e => exact (show False from hq).elim
  | ok fl => cases fl <;> first | exact I1.after hq | exact False.elim hq
theorem takes0N {X : Cx} : L2N.Takes X (fun _ _ _ _ => False) := fun _ _ ⟨_, _, _, _, _, _, _, _, _, _, _, _, _, _, _, _, z⟩ => z.elim
end Ho

set_option maxHeartbeats 4000000
/-! Ho5: the law's _law_call, walked. -/
namespace Ho
open PySem PySem.Spec PyProof.Rows L2 LamX HotX L2H
/-- what is known of the law's two defs -/
structure KC (K : PySem.W.Frag) (mg : Str → Option Value) where
  fk : Addr
  oc : Value
  od : Option Addr
  osl : Array (Option Value)
  pg : Arguments
  (dV kV doc pm cdv ct : Value)
  an : Option Addr
  pk : Nat → Pos
  CT : Addr
  CI : Addr
  CR : Addr
structure KC.Ok {K : PySem.W.Frag} {mg : Str → Option Value} (k : KC K mg) : Prop where
  lk : K.lookup k.fk = some ⟨k.oc, k.od, .func (PySem.W.fnOf "_law_kinds" "_law_kinds" k.pg (kindsBody k.pk) kindsSc k.dV k.kV k.doc k.pm k.an k.cdv k.ct), k.osl⟩
  cd : PySem.W.codeIn K k.cdv "_law_kinds" = true
  kp : PySem.W.keepIn K (.ref k.fk) = true
  bd : Binds K (PySem.W.fnOf "_law_kinds" "_law_kinds" k.pg (kindsBody k.pk) kindsSc k.dV k.kV k.doc k.pm k.an k.cdv k.ct) ["e"] []
  gk : mg "_law_kinds" = some (.ref k.fk)
  pos : ((k.pk 87).endLine == (k.pk 98).line) = true
  kn : KN mg
  gT : mg "TooMany" = some (.ref k.CT)
  gI : mg "InvalidText" = some (.ref k.CI)
  gR : mg "RodError" = some (.ref k.CR)
/-- what is told of an exception: t the classes found, in their order -/
def CWish (K : PySem.W.Frag) (mg : Str → Option Value) (CT CI CR : Addr) (Q : VK) : XK := fun cls d H => ∃ (D : Addr) (b : Nat → Bool), cls = .ref D ∧ KF K mg D b ∧
  ((PySem.W.exmOne K cls (.ref CT) = some true ∧ XfC K D ∧ PySem.W.findIn K (.ref D) "limit" = some none ∧ ∃ dd v, d = some dd ∧ H dd = some (.xd [("limit", v)]) ∧ ∀ H2, Same H H2 → ∀ t, H2 t = none → Q (.ref t) (upd H2 t (.tup [.str (Txt.join " " (kept b 12)), v]))) ∨
  (PySem.W.exmOne K cls (.ref CT) = some false ∧ PySem.W.exmOne K cls (.ref CI) = some true ∧ XfC K D ∧ PySem.W.findIn K (.ref D) "line" = some none ∧ ∃ dd v, d = some dd ∧ H dd = some (.xd [("line", v)]) ∧ ∀ H2, Same H H2 → ∀ t, H2 t = none → Q (.ref t) (upd H2 t (.tup [.str (Txt.join " " (kept b 12)), v]))) ∨
  (PySem.W.exmOne K cls (.ref CT) = some false ∧ PySem.W.exmOne K cls (.ref CI) = some false ∧ PySem.W.exmOne K cls (.ref CR) = some true ∧ d = none ∧ ∀ H2, Same H H2 → ∀ t, H2 t = none → Q (.ref t) (upd H2 t (.tup [.str (Txt.join " " (kept b 12))]))))
def TTlaw (K : PySem.W.Frag) (mg : Str → Option Value) (CT CI CR : Addr) : (XK → Hp → VK → Prop) → Hp → VK → Prop := fun tl H Q =>
  ∃ Ech : XK, (∀ cls d H', Ech cls d H' → CWish K mg CT CI CR Q cls d H') ∧ tl Ech H fun v H' => ∀ t, H' t = none → Q (.ref t) (upd H' t (.tup [.str "told", v]))
abbrev callN : List Str := ["call_so", "found", "e"]
abbrev cZ (X : Cx) (g : Addr) (cdg : Value) (s : Shared) (H : Hp) : Cx := (cxOf C8.CX0 X.prog X.w X.K X.mg X.base callN "_law_call" callSc g cdg X.A X.stack s H C8.E0).nox
theorem call_scope : FnScope callN ["call_so"] callSc := ⟨rfl, rfl, rfl, by decide +kernel, rfl, by decide +kernel, by decide +kernel⟩
/-- _law_kinds(e) in a suite -/
theorem pe_kinds {X : Cx} {g : Addr} {cdg : Value} {s : Shared} {H : Hp} {kc : KC X.K X.mg} (O : kc.Ok) {κ : Nat} (hr : Room (κ + 1) (cZ X g cdg s H).A) {a : Addr} {oe : Obj} {cls : Value} {d : Option Addr} {pn : List (Addr × Obj)} (hz : L2N.Zn cls d oe) (hf : ∃ vs, oe.data = .fields vs) {p1 p2 p3 : Pos} :
    PE ((cZ X g cdg s H).suite a ((a, oe) :: pn)) (.Call (.Name "_law_kinds" p1) [.Name "e" p2] [] p3)
      (fun σ H Q => σ[2]? = some (some (.ref a)) ∧ ∃ D b, cls = .ref D ∧ KF X.K X.mg D b ∧ (∀ dd, d = some dd → ∃ o, H dd = some o) ∧ ∀ H', Same H H' → Q (.str (Txt.join " " (kept b 12))) H') := by
  obtain ⟨vs, hv⟩ := hf
  have h1 : Hot1 ((cZ X g cdg s H).suite a ((a, oe) :: pn)).A (a, oe) := ⟨rfl, ⟨vs, hv, hz.2.2 vs hv⟩⟩
  refine Mi.PE.imp (pe_hot (B := fun vs H Q => vs = [.ref a] ∧ ∃ D b, cls = .ref D ∧ KF X.K X.mg D b ∧ (∀ dd, d = some dd → ∃ o, H dd = some o) ∧ ∀ H', Same H H' → Q (.str (Txt.join " " (kept b 12))) H') (ps := ["e"]) (N := ["e", "some", "words", "word", "good"]) (t := tCons (tVar 2) tNil) (k := κ) (p := (a, oe)) O.lk O.cd kinds_scope ⟨hr.dp, hr.un⟩ ⟨h1, List.mem_cons_self⟩ (by rfl) O.gk O.kp O.bd ?_ (pa_cons (pv 2) pa_nil)) ?_
  · rintro A outer s' H' vs Q hot _ ⟨rfl, D, b, rfl, F, hd, hQ⟩
    exact ⟨rfl, kinds_walk hot F O.kn hz.zc hd O.pos hQ⟩
  · rintro σ H Q ⟨e, D, b, rfl, F, hd, hQ⟩
    exact ⟨.ref a, e, rfl, D, b, rfl, F, hd, hQ⟩
/-- found = (_law_kinds(e), e.f) -/
theorem suite2 {X : Cx} {g : Addr} {cdg : Value} {s : Shared} {H0 : Hp} {kc : KC X.K X.mg} (O : kc.Ok) {κ : Nat} (hr : Room (κ + 1) (cZ X g cdg s H0).A) {f : Str} {p1 p2 p3 p4 p5 p6 p7 p8 : Pos} (hb : ∀ (Y : Cx) (p : Pos), attributeBase (.Name "e" p) f Y.env (eval (.Name "e" p) Y.env) = eval (.Name "e" p) Y.env)
    (hs : ∀ Y : Cx, swapsWith (.Tuple [.Call (.Name "_law_kinds" p2) [.Name "e" p3] [] p4, .Attribute (.Name "e" p5) f p6] 0 p7) (some (.Name "found" p1)) p8.line Y.env = pure false)
    {a : Addr} {oe : Obj} {cls : Value} {d : Option Addr} {pn : List (Addr × Obj)} (hz : L2N.Zn cls d oe) (hf : ∃ vs, oe.data = .fields vs) :
    PSs ((cZ X g cdg s H0).suite a ((a, oe) :: pn)) [.Assign [(.Name "found" p1)] (.Tuple [.Call (.Name "_law_kinds" p2) [.Name "e" p3] [] p4, .Attribute (.Name "e" p5) f p6] 0 p7) p8]
      (fun D σ H => σ[2]? = some (some (.ref a)) ∧ ∃ C b dd v, cls = .ref C ∧ KF X.K X.mg C b ∧ XfC X.K C ∧ PySem.W.findIn X.K (.ref C) f = some none ∧ d = some dd ∧ H dd = some (.xd [(f, v)]) ∧ ∀ H2, Same H H2 → ∀ t, H2 t = none → D.nx (σ.set 1 (some (.ref t))) (upd H2 t (.tup [.str (Txt.join " " (kept b 12)), v]))) := by
  refine ⟨fun pins s' σ H D I ⟨e2, C, b, dd, v, ec, F, xf, nf, ed, hd, hk⟩ => ?_⟩
  refine (pss_one (ps_set (i := 1) call_scope.nd rfl (.inl rfl) (pe_tup (pa_cons (pe_kinds O hr hz hf) (pa_cons (pe_xf (a := a) (oe := oe) (d := d) (pn := pn) (X := cZ X g cdg s H0) xf nf hz.zc hf (pv 2) (hb _ _)) pa_nil))) (hs _))).run pins s' σ H D I ?_
  refine ⟨e2, C, b, ec, F, fun d1 h1 => ?_, fun H' sm => ⟨.ref a, e2, rfl, ec, dd, _, v, ed, sm _ _ hd, by simp [List.lookup], by simp [sizeLine_eq], fun t ht => hk H' sm t ht⟩⟩
  rw [ed] at h1; cases h1; exact ⟨_, hd⟩
theorem suite1 {X : Cx} {g : Addr} {cdg : Value} {s : Shared} {H0 : Hp} {kc : KC X.K X.mg} (O : kc.Ok) {κ : Nat} (hr : Room (κ + 1) (cZ X g cdg s H0).A) {p1 p2 p3 p4 p7 p8 : Pos}
    (hs : ∀ Y : Cx, swapsWith (.Tuple [.Call (.Name "_law_kinds" p2) [.Name "e" p3] [] p4] 0 p7) (some (.Name "found" p1)) p8.line Y.env = pure false)
    {a : Addr} {oe : Obj} {cls : Value} {d : Option Addr} {pn : List (Addr × Obj)} (hz : L2N.Zn cls d oe) (hf : ∃ vs, oe.data = .fields vs) :
    PSs ((cZ X g cdg s H0).suite a ((a, oe) :: pn)) [.Assign [(.Name "found" p1)] (.Tuple [.Call (.Name "_law_kinds" p2) [.Name "e" p3] [] p4] 0 p7) p8]
      (fun D σ H => σ[2]? = some (some (.ref a)) ∧ ∃ C b, cls = .ref C ∧ KF X.K X.mg C b ∧ d = none ∧ ∀ H2, Same H H2 → ∀ t, H2 t = none → D.nx (σ.set 1 (some (.ref t))) (upd H2 t (.tup [.str (Txt.join " " (kept b 12))]))) := by
  refine ⟨fun pins s' σ H D I ⟨e2, C, b, ec, F, ed, hk⟩ => ?_⟩
  refine (pss_one (ps_set (i := 1) call_scope.nd rfl (.inl rfl) (pe_tup (pa_cons (pe_kinds O hr hz hf) pa_nil)) (hs _))).run pins s' σ H D I ?_
  exact ⟨e2, C, b, ec, F, (by rw [ed]; exact fun d1 h1 => nomatch h1), fun H' sm => ⟨by simp [sizeLine_eq], fun t ht => hk H' sm t ht⟩⟩
theorem pe_wk {X : Cx} {e : Expr} {t : TE} (h : PE X e t) : PE X e (fun σ H Q => ∃ Q', t σ H Q' ∧ ∀ v H', Q' v H' → Q v H') :=
  ⟨fun pins s σ H Q I ⟨Q', h1, h2⟩ => wpAny_mono (h.run pins s σ H Q' I h1) (fun u s' ⟨v, H', I', r, q⟩ => ⟨v, H', I', r, h2 _ _ q⟩) fun _ _ z => z⟩
theorem takes_len {X : Cx} {W : WX} (t : L2N.Takes X W) : L2N.Takes X (fun c d σ H => σ.length = X.N.length → W c d σ H) := fun u s' ⟨a, B, sI, pins, σ, H, cls, d, e, I, nb, up, sky, na, os, ag, w⟩ => t u s' ⟨a, B, sI, pins, σ, H, cls, d, e, I, nb, up, sky, na, os, ag, w I.len⟩
theorem law_call {X : Cx} {g : Addr} {cdg : Value} {kc : KC X.K X.mg} (O : kc.Ok) {κ : Nat} {q : Str} (p : Nat → Pos) :
    GivesN X (κ + 1) callN "_law_call" callSc g cdg (callBody p) "call_so" q (TTlaw X.K X.mg kc.CT kc.CI kc.CR) := by
  intro f c' s H Q tl hr act hc h
  have call1 : ∀ (W : WX) (pn : List (Addr × Obj)) (xe : Value → Shared → Prop), L2N.Takes ((cZ X g cdg s H).tr pn xe) W → PassesOwn (model X.prog X.w) (cZ X g cdg s H).A (cZ X g cdg s H).env xe →
      PSs ((cZ X g cdg s H).tr pn xe) [.Assign [(.Name "found" (p 3))] (.Tuple [(.Constant (.str "told") 0 (p 4)), (.Call (.Name "call_so" (p 5)) [] [] (p 6))] 0 (p 7)) (p 8)]
        (fun D σ H1 => ∃ Ech : XK, (∀ cls d σ' H', σ'.length = 3 → Ech cls d H' → W cls d σ' H') ∧ σ[0]? = some (some (.ref f)) ∧ H1 c' = some (CodeO c' q) ∧ ∃ Q', tl Ech H1 Q' ∧ ∀ v H', Q' v H' → ∀ t, H' t = none → D.nx (σ.set 1 (some (.ref t))) (upd H' t (.tup [.str "told", v]))) := by
    intro W pn xe tk _
    refine ⟨fun pins s' σ H' D I ⟨Ech, hW, h1, h2, Q', h3, h4⟩ => ?_⟩
    refine (pss_one (ps_set (i := 1) call_scope.nd rfl (.inl rfl) (pe_tup (pa_cons pe_str (pa_cons (pe_wk (act _ pn xe Ech (p 5) (p 6) (takes_len tk) fun c d σ H e l => hW c d σ H l e)) pa_nil))))).run pins s' σ H' D I ?_
    exact ⟨_, ⟨h1, h2, h3⟩, fun v H2 hk => ⟨by simp [sizeLine_eq], fun t ht => h4 v H2 hk t ht⟩⟩
  have NT : Names (cZ X g cdg s H) "TooMany" (.ref kc.CT) := ⟨by rfl, by decide, .inl O.gT⟩
  have NI : Names (cZ X g cdg s H) "InvalidText" (.ref kc.CI) := ⟨by rfl, by decide, .inl O.gI⟩
  have NR : Names (cZ X g cdg s H) "RodError" (.ref kc.CR) := ⟨by rfl, by decide, .inl O.gR⟩
  refine ⟨_, pss_cons (ps_set (i := 1) call_scope.nd rfl (.inl rfl) pe_non) (pss_cons (try_each (X := cZ X g cdg s H) (i := 2) rfl rfl call_scope.nd rfl rfl takes0N call1
    (.cons NT (fun a oe cls d pn hz hf => suite2 O hr (fun _ _ => by rfl) (fun _ => by rfl) hz hf) (.cons NI (fun a oe cls d pn hz hf => suite2 O hr (fun _ _ => by rfl) (fun _ => by rfl) hz hf) (.cons NR (fun a oe cls d pn hz hf => suite1 O hr (fun _ => by rfl) hz hf) .nil)))) (pss_one (ps_ret (pv 1)))), ?_⟩
  obtain ⟨Ech, hE, h⟩ := h
  refine ⟨Ech, ?_, rfl, hc, _, h, fun v H' hk t ht => ⟨_, rfl, hk t ht⟩⟩
  intro cls d σ' H' hl he
  obtain ⟨D, b, rfl, F, h⟩ := hE _ _ _ he
  obtain ⟨x0, x1, x2, rfl⟩ : ∃ x0 x1 x2, σ' = [x0, x1, x2] := by
    match σ', hl with
    | [x0, x1, x2], _ => exact ⟨_, _, _, rfl⟩
  rcases h with ⟨e1, xf, nf, dd, v, rfl, hd, hk⟩ | ⟨e1, e2, xf, nf, dd, v, rfl, hd, hk⟩ | ⟨e1, e2, e3, rfl, hk⟩
  · refine ⟨true, e1, fun _ a _ => ⟨rfl, D, b, dd, v, rfl, F, xf, nf, rfl, hd, fun H2 sm t ht => ?_⟩, fun z => nomatch z⟩
    exact ⟨_, rfl, hk H2 sm t ht⟩
  · refine ⟨false, e1, fun z => (nomatch z), fun _ => ⟨true, e2, fun _ a _ => ⟨rfl, D, b, dd, v, rfl, F, xf, nf, rfl, hd, fun H2 sm t ht => ?_⟩, fun z => nomatch z⟩⟩
    exact ⟨_, rfl, hk H2 sm t ht⟩
  · refine ⟨false, e1, fun z => (nomatch z), fun _ => ⟨false, e2, fun z => (nomatch z), fun _ => ⟨true, e3, fun _ a _ => ⟨rfl, D, b, rfl, F, rfl, fun H2 sm t ht => ?_⟩, fun z => nomatch z⟩⟩⟩
    exact ⟨_, rfl, hk H2 sm t ht⟩
end Ho

set_option maxHeartbeats 4000000
/-! Ho6: the rule of _law_call(lambda: ..) in the law's def. -/
namespace Ho
open PySem PySem.Spec PyProof.Rows L2 LamX HotX L2H
open Mi (lamN ExtT tLaw wishK LamOk)
/-- how the classes are told -/
def KdF (K : PySem.W.Frag) (mg : Str → Option Value) (CT CI CR : Addr) (kd : Str → Option (Str × Option Str)) : Prop := ∀ c t a C, kd c = some (t, a) → mg c = some (.ref C) → ∃ b, KF K mg C b ∧ t = Txt.join " " (kept b 12) ∧ match a with
  | none => PySem.W.exmOne K (.ref C) (.ref CT) = some false ∧ PySem.W.exmOne K (.ref C) (.ref CI) = some false ∧ PySem.W.exmOne K (.ref C) (.ref CR) = some true
  | some n => (n = "limit" ∧ PySem.W.exmOne K (.ref C) (.ref CT) = some true ∧ XfC K C ∧ PySem.W.findIn K (.ref C) "limit" = some none) ∨ (n = "line" ∧ PySem.W.exmOne K (.ref C) (.ref CT) = some false ∧ PySem.W.exmOne K (.ref C) (.ref CI) = some true ∧ XfC K C ∧ PySem.W.findIn K (.ref C) "line" = some none)
/-- what is known of _law_call -/
structure KL (K : PySem.W.Frag) (mg : Str → Option Value) where
  g : Addr
  oc : Value
  od : Option Addr
  osl : Array (Option Value)
  pg : Arguments
  (dV kV doc pm cdv ct : Value)
  an : Option Addr
  p : Nat → Pos
structure KL.Ok {K : PySem.W.Frag} {mg : Str → Option Value} (k : KL K mg) : Prop where
  lk : K.lookup k.g = some ⟨k.oc, k.od, .func (PySem.W.fnOf "_law_call" "_law_call" k.pg (callBody k.p) callSc k.dV k.kV k.doc k.pm k.an k.cdv k.ct), k.osl⟩
  cd : PySem.W.codeIn K k.cdv "_law_call" = true
  kp : PySem.W.keepIn K (.ref k.g) = true
  bd : Binds K (PySem.W.fnOf "_law_call" "_law_call" k.pg (callBody k.p) callSc k.dV k.kV k.doc k.pm k.an k.cdv k.ct) ["call_so"] []
  gk : mg "_law_call" = some (.ref k.g)
theorem lamOk_of {X : Cx} {T : List (Addr × Str)} {c P : Addr} {k : Nat} {kd : Str → Option (Str × Option Str)} {kc : KC X.K X.mg} (O : kc.Ok) {kl : KL X.K X.mg} (OL : kl.Ok) (hkd : KdF X.K X.mg kc.CT kc.CI kc.CR kd) (TB : TabB X.base X.mg c P) (hcode : X.env.code = .ref c) (hmT : (P, X.env.qual ++ "<lambda>") ∈ T) (hu : ∀ p ∈ T, p.1 = P → p.2 = X.env.qual ++ "<lambda>") (hr : Room (k + 2) X.A) : LamOk X T k kd := by
  intro body scope p lpos pos t hG hL hbody
  refine Mi.PE.imp (lamcall_n (TT := TTlaw X.K X.mg kc.CT kc.CI kc.CR) (k := k) (t := t) hG OL.gk OL.kp OL.lk OL.cd OL.bd call_scope rfl (.inl rfl) (law_call O kl.p) TB hcode hmT hu hr hL rfl (fun _ _ _ _ _ => by rfl) hbody) fun σ H Q ⟨h1, h2⟩ => ⟨h1, fun H1 e1 t1 => ⟨wishK X.mg kd Q, fun cls d H' w => ?_, h2 H1 e1 t1⟩⟩
  obtain ⟨cn, C, tx, a, hm, rfl, hk, hw⟩ := w
  obtain ⟨b, F, rfl, ha⟩ := hkd _ _ _ _ hk hm
  refine ⟨C, b, rfl, F, ?_⟩
  cases a with
  | none =>
    obtain ⟨rfl, hw⟩ := hw
    obtain ⟨h3, h4, h5⟩ := ha
    exact .inr (.inr ⟨h3, h4, h5, rfl, hw⟩)
  | some n =>
    obtain ⟨dd, v, rfl, hd, hw⟩ := hw
    rcases ha with ⟨rfl, h3, h4, h5⟩ | ⟨rfl, h3, h4, h5, h6⟩
    · exact .inl ⟨h3, h4, h5, dd, v, rfl, hd, hw⟩
    · exact .inr (.inl ⟨h3, h4, h5, h6, dd, v, rfl, hd, hw⟩)
end Ho

set_option maxHeartbeats 4000000
/-! Ho7: an own error class's __init__: the base's __init__ by its class, one field. -/
namespace Ho
open PySem PySem.Spec PyProof.Rows L2
/-- what is asked of the base class -/
structure BaseI (K : PySem.W.Frag) (mg : Str → Option Value) (B : Str) (CB : Addr) : Prop where
  gB : mg B = some (.ref CB)
  rd : PySem.W.readsIn K CB (.type "type") = true
  ga : PySem.W.specialIn K (.ref CB) "__getattribute__" = some (some (.builtin "type.__getattribute__"))
  fi : PySem.W.findCls K (.ref CB) (.type "type") "__init__" = some (.val (.builtin "ValueError.__init__"))
theorem pe_baseinit {X : Cx} {B : Str} {CB : Addr} {e : Expr} {es : List Expr} {ta : TA} {p1 p2 pos : Pos} {pl : Sem Bool} (hB : BaseI X.K X.mg B CB) (hg : Gl X B) (hdb : (B == ("__debug__" : Str)) = false) (ha : PA X (e :: es) ta)
    (hc : eval (.Call (.Attribute (.Name B p1) "__init__" p2) (e :: es) [] pos) X.env = (do
      let ov ← eval (.Name B p1) X.env
      standAt p2.atName
      let (f, first) ← holding [ov] (getMethod ov "__init__" pl)
      callWith pos f first (backTo pos (starEach (e :: es) X.env)) (backToKw pos (keywordEach [] X.env))) := by rfl)
    (he : starEach (e :: es) X.env = (false, eval e X.env) :: starEach es X.env := by rfl) (hpl : (backTo pos (starEach es X.env)).any (·.1) = false := by rfl) :
    PE X (.Call (.Attribute (.Name B p1) "__init__" p2) (e :: es) [] pos) (tVeI X.K ta) := by
  refine ⟨fun pins s σ H Q I h => ?_⟩; refine PySem.W.methodCall_KW (ld_glob I hg hB.gB ?_ hdb) hc
  refine PySem.W.method_cls I.kIn hB.ga (PySem.W.cls_value I.kIn hB.rd hB.fi (by rfl) ?_)
  show wpAny _ _ (callWith pos (Value.builtin "ValueError.__init__") [] (backTo pos (starEach (e :: es) X.env)) []) _ _ _
  refine PyProof.Rows.callWith_method1 (thn (ha.run pos pins _ σ H _ (I.tok _) h) fun us s1 ⟨vs, H1, I1, r1, a, C, ws, ev, hl, T, ea, q⟩ => ?_) he hpl; subst ev
  cases r1 with
  | @cons _ u0 _ ur ra rw' =>
    obtain rfl : u0 = Value.ref a := ra
    exact oinit_ok T I1 ea (by rw [← Paired.length rw', sizeLine_eq]; omega) fun s' J => ⟨.non, H1, J, rfl, q⟩
def initBody (B m f : Str) (p : Nat → Pos) : List Stmt := [.Expr (.Call (.Attribute (.Name B (p 0)) "__init__" (p 1)) [.Name "self" (p 2), .Constant (.str m) 0 (p 3)] [] (p 4)) (p 5),
  .Assign [.Attribute (.Name "self" (p 6)) f (p 7)] (.Name f (p 8)) (p 9)]
theorem init_ok {P : Program} {w : World} {K : PySem.W.Frag} {mg : Str → Option Value} {base : Heap} {qual B m f : Str} {params : Arguments} {sc : Scope} {p : Nat → Pos} {fI C CB : Addr} {fd : FuncData} (F : FunD K "__init__" qual params (initBody B m f p) sc [] [] fI fd) (S : FnScope ["self", f] ["self", f] sc) (hl : sc.names.lookup B = some .globalImplicit) (hdb : (B == ("__debug__" : Str)) = false)
    (hs : sc.names.lookup ("self" : Str) = some .local) (hf : sc.names.lookup f = some .local) (hfd : (f == ("__debug__" : Str)) = false) (hfc : (f == ("__classdict__" : Str)) = false) (hc : ∀ X : Cx, eval (.Call (.Attribute (.Name B (p 0)) "__init__" (p 1)) [.Name "self" (p 2), .Constant (.str m) 0 (p 3)] [] (p 4)) X.env = (do
      let ov ← eval (.Name B (p 0)) X.env
      standAt (p 1).atName
      let (f, first) ← holding [ov] (getMethod ov "__init__" (L2.plainOf (.Name B (p 0)) X.env))
      callWith (p 4) f first (backTo (p 4) (starEach [.Name "self" (p 2), .Constant (.str m) 0 (p 3)] X.env)) (backToKw (p 4) (keywordEach [] X.env)))) (hB : BaseI K mg B CB) (T : OexC K C) (hno : PySem.W.findIn K (.ref C) f = some none) : FnOk P w K mg base CX0 1 fI fd ["self", f] (Mi.spInit C f) := by
  refine F.ok S (fun vs H Q E ⟨a, v, e, _⟩ => by rw [e]; rfl) ?_
  rintro cdv A outer s H vs Q E hroom ⟨a, v, rfl, hH, hQ⟩
  refine ⟨_, pss_cons (ps_expr (pe_baseinit hB hl hdb (pa_cons (pe_var (i := 0) rfl (.inl hs)) (pa_cons pe_str pa_nil)) (hc _))) (pss_one (ps_ost (pe_var (i := 0) rfl (.inl hs)) (pe_var (i := 1) rfl (.inl hf) hfd hfc))), ?_⟩
  refine ⟨.ref a, rfl, a, C, [.str m], rfl, by simp, T, hH, ?_⟩
  exact ⟨v, rfl, .ref a, rfl, a, C, rfl, T, hno, .inl ⟨hH, fun dx n ne => hQ dx n ne⟩⟩
/-- the error class with an attribute -/
theorem ek_at {P : Program} {w : World} {K : PySem.W.Frag} {mg : Str → Option Value} {base : Heap} {c qual B m f : Str} {params : Arguments} {sc : Scope} {p : Nat → Pos} {fI C CB : Addr} {fd : FuncData} (F : FunD K "__init__" qual params (initBody B m f p) sc [] [] fI fd) (S : FnScope ["self", f] ["self", f] sc) (hl : sc.names.lookup B = some .globalImplicit) (hdb : (B == ("__debug__" : Str)) = false)
    (hs : sc.names.lookup ("self" : Str) = some .local) (hf : sc.names.lookup f = some .local) (hfd : (f == ("__debug__" : Str)) = false) (hfc : (f == ("__classdict__" : Str)) = false) (hce : ∀ X : Cx, eval (.Call (.Attribute (.Name B (p 0)) "__init__" (p 1)) [.Name "self" (p 2), .Constant (.str m) 0 (p 3)] [] (p 4)) X.env = (do
      let ov ← eval (.Name B (p 0)) X.env
      standAt (p 1).atName
      let (f, first) ← holding [ov] (getMethod ov "__init__" (L2.plainOf (.Name B (p 0)) X.env))
      callWith (p 4) f first (backTo (p 4) (starEach [.Name "self" (p 2), .Constant (.str m) 0 (p 3)] X.env)) (backToKw (p 4) (keywordEach [] X.env)))) (hB : BaseI K mg B CB) (T : OexC K C) (hno : PySem.W.findIn K (.ref C) f = some none) (hc : mg c = some (.ref C)) (hb : Binds K fd ["self", f] [])
    (h1 : PySem.W.findIn K (.ref C) "__init__" = some (some (.ref fI))) (h2 : PySem.W.typeIn K (.ref fI) = some (.type "function")) : Mi.Ek P w K mg base 2 c (some f) :=
  ⟨C, hc, T, fI, fd, 1, ["self", f], h1, h2, init_ok F S hl hdb hs hf hfd hfc hce hB T hno, by decide, hb⟩
theorem Ek.mono {P : Program} {w : World} {K : PySem.W.Frag} {mg : Str → Option Value} {base : Heap} {c : Str} {a : Option Str} {κ κ' : Nat} (h : Mi.Ek P w K mg base κ c a) (l : κ ≤ κ') : Mi.Ek P w K mg base κ' c a := by
  obtain ⟨C, hc, h⟩ := h
  refine ⟨C, hc, ?_⟩
  cases a with
  | none => exact h
  | some n => obtain ⟨T, fI, fd, k, ps, h1, h2, h3, h4, h5⟩ := h; exact ⟨T, fI, fd, k, ps, h1, h2, h3, Nat.le_trans h4 l, h5⟩
end Ho

set_option maxHeartbeats 4000000
/-! Ho8: what the head must hold of the error classes, by Bools. -/
namespace Ho
open PySem PySem.Spec PyProof.Rows L2 LamX
open He (ga)
def dB (p : Prop) [Decidable p] : Bool := decide p
theorem dB_ok {p : Prop} [Decidable p] (h : dB p = true) : p := of_decide_eq_true h
def excCB (K : PySem.W.Frag) (D : Addr) : Bool := dB (PySem.W.findIn K (.ref D) "__getattribute__" = some (some (.builtin "BaseException.__getattribute__"))) && dB (PySem.W.findIn K (.ref D) "__getattr__" = some none) && dB (PySem.W.subIn K (.ref D) (.type "BaseException") = some true) && PySem.W.hasDictIn K D &&
  dB (PySem.W.findIn K (.ref D) "__class__" = some (some (.builtin "object.__class__"))) && dB (PySem.W.specialIn K (.builtin "object.__class__") "__get__" = some (some (.builtin "getset_descriptor.__get__"))) && dB (PySem.W.takesIn K (.builtin "object.__class__") = some true) && dB (PySem.W.mroIn K D (.type "object") = some true)
theorem excCB_ok {K : PySem.W.Frag} {D : Addr} (h : excCB K D = true) : ExcC K D := by
  unfold excCB at h
  simp only [Bool.and_eq_true] at h
  obtain ⟨⟨⟨⟨⟨⟨⟨h1, h2⟩, h3⟩, h4⟩, h5⟩, h6⟩, h7⟩, h8⟩ := h
  exact ⟨dB_ok h1, dB_ok h2, dB_ok h3, h4, dB_ok h5, dB_ok h6, dB_ok h7, dB_ok h8⟩
def kfB (K : PySem.W.Frag) (c : Str) (i : Nat) : Bool := excCB K (ga K c) && ((List.range 11).all fun j => dB (PySem.W.kitOne K (.ref (ga K c)) (.ref (ga K (nine.getD j Str.empty))) = some (decide (j = i)))) && dB (PySem.W.kitOne K (.ref (ga K c)) (.type "ValueError") = some true)
theorem kf_ok {K : PySem.W.Frag} {mg : Str → Option Value} {c : Str} {i : Nat} (h : kfB K c i = true) (hg : ∀ j, j < 11 → mg (nine.getD j Str.empty) = some (.ref (ga K (nine.getD j Str.empty)))) : KF K mg (ga K c) fun j => decide (j = i) := by
  unfold kfB at h
  simp only [Bool.and_eq_true] at h
  obtain ⟨⟨h1, h2⟩, h3⟩ := h
  exact ⟨excCB_ok h1, fun j hj => ⟨_, hg j hj, dB_ok (List.all_eq_true.mp h2 j (List.mem_range.mpr hj))⟩, dB_ok h3⟩
def kdB (K : PySem.W.Frag) (c : Str) : Option Str → Bool
  | none => dB (PySem.W.exmOne K (.ref (ga K c)) (.ref (ga K "TooMany")) = some false) && dB (PySem.W.exmOne K (.ref (ga K c)) (.ref (ga K "InvalidText")) = some false) && dB (PySem.W.exmOne K (.ref (ga K c)) (.ref (ga K "RodError")) = some true)
  | some n => (dB (n = "limit") && dB (PySem.W.exmOne K (.ref (ga K c)) (.ref (ga K "TooMany")) = some true) && xfB K (ga K c) && dB (PySem.W.findIn K (.ref (ga K c)) "limit" = some none)) ||
    (dB (n = "line") && dB (PySem.W.exmOne K (.ref (ga K c)) (.ref (ga K "TooMany")) = some false) && dB (PySem.W.exmOne K (.ref (ga K c)) (.ref (ga K "InvalidText")) = some true) && xfB K (ga K c) && dB (PySem.W.findIn K (.ref (ga K c)) "line" = some none))
def ixOf (c : Str) : Nat := nine.findIdx fun d => d == c
/-- a class that is raised, told -/
def clB (K : PySem.W.Frag) (c : Str) (a : Option Str) : Bool := kfB K c (ixOf c) && kdB K c a
def toldT (c : Str) : Str := Txt.join " " (kept (fun j => decide (j = ixOf c)) 12)
theorem kdF_of {K : PySem.W.Frag} {mg : Str → Option Value} {kds : List (Str × Str × Option Str)} (hg : ∀ j, j < 11 → mg (nine.getD j Str.empty) = some (.ref (ga K (nine.getD j Str.empty))))
    (h : Mi.AllP (fun c ta => mg c = some (.ref (ga K c)) ∧ clB K c ta.2 = true ∧ ta.1 = toldT c) kds) : KdF K mg (ga K "TooMany") (ga K "InvalidText") (ga K "RodError") fun c => Mi.getF c kds := by
  intro c t a C hk hm
  obtain ⟨h1, h2, h3⟩ := h.get hk
  simp only at h1 h2 h3
  rw [h1] at hm
  cases hm
  unfold clB at h2
  rw [Bool.and_eq_true] at h2
  refine ⟨_, kf_ok h2.1 hg, h3, ?_⟩
  have h4 := h2.2
  cases a with
  | none =>
    simp only [kdB, Bool.and_eq_true] at h4
    exact ⟨dB_ok h4.1.1, dB_ok h4.1.2, dB_ok h4.2⟩
  | some n =>
    simp only [kdB, Bool.or_eq_true, Bool.and_eq_true] at h4
    rcases h4 with ⟨⟨⟨h5, h6⟩, h7⟩, h8⟩ | ⟨⟨⟨⟨h5, h6⟩, h7⟩, h8⟩, h9⟩
    · exact .inl ⟨dB_ok h5, dB_ok h6, xfB_ok h7, dB_ok h8⟩
    · exact .inr ⟨dB_ok h5, dB_ok h6, dB_ok h7, xfB_ok h8, dB_ok h9⟩
/-- a class with an __init__ -/
def oexClsB (K : PySem.W.Frag) (C : Addr) : Bool := match K.lookup C with
  | some ⟨.type "type", _, .cls cd, sl⟩ => (match cd.mro, sl.toList with
    | .ref C' :: bm, [_, _, _, _, some (.builtin n), _] => C' == C && n == "ValueError.__new__" && !cd.hasDel && cd.hasDict && HandSPX.refsVE bm
    | _, _ => false)
  | _ => false
theorem oexClsB_ok {K : PySem.W.Frag} {C : Addr} (q : oexClsB K C = true) : ∃ nm q N bs bm sn sub ab col dd k0 k1 k2 k3 k5, K.lookup C = some (excClassObj nm q C N bs bm true sn sub ab col dd k0 k1 k2 k3 k5 "ValueError.__new__") ∧ PySem.HandSPX.refsVE bm = true := by
  unfold oexClsB at q
  split at q
  · rename_i dd cd sl ho
    split at q
    · rename_i C' bm k0 k1 k2 k3 n k5 hm hs
      simp only [Bool.and_eq_true, beq_iff_eq, Bool.not_eq_true'] at q
      obtain ⟨⟨⟨⟨rfl, rfl⟩, hdel⟩, hdi⟩, hre⟩ := q
      obtain ⟨nm, bs, mro, ns, qn, hd, sn, sub, ab, col, del⟩ := cd
      dsimp only at hm hdel hdi
      subst hm hdel hdi
      have hsl : sl = #[k0, k1, k2, k3, some (.builtin "ValueError.__new__"), k5] := by obtain ⟨l⟩ := sl; simp only at hs; rw [hs]
      subst hsl
      exact ⟨nm, qn, ns, bs, bm, sn, sub, ab, col, dd, k0, k1, k2, k3, k5, ho, hre⟩
    · cases q
  · cases q
def oexB (K : PySem.W.Frag) (c f : Str) : Bool := oexClsB K (ga K c) && dB (PySem.W.findIn K (.ref (ga K c)) "__setattr__" = some (some (.builtin "object.__setattr__"))) && dB (PySem.W.subIn K (.ref (ga K c)) (.type "BaseException") = some true) && dB (PySem.W.typeIn K (.ref (ga K c)) = some (.type "type")) && PySem.W.keepIn K (.ref (ga K c)) &&
  dB (PySem.W.findIn K (.ref (ga K c)) f = some none) && dB (PySem.W.findIn K (.ref (ga K c)) "__init__" = some (some (.ref (He.fAd K (c, some "__init__"))))) && dB (PySem.W.typeIn K (.ref (He.fAd K (c, some "__init__"))) = some (.type "function"))
theorem oexB_ok {K : PySem.W.Frag} {c f : Str} (h : oexB K c f = true) : OexC K (ga K c) ∧ PySem.W.findIn K (.ref (ga K c)) f = some none ∧ PySem.W.findIn K (.ref (ga K c)) "__init__" = some (some (.ref (He.fAd K (c, some "__init__")))) ∧ PySem.W.typeIn K (.ref (He.fAd K (c, some "__init__"))) = some (.type "function") := by
  unfold oexB at h
  simp only [Bool.and_eq_true] at h
  obtain ⟨⟨⟨⟨⟨⟨⟨h1, h2⟩, h3⟩, h4⟩, h5⟩, h6⟩, h7⟩, h8⟩ := h
  exact ⟨⟨oexClsB_ok h1, dB_ok h2, dB_ok h3, dB_ok h4, h5⟩, dB_ok h6, dB_ok h7, dB_ok h8⟩
def baseB (K : PySem.W.Frag) (B : Str) : Bool := PySem.W.readsIn K (ga K B) (.type "type") && dB (PySem.W.specialIn K (.ref (ga K B)) "__getattribute__" = some (some (.builtin "type.__getattribute__"))) && (match PySem.W.findCls K (.ref (ga K B)) (.type "type") "__init__" with
  | some (.val (.builtin n)) => dB (n = "ValueError.__init__")
  | _ => false)
theorem baseB_ok {K : PySem.W.Frag} {mg : Str → Option Value} {B : Str} (h : baseB K B = true) (g : mg B = some (.ref (ga K B))) : BaseI K mg B (ga K B) := by
  unfold baseB at h
  simp only [Bool.and_eq_true] at h
  obtain ⟨⟨h1, h2⟩, h3⟩ := h
  refine ⟨g, h1, dB_ok h2, ?_⟩
  split at h3
  · rename_i n e; rw [e, dB_ok h3]
  · cases h3
theorem ek_none {P : Program} {w : World} {K : PySem.W.Frag} {mg : Str → Option Value} {base : Heap} {c : Str} {κ : Nat} (h : (He.Fa.exc c).ok K = true) (g : mg c = some (.ref (ga K c))) : Mi.Ek P w K mg base κ c none := by
  obtain ⟨h1, h2, h3, h4⟩ := He.exc_ok h
  exact ⟨ga K c, g, h2, h1, h3, h4⟩
def clsBody (s : Stmt) : List Stmt := match s with
  | .ClassDef _ _ _ b _ _ _ _ _ _ _ => b
  | _ => []
/-! ### the head's facts, the interpreter's own table too -/
section
open He
def obY (as : (Addr → Option Obj) → List Addr) (fa : List Fa) (fn : List DefD) (ts : List Tab) (tf : List Defn) (ex : PySem.W.Frag → Bool) (g : Addr → Option Obj) : AlX := (obsT fa fn ts (frT g (as g)), ex (frT g (as g)) && tabsB g tf (frT g (as g)))
theorem says_of {as : (Addr → Option Obj) → List Addr} {fa : List Fa} {fn : List DefD} {ts : List Tab} {tf : List Defn} {ex : PySem.W.Frag → Bool} {w : World} {h : Heap} (e : obY as fa fn ts tf ex h.get? = valX fn ts w) : SaysX fa fn ts tf ex w h (frT h.get? (as h.get?)) := by
  have e1 : obsT fa fn ts (frT h.get? (as h.get?)) = valT fn ts w := congrArg Prod.fst e
  have e2 : (ex (frT h.get? (as h.get?)) && tabsB h.get? tf (frT h.get? (as h.get?))) = true := congrArg Prod.snd e
  rw [Bool.and_eq_true] at e2
  have key : ∀ p ∈ tf, PySem.W.codeHdIn (frT h.get? (as h.get?)) (cT (frT h.get? (as h.get?)) p).1 (cT (frT h.get? (as h.get?)) p).2 = true ∧ ∃ o, h.get? (cT (frT h.get? (as h.get?)) p).2 = some o ∧ emptyTab o = true := fun p hp => by
    have z := List.all_eq_true.mp e2.2 p hp
    rw [Bool.and_eq_true] at z
    refine ⟨z.1, ?_⟩; have z2 := z.2
    cases q : h.get? (cT (frT h.get? (as h.get?)) p).2 with
    | none => rw [q] at z2; cases z2
    | some o => rw [q] at z2; exact ⟨o, rfl, z2⟩
  refine ⟨e1, e2.1, fun p hp => (key p hp).1, fun p hp => ?_, fun p hp => ?_⟩ <;> obtain ⟨_, o, q, z⟩ := key p hp
  · exact frT_none q z
  · rw [q, emptyTab_eq z]
def hkY (as : (Addr → Option Obj) → List Addr) (fa : List Fa) (fn : List DefD) (ts : List Tab) (tf : List Defn) (ex : PySem.W.Frag → Bool) : PySem.W.Hook where
  α := AlX
  obs := fun s => obY as fa fn ts tf ex s.heap.get?
  val := fun w => valX fn ts w
  says := fun w h => ∃ K : PySem.W.Frag, K.In h ∧ SaysX fa fn ts tf ex w h K
  of := fun _ _ e => ⟨_, frT_in, says_of e⟩
  keeps := fun _ _ _ ⟨K, hK, c⟩ k => ⟨K, PySem.W.Frag.In.keeps hK k, ⟨c.t, c.more, c.hd, c.out, fun p hp => k _ _ (c.empty p hp)⟩⟩
theorem obY_eq {as : (Addr → Option Obj) → List Addr} {fa : List Fa} {fn : List DefD} {ts : List Tab} {tf : List Defn} {ex : PySem.W.Frag → Bool} {g : Addr → Option Obj} {s : Shared} (h : ∀ a, g a = s.heap.get? a) : obY as fa fn ts tf ex g = (hkY as fa fn ts tf ex).obs s := by
  have e : g = s.heap.get? := funext h
  rw [e]; rfl
end
def asY (n : Nat) (g : Addr → Option Obj) : List Addr := He.asD g n ++ [cStatics]
end Ho

set_option maxHeartbeats 0
namespace HdT
open PySem PySem.Spec PyProof.Rows L2
def top (i : Nat) : Stmt := PySem.Challenge.pw_anyrods_k04_moves_of_beads.main.body.getD i (.Pass ⟨0, 0, 0, 0⟩)
def d_is_int : He.DefD := ⟨("is_int", none), "is_int", "is_int", defArgs (top 21), defBody (top 21), defScope (top 21), [], []⟩
def d_power : He.DefD := ⟨("power", none), "power", "power", defArgs (top 22), defBody (top 22), defScope (top 22), [], []⟩
def d_is_kind : He.DefD := ⟨("is_kind", none), "is_kind", "is_kind", defArgs (top 23), defBody (top 23), defScope (top 23), [], []⟩
def d_is_rod : He.DefD := ⟨("is_rod", none), "is_rod", "is_rod", defArgs (top 24), defBody (top 24), defScope (top 24), [], []⟩
def d_are_rods : He.DefD := ⟨("are_rods", none), "are_rods", "are_rods", defArgs (top 25), defBody (top 25), defScope (top 25), [], []⟩
def d_is_plain : He.DefD := ⟨("is_plain", none), "is_plain", "is_plain", defArgs (top 26), defBody (top 26), defScope (top 26), [], []⟩
def d_is_step : He.DefD := ⟨("is_step", none), "is_step", "is_step", defArgs (top 27), defBody (top 27), defScope (top 27), [], []⟩
def d_walks_of : He.DefD := ⟨("walks_of", none), "walks_of", "walks_of", defArgs (top 28), defBody (top 28), defScope (top 28), [], []⟩
def d_width : He.DefD := ⟨("width", none), "width", "width", defArgs (top 29), defBody (top 29), defScope (top 29), [], []⟩
def d_first_note : He.DefD := ⟨("first_note", none), "first_note", "first_note", defArgs (top 30), defBody (top 30), defScope (top 30), [], []⟩
def d_is_from_left : He.DefD := ⟨("is_from_left", none), "is_from_left", "is_from_left", defArgs (top 31), defBody (top 31), defScope (top 31), [], []⟩
def d_is_text_of : He.DefD := ⟨("is_text_of", none), "is_text_of", "is_text_of", defArgs (top 32), defBody (top 32), defScope (top 32), [], []⟩
def d_need_kind : He.DefD := ⟨("need_kind", none), "need_kind", "need_kind", defArgs (top 33), defBody (top 33), defScope (top 33), [], []⟩
def d_need_frame : He.DefD := ⟨("need_frame", none), "need_frame", "need_frame", defArgs (top 34), defBody (top 34), defScope (top 34), [], []⟩
def d_need_text : He.DefD := ⟨("need_text", none), "need_text", "need_text", defArgs (top 35), defBody (top 35), defScope (top 35), [], []⟩
def d_need_both : He.DefD := ⟨("need_both", none), "need_both", "need_both", defArgs (top 36), defBody (top 36), defScope (top 36), [], []⟩
def d_with_digit : He.DefD := ⟨("with_digit", none), "with_digit", "with_digit", defArgs (top 38), defBody (top 38), defScope (top 38), [], []⟩
def d_worked_two : He.DefD := ⟨("worked_two", none), "worked_two", "worked_two", defArgs (top 39), defBody (top 39), defScope (top 39), [], []⟩
def d_worked_one : He.DefD := ⟨("worked_one", none), "worked_one", "worked_one", defArgs (top 40), defBody (top 40), defScope (top 40), [], []⟩
def d_worked : He.DefD := ⟨("worked", none), "worked", "worked", defArgs (top 41), defBody (top 41), defScope (top 41), [], []⟩
def d_walked : He.DefD := ⟨("walked", none), "walked", "walked", defArgs (top 42), defBody (top 42), defScope (top 42), [], []⟩
def d_digit_moves : He.DefD := ⟨("digit_moves", none), "digit_moves", "digit_moves", defArgs (top 43), defBody (top 43), defScope (top 43), [], []⟩
def d_rod_moves : He.DefD := ⟨("rod_moves", none), "rod_moves", "rod_moves", defArgs (top 44), defBody (top 44), defScope (top 44), [], []⟩
def d_frame_moves : He.DefD := ⟨("frame_moves", none), "frame_moves", "frame_moves", defArgs (top 45), defBody (top 45), defScope (top 45), [], []⟩
def d_all_walked : He.DefD := ⟨("all_walked", none), "all_walked", "all_walked", defArgs (top 46), defBody (top 46), defScope (top 46), [], []⟩
def d_need_three : He.DefD := ⟨("need_three", none), "need_three", "need_three", defArgs (top 47), defBody (top 47), defScope (top 47), [], []⟩
def d_moves : He.DefD := ⟨("moves", none), "moves", "moves", defArgs (top 48), defBody (top 48), defScope (top 48), [], []⟩
def d_l_law_bag : He.DefD := ⟨("_law_bag", none), "_law_bag", "_law_bag", defArgs (top 50), defBody (top 50), defScope (top 50), [], []⟩
def d_l_law_draw : He.DefD := ⟨("_law_draw", none), "_law_draw", "_law_draw", defArgs (top 51), defBody (top 51), defScope (top 51), [], []⟩
def d_l_law_pick : He.DefD := ⟨("_law_pick", none), "_law_pick", "_law_pick", defArgs (top 52), defBody (top 52), defScope (top 52), [], []⟩
def d_l_law_kind : He.DefD := ⟨("_law_kind", none), "_law_kind", "_law_kind", defArgs (top 53), defBody (top 53), defScope (top 53), [], []⟩
def d_l_law_rod : He.DefD := ⟨("_law_rod", none), "_law_rod", "_law_rod", defArgs (top 54), defBody (top 54), defScope (top 54), [], []⟩
def d_l_law_frame : He.DefD := ⟨("_law_frame", none), "_law_frame", "_law_frame", defArgs (top 55), defBody (top 55), defScope (top 55), [], []⟩
def d_l_law_plain : He.DefD := ⟨("_law_plain", none), "_law_plain", "_law_plain", defArgs (top 56), defBody (top 56), defScope (top 56), [], []⟩
def d_l_law_width : He.DefD := ⟨("_law_width", none), "_law_width", "_law_width", defArgs (top 57), defBody (top 57), defScope (top 57), [], []⟩
def d_l_law_walks : He.DefD := ⟨("_law_walks", none), "_law_walks", "_law_walks", defArgs (top 58), defBody (top 58), defScope (top 58), [], []⟩
def d_l_law_notes : He.DefD := ⟨("_law_notes", none), "_law_notes", "_law_notes", defArgs (top 59), defBody (top 59), defScope (top 59), [], []⟩
def d_l_law_text : He.DefD := ⟨("_law_text", none), "_law_text", "_law_text", defArgs (top 60), defBody (top 60), defScope (top 60), [], []⟩
def d_l_law_raised : He.DefD := ⟨("_law_raised", none), "_law_raised", "_law_raised", defArgs (top 61), defBody (top 61), defScope (top 61), [], []⟩
def d_l_law_numbers : He.DefD := ⟨("_law_numbers", none), "_law_numbers", "_law_numbers", defArgs (top 62), defBody (top 62), defScope (top 62), [], []⟩
def d_l_law_frame_of : He.DefD := ⟨("_law_frame_of", none), "_law_frame_of", "_law_frame_of", defArgs (top 63), defBody (top 63), defScope (top 63), [], []⟩
def d_l_law_reckoned : He.DefD := ⟨("_law_reckoned", none), "_law_reckoned", "_law_reckoned", defArgs (top 64), defBody (top 64), defScope (top 64), [], []⟩
def d_l_law_stages : He.DefD := ⟨("_law_stages", none), "_law_stages", "_law_stages", defArgs (top 65), defBody (top 65), defScope (top 65), [], []⟩
def d_l_law_stand : He.DefD := ⟨("_law_stand", none), "_law_stand", "_law_stand", defArgs (top 68), defBody (top 68), defScope (top 68), [], []⟩
def d_l_law_cost : He.DefD := ⟨("_law_cost", none), "_law_cost", "_law_cost", defArgs (top 69), defBody (top 69), defScope (top 69), [], []⟩
def d_law : He.DefD := ⟨("law", none), "law", "law", defArgs (top 70), defBody (top 70), defScope (top 70), [], []⟩
def d_l_law_kinds : He.DefD := ⟨("_law_kinds", none), "_law_kinds", "_law_kinds", defArgs (top 66), defBody (top 66), defScope (top 66), [], []⟩
def d_l_law_call : He.DefD := ⟨("_law_call", none), "_law_call", "_law_call", defArgs (top 67), defBody (top 67), defScope (top 67), [], []⟩
def m_InvalidText : Stmt := (Ho.clsBody (top 12)).getD 0 (.Pass ⟨0, 0, 0, 0⟩)
def d_InvalidText : He.DefD := ⟨("InvalidText", some "__init__"), "__init__", "InvalidText.__init__", defArgs m_InvalidText, defBody m_InvalidText, defScope m_InvalidText, [], []⟩
def fn : List He.DefD := [d_is_int, d_power, d_is_kind, d_is_rod, d_are_rods, d_is_plain, d_is_step, d_walks_of, d_width, d_first_note, d_is_from_left, d_is_text_of, d_need_kind, d_need_frame, d_need_text, d_need_both, d_with_digit, d_worked_two, d_worked_one, d_worked, d_walked, d_digit_moves, d_rod_moves, d_frame_moves, d_all_walked, d_need_three, d_moves, d_l_law_bag, d_l_law_draw, d_l_law_pick, d_l_law_kind, d_l_law_rod, d_l_law_frame, d_l_law_plain, d_l_law_width, d_l_law_walks, d_l_law_notes, d_l_law_text, d_l_law_raised, d_l_law_numbers, d_l_law_frame_of, d_l_law_reckoned, d_l_law_stages, d_l_law_stand, d_l_law_cost, d_law, d_l_law_kinds, d_l_law_call, d_InvalidText]
def fa : List He.Fa := [.glo "is_int", .glo "power", .glo "is_kind", .glo "is_rod", .glo "are_rods", .glo "is_plain", .glo "is_step", .glo "walks_of", .glo "width", .glo "first_note", .glo "is_from_left", .glo "is_text_of", .glo "need_kind", .glo "need_frame", .glo "need_text", .glo "need_both", .glo "with_digit", .glo "worked_two", .glo "worked_one", .glo "worked", .glo "walked", .glo "digit_moves", .glo "rod_moves", .glo "frame_moves", .glo "all_walked", .glo "need_three", .glo "moves", .glo "_law_bag", .glo "_law_draw", .glo "_law_pick", .glo "_law_kind", .glo "_law_rod", .glo "_law_frame", .glo "_law_plain", .glo "_law_width", .glo "_law_walks", .glo "_law_notes", .glo "_law_text", .glo "_law_raised", .glo "_law_numbers", .glo "_law_frame_of", .glo "_law_reckoned", .glo "_law_stages", .glo "_law_stand", .glo "_law_cost", .glo "law", .glo "_law_kinds", .glo "_law_call", .glo "InvalidFactors", .glo "InvalidFrame", .glo "InvalidIndex", .glo "InvalidKind", .glo "InvalidNumber", .glo "InvalidParts", .glo "InvalidStep", .glo "InvalidText", .glo "NothingToUndo", .glo "TooMany", .glo "Unlike", .glo "RodError", .free "len", .free "abs", .free "int", .free "bool", .free "str", .free "tuple", .free "list", .free "all", .free "any", .free "sum", .free "max", .free "min", .free "isinstance", .free "range", .free "zip", .free "ValueError", .exc "InvalidKind", .exc "InvalidFrame", .int "MOST_LETTERS" 100, .glo "FROM_LEFT", .int "MOST_NOTES" 40, .int "MOST_WALKS" 8, .int "MOST_STEPS" 6, .int "MOST_RODS" 60, .glo "SHAPES"]
def ts : List He.Tab := [((fun K => He.ga K "SHAPES"), ["add", "less", "times", "part", "greater", "copy", "swap", "more", "nines", "left", "right"])]
def ex (K : PySem.W.Frag) : Bool := (He.tupB K "FROM_LEFT" [.str "part", .str "greater", .str "right"]) && (He.valsB K (He.ga K "SHAPES") [("add", .int 3), ("less", .int 3), ("times", .int 3), ("part", .int 3), ("greater", .int 3), ("copy", .int 3), ("swap", .int 3), ("more", .int 2), ("nines", .int 2), ("left", .int 2), ("right", .int 2)]) && (Ho.clB K "InvalidKind" none) && (Ho.clB K "InvalidFrame" none) && (Ho.clB K "InvalidText" (some ("line" : PySem.Str))) && (Ho.oexB K "InvalidText" "line") && (Ho.baseB K "RodError")
def tf : List He.Defn := [("law", none)]
abbrev RR : PySem.W.OpenRow := PySem.W.OpenLaw.row PySem.Challenge.rw_anyrods_k04_moves_of_beads
abbrev hk : PySem.W.Hook := Ho.hkY (Ho.asY 4) fa fn ts tf ex
/-- what the top has left -/
structure Bs (w : World) (K : PySem.W.Frag) (mg : Str → Option Value) : Prop where
  D : ∀ d ∈ fn, ∃ fd, FunD K d.name d.qual d.params d.body d.scope (d.dvs K) (d.kws K) (He.fAd K d.at_) fd
  ga : ∀ x, He.Fa.glo x ∈ fa → mg x = some (.ref (He.ga K x))
  bt : ∀ x, x ∈ Mi.btNames → mg x = none
  ve : mg "ValueError" = none
  xc_InvalidKind : (He.Fa.exc "InvalidKind").ok K = true
  xc_InvalidFrame : (He.Fa.exc "InvalidFrame").ok K = true
  more : ex K = true
  gl_MOST_LETTERS : Mi.Gk K mg "MOST_LETTERS" (.int 100)
  gl_FROM_LEFT : Mi.Gk K mg "FROM_LEFT" (.tup [(.str (Mi.wS 3)), (.str (Mi.wS 4)), (.str (Mi.wS 10))])
  gl_MOST_NOTES : Mi.Gk K mg "MOST_NOTES" (.int 40)
  gl_MOST_WALKS : Mi.Gk K mg "MOST_WALKS" (.int 8)
  gl_MOST_STEPS : Mi.Gk K mg "MOST_STEPS" (.int 6)
  gl_MOST_RODS : Mi.Gk K mg "MOST_RODS" (.int 60)
  tb_SHAPES : Mi.Tk K w mg "SHAPES" Mi.tab_SHAPES
theorem ex_tup_FROM_LEFT {K : PySem.W.Frag} (h : ex K = true) : He.tupB K "FROM_LEFT" [.str "part", .str "greater", .str "right"] = true := by
  unfold ex at h
  simp only [Bool.and_eq_true] at h
  exact h.1.1.1.1.1.1
theorem ex_val_SHAPES {K : PySem.W.Frag} (h : ex K = true) : He.valsB K (He.ga K "SHAPES") [("add", .int 3), ("less", .int 3), ("times", .int 3), ("part", .int 3), ("greater", .int 3), ("copy", .int 3), ("swap", .int 3), ("more", .int 2), ("nines", .int 2), ("left", .int 2), ("right", .int 2)] = true := by
  unfold ex at h
  simp only [Bool.and_eq_true] at h
  exact h.1.1.1.1.1.2
theorem ex_cl_InvalidKind {K : PySem.W.Frag} (h : ex K = true) : Ho.clB K "InvalidKind" none = true := by
  unfold ex at h
  simp only [Bool.and_eq_true] at h
  exact h.1.1.1.1.2
theorem ex_cl_InvalidFrame {K : PySem.W.Frag} (h : ex K = true) : Ho.clB K "InvalidFrame" none = true := by
  unfold ex at h
  simp only [Bool.and_eq_true] at h
  exact h.1.1.1.2
theorem ex_cl_InvalidText {K : PySem.W.Frag} (h : ex K = true) : Ho.clB K "InvalidText" (some ("line" : PySem.Str)) = true := by
  unfold ex at h
  simp only [Bool.and_eq_true] at h
  exact h.1.1.2
theorem ex_oe_InvalidText {K : PySem.W.Frag} (h : ex K = true) : Ho.oexB K "InvalidText" "line" = true := by
  unfold ex at h
  simp only [Bool.and_eq_true] at h
  exact h.1.2
theorem ex_base {K : PySem.W.Frag} (h : ex K = true) : Ho.baseB K "RodError" = true := by
  unfold ex at h
  simp only [Bool.and_eq_true] at h
  exact h.2
section
variable {w : World} {K : PySem.W.Frag} {mg : Str → Option Value} {base : Heap} {T : List (Addr × Str)}
abbrev PP : Program := (PySem.Challenge.rw_anyrods_k04_moves_of_beads).prog
theorem gl_of {fs gs ts es ks} (h : Mi.AllP (fun x d => Mi.Gk K mg x d) gs) : ∀ x d, (Mi.kn fs gs ts es ks).gl x = some d → Mi.Gk K mg x d := fun _ _ e => h.get e
theorem tb_of {fs gs ts es ks} (h : Mi.AllP (fun x d => Mi.Tk K w mg x d) ts) : ∀ x d, (Mi.kn fs gs ts es ks).tab x = some d → Mi.Tk K w mg x d := fun _ _ e => h.get e
theorem fn_of' {κ fs gs ts es ks} (h : Mi.AllP (fun x d => Mi.Fk PP w K mg T base κ x d) fs) : ∀ x d, (Mi.kn fs gs ts es ks).fn x = some d → Mi.Fk PP w K mg T base κ x d := fun _ _ e => h.get e
theorem ex_of {κ fs gs ts es ks} (h : Mi.AllP (fun x d => Mi.Ek PP w K mg base κ x d) es) : ∀ x d, (Mi.kn fs gs ts es ks).exc x = some d → Mi.Ek PP w K mg base κ x d := fun _ _ e => h.get e
theorem cls9 (B : Bs w K mg) : ∀ j, j < 11 → mg (Ho.nine.getD j Str.empty) = some (.ref (He.ga K (Ho.nine.getD j Str.empty))) := by
  intro j hj
  match j, hj with
  | 0, _ => exact B.ga "InvalidFactors" (by simp [fa])
  | 1, _ => exact B.ga "InvalidFrame" (by simp [fa])
  | 2, _ => exact B.ga "InvalidIndex" (by simp [fa])
  | 3, _ => exact B.ga "InvalidKind" (by simp [fa])
  | 4, _ => exact B.ga "InvalidNumber" (by simp [fa])
  | 5, _ => exact B.ga "InvalidParts" (by simp [fa])
  | 6, _ => exact B.ga "InvalidStep" (by simp [fa])
  | 7, _ => exact B.ga "InvalidText" (by simp [fa])
  | 8, _ => exact B.ga "NothingToUndo" (by simp [fa])
  | 9, _ => exact B.ga "TooMany" (by simp [fa])
  | 10, _ => exact B.ga "Unlike" (by simp [fa])
  | n + 11, h => exact absurd h (by omega)
theorem ek_InvalidKind (B : Bs w K mg) (κ : Nat) : Mi.Ek PP w K mg base κ "InvalidKind" none := Ho.ek_none B.xc_InvalidKind (B.ga "InvalidKind" (by simp [fa]))
theorem ek_InvalidFrame (B : Bs w K mg) (κ : Nat) : Mi.Ek PP w K mg base κ "InvalidFrame" none := Ho.ek_none B.xc_InvalidFrame (B.ga "InvalidFrame" (by simp [fa]))
def pI_InvalidText (i : Nat) : Pos := ([⟨30, 8, 30, 16⟩, ⟨30, 8, 30, 25⟩, ⟨30, 26, 30, 30⟩, ⟨30, 32, 30, 41⟩, ⟨30, 8, 30, 42⟩, ⟨30, 8, 30, 42⟩, ⟨31, 8, 31, 12⟩, ⟨31, 8, 31, 17⟩, ⟨31, 20, 31, 24⟩, ⟨31, 8, 31, 24⟩] : List Pos).getD i ⟨0, 0, 0, 0⟩
theorem bI_InvalidText : defBody m_InvalidText = Ho.initBody "RodError" "no text" "line" pI_InvalidText := by kernel_rfl
theorem ek_InvalidText (B : Bs w K mg) (κ : Nat) (l : 2 ≤ κ) : Mi.Ek PP w K mg base κ "InvalidText" (some ("line" : PySem.Str)) := by
  obtain ⟨fd, F⟩ := B.D d_InvalidText (by simp [fn])
  have F : FunD K "__init__" "InvalidText.__init__" (defArgs m_InvalidText) (defBody m_InvalidText) (defScope m_InvalidText) [] [] (He.fAd K ("InvalidText", some "__init__")) fd := F
  have b := F.bindsN (ps := ["self", "line"]) fun _ _ _ _ _ _ us hl => match us, hl with | [_, _], _ => rfl
  rw [bI_InvalidText] at F
  obtain ⟨h1, h2, h3, h4⟩ := Ho.oexB_ok (ex_oe_InvalidText B.more)
  exact Ho.Ek.mono (Ho.ek_at F ⟨rfl, rfl, rfl, by decide +kernel, rfl, by decide +kernel, by decide +kernel⟩ (by kernel_rfl) (by decide) (by kernel_rfl) (by kernel_rfl) (by decide) (by decide) (fun _ => by rfl) (Ho.baseB_ok (ex_base B.more) (B.ga "RodError" (by simp [fa]))) h1 h2 (B.ga "InvalidText" (by simp [fa])) b h3 h4) l
theorem sc_is_int : FnScope Mi.N_is_int ["value", "low", "high"] (defScope (top 21)) := ⟨rfl, rfl, rfl, by decide +kernel, rfl, by decide +kernel, by decide +kernel⟩
theorem ck_is_int : Mi.chkSs ⟨Mi.N_is_int, defScope (top 21), defScope (top 21), false⟩ Mi.b_is_int (defBody (top 21)) = true := by decide +kernel
theorem fk_is_int (B : Bs w K mg) : Mi.Fk PP w K mg T base 1 "is_int" Mi.sp_is_int := by
  obtain ⟨fd, F⟩ := B.D d_is_int (by simp [fn])
  exact Mi.fk_of  F (B.ga "is_int" (by simp [fa])) sc_is_int (F.bindsN fun _ _ _ _ _ _ us hl => match us, hl with | [_, _, _], _ => rfl) ck_is_int Mi.k_is_int (fn_of' True.intro) (gl_of True.intro) B.bt (tb_of True.intro) (ex_of True.intro)
theorem sc_power : FnScope Mi.N_power ["base", "many"] (defScope (top 22)) := ⟨rfl, rfl, rfl, by decide +kernel, rfl, by decide +kernel, by decide +kernel⟩
theorem ck_power : Mi.chkSs ⟨Mi.N_power, defScope (top 22), defScope (top 22), false⟩ Mi.b_power (defBody (top 22)) = true := by decide +kernel
theorem fk_power (B : Bs w K mg) : Mi.Fk PP w K mg T base 1 "power" Mi.sp_power := by
  obtain ⟨fd, F⟩ := B.D d_power (by simp [fn])
  exact Mi.fk_of  F (B.ga "power" (by simp [fa])) sc_power (F.bindsN fun _ _ _ _ _ _ us hl => match us, hl with | [_, _], _ => rfl) ck_power Mi.k_power (fn_of' True.intro) (gl_of True.intro) B.bt (tb_of True.intro) (ex_of True.intro)
theorem sc_is_kind : FnScope Mi.N_is_kind ["value"] (defScope (top 23)) := ⟨rfl, rfl, rfl, by decide +kernel, rfl, by decide +kernel, by decide +kernel⟩
theorem ck_is_kind : Mi.chkSs ⟨Mi.N_is_kind, defScope (top 23), defScope (top 23), false⟩ Mi.b_is_kind (defBody (top 23)) = true := by decide +kernel
theorem fk_is_kind (B : Bs w K mg) : Mi.Fk PP w K mg T base 2 "is_kind" Mi.sp_is_kind := by
  obtain ⟨fd, F⟩ := B.D d_is_kind (by simp [fn])
  exact Mi.fk_of  F (B.ga "is_kind" (by simp [fa])) sc_is_kind (F.bindsN fun _ _ _ _ _ _ us hl => match us, hl with | [_], _ => rfl) ck_is_kind Mi.k_is_kind (fn_of' ⟨(fk_power B).mono (by decide), (fk_is_int B).mono (by decide), True.intro⟩) (gl_of ⟨B.gl_MOST_LETTERS, True.intro⟩) B.bt (tb_of True.intro) (ex_of True.intro)
theorem sc_is_rod : FnScope Mi.N_is_rod ["kind", "value"] (defScope (top 24)) := ⟨rfl, rfl, rfl, by decide +kernel, rfl, by decide +kernel, by decide +kernel⟩
theorem ck_is_rod : Mi.chkSs ⟨Mi.N_is_rod, defScope (top 24), defScope (top 24), false⟩ Mi.b_is_rod (defBody (top 24)) = true := by decide +kernel
theorem fk_is_rod (B : Bs w K mg) : Mi.Fk PP w K mg T base 2 "is_rod" Mi.sp_is_rod := by
  obtain ⟨fd, F⟩ := B.D d_is_rod (by simp [fn])
  exact Mi.fk_of  F (B.ga "is_rod" (by simp [fa])) sc_is_rod (F.bindsN fun _ _ _ _ _ _ us hl => match us, hl with | [_, _], _ => rfl) ck_is_rod Mi.k_is_rod (fn_of' ⟨(fk_is_int B).mono (by decide), True.intro⟩) (gl_of True.intro) B.bt (tb_of True.intro) (ex_of True.intro)
theorem sc_are_rods : FnScope Mi.N_are_rods ["kind", "value", "most"] (defScope (top 25)) := ⟨rfl, rfl, rfl, by decide +kernel, rfl, by decide +kernel, by decide +kernel⟩
theorem ck_are_rods : Mi.chkSs ⟨Mi.N_are_rods, defScope (top 25), defScope (top 25), false⟩ Mi.b_are_rods (defBody (top 25)) = true := by decide +kernel
theorem fk_are_rods (B : Bs w K mg) : Mi.Fk PP w K mg T base 3 "are_rods" Mi.sp_are_rods := by
  obtain ⟨fd, F⟩ := B.D d_are_rods (by simp [fn])
  exact Mi.fk_of  F (B.ga "are_rods" (by simp [fa])) sc_are_rods (F.bindsN fun _ _ _ _ _ _ us hl => match us, hl with | [_, _, _], _ => rfl) ck_are_rods Mi.k_are_rods (fn_of' ⟨(fk_is_rod B).mono (by decide), True.intro⟩) (gl_of True.intro) B.bt (tb_of True.intro) (ex_of True.intro)
theorem sc_is_plain : FnScope Mi.N_is_plain ["kind", "value"] (defScope (top 26)) := ⟨rfl, rfl, rfl, by decide +kernel, rfl, by decide +kernel, by decide +kernel⟩
theorem ck_is_plain : Mi.chkSs ⟨Mi.N_is_plain, defScope (top 26), defScope (top 26), false⟩ Mi.b_is_plain (defBody (top 26)) = true := by decide +kernel
theorem fk_is_plain (B : Bs w K mg) : Mi.Fk PP w K mg T base 2 "is_plain" Mi.sp_is_plain := by
  obtain ⟨fd, F⟩ := B.D d_is_plain (by simp [fn])
  exact Mi.fk_of  F (B.ga "is_plain" (by simp [fa])) sc_is_plain (F.bindsN fun _ _ _ _ _ _ us hl => match us, hl with | [_, _], _ => rfl) ck_is_plain Mi.k_is_plain (fn_of' ⟨(fk_is_int B).mono (by decide), True.intro⟩) (gl_of True.intro) B.bt (tb_of ⟨B.tb_SHAPES, True.intro⟩) (ex_of True.intro)
theorem sc_is_step : FnScope Mi.N_is_step ["kind", "value"] (defScope (top 27)) := ⟨rfl, rfl, rfl, by decide +kernel, rfl, by decide +kernel, by decide +kernel⟩
theorem ck_is_step : Mi.chkSs ⟨Mi.N_is_step, defScope (top 27), defScope (top 27), false⟩ Mi.b_is_step (defBody (top 27)) = true := by decide +kernel
theorem fk_is_step (B : Bs w K mg) : Mi.Fk PP w K mg T base 3 "is_step" Mi.sp_is_step := by
  obtain ⟨fd, F⟩ := B.D d_is_step (by simp [fn])
  exact Mi.fk_of  F (B.ga "is_step" (by simp [fa])) sc_is_step (F.bindsN fun _ _ _ _ _ _ us hl => match us, hl with | [_, _], _ => rfl) ck_is_step Mi.k_is_step (fn_of' ⟨(fk_is_plain B).mono (by decide), (fk_is_int B).mono (by decide), True.intro⟩) (gl_of True.intro) B.bt (tb_of True.intro) (ex_of True.intro)
theorem sc_walks_of : FnScope Mi.N_walks_of ["text"] (defScope (top 28)) := ⟨rfl, rfl, rfl, by decide +kernel, rfl, by decide +kernel, by decide +kernel⟩
theorem ck_walks_of : Mi.chkSs ⟨Mi.N_walks_of, defScope (top 28), defScope (top 28), false⟩ Mi.b_walks_of (defBody (top 28)) = true := by decide +kernel
theorem fk_walks_of (B : Bs w K mg) : Mi.Fk PP w K mg T base 1 "walks_of" Mi.sp_walks_of := by
  obtain ⟨fd, F⟩ := B.D d_walks_of (by simp [fn])
  exact Mi.fk_of  F (B.ga "walks_of" (by simp [fa])) sc_walks_of (F.bindsN fun _ _ _ _ _ _ us hl => match us, hl with | [_], _ => rfl) ck_walks_of Mi.k_walks_of (fn_of' True.intro) (gl_of True.intro) B.bt (tb_of True.intro) (ex_of True.intro)
theorem sc_width : FnScope Mi.N_width ["kind", "step"] (defScope (top 29)) := ⟨rfl, rfl, rfl, by decide +kernel, rfl, by decide +kernel, by decide +kernel⟩
theorem ck_width : Mi.chkSs ⟨Mi.N_width, defScope (top 29), defScope (top 29), false⟩ Mi.b_width (defBody (top 29)) = true := by decide +kernel
theorem fk_width (B : Bs w K mg) : Mi.Fk PP w K mg T base 1 "width" Mi.sp_width := by
  obtain ⟨fd, F⟩ := B.D d_width (by simp [fn])
  exact Mi.fk_of  F (B.ga "width" (by simp [fa])) sc_width (F.bindsN fun _ _ _ _ _ _ us hl => match us, hl with | [_, _], _ => rfl) ck_width Mi.k_width (fn_of' True.intro) (gl_of True.intro) B.bt (tb_of True.intro) (ex_of True.intro)
theorem sc_first_note : FnScope Mi.N_first_note ["step"] (defScope (top 30)) := ⟨rfl, rfl, rfl, by decide +kernel, rfl, by decide +kernel, by decide +kernel⟩
theorem ck_first_note : Mi.chkSs ⟨Mi.N_first_note, defScope (top 30), defScope (top 30), false⟩ Mi.b_first_note (defBody (top 30)) = true := by decide +kernel
theorem fk_first_note (B : Bs w K mg) : Mi.Fk PP w K mg T base 1 "first_note" Mi.sp_first_note := by
  obtain ⟨fd, F⟩ := B.D d_first_note (by simp [fn])
  exact Mi.fk_of  F (B.ga "first_note" (by simp [fa])) sc_first_note (F.bindsN fun _ _ _ _ _ _ us hl => match us, hl with | [_], _ => rfl) ck_first_note Mi.k_first_note (fn_of' True.intro) (gl_of True.intro) B.bt (tb_of True.intro) (ex_of True.intro)
theorem sc_is_from_left : FnScope Mi.N_is_from_left ["step"] (defScope (top 31)) := ⟨rfl, rfl, rfl, by decide +kernel, rfl, by decide +kernel, by decide +kernel⟩
theorem ck_is_from_left : Mi.chkSs ⟨Mi.N_is_from_left, defScope (top 31), defScope (top 31), false⟩ Mi.b_is_from_left (defBody (top 31)) = true := by decide +kernel
theorem fk_is_from_left (B : Bs w K mg) : Mi.Fk PP w K mg T base 1 "is_from_left" Mi.sp_is_from_left := by
  obtain ⟨fd, F⟩ := B.D d_is_from_left (by simp [fn])
  exact Mi.fk_of  F (B.ga "is_from_left" (by simp [fa])) sc_is_from_left (F.bindsN fun _ _ _ _ _ _ us hl => match us, hl with | [_], _ => rfl) ck_is_from_left Mi.k_is_from_left (fn_of' True.intro) (gl_of ⟨B.gl_FROM_LEFT, True.intro⟩) B.bt (tb_of True.intro) (ex_of True.intro)
theorem sc_is_text_of : FnScope Mi.N_is_text_of ["kind", "value"] (defScope (top 32)) := ⟨rfl, rfl, rfl, by decide +kernel, rfl, by decide +kernel, by decide +kernel⟩
theorem ck_is_text_of : Mi.chkSs ⟨Mi.N_is_text_of, defScope (top 32), defScope (top 32), false⟩ Mi.b_is_text_of (defBody (top 32)) = true := by decide +kernel
theorem fk_is_text_of (B : Bs w K mg) : Mi.Fk PP w K mg T base 4 "is_text_of" Mi.sp_is_text_of := by
  obtain ⟨fd, F⟩ := B.D d_is_text_of (by simp [fn])
  exact Mi.fk_of  F (B.ga "is_text_of" (by simp [fa])) sc_is_text_of (F.bindsN fun _ _ _ _ _ _ us hl => match us, hl with | [_, _], _ => rfl) ck_is_text_of Mi.k_is_text_of (fn_of' ⟨(fk_walks_of B).mono (by decide), (fk_width B).mono (by decide), (fk_is_step B).mono (by decide), True.intro⟩) (gl_of ⟨B.gl_MOST_NOTES, B.gl_MOST_WALKS, B.gl_MOST_STEPS, True.intro⟩) B.bt (tb_of True.intro) (ex_of True.intro)
theorem sc_need_kind : FnScope Mi.N_need_kind ["kind"] (defScope (top 33)) := ⟨rfl, rfl, rfl, by decide +kernel, rfl, by decide +kernel, by decide +kernel⟩
theorem ck_need_kind : Mi.chkSs ⟨Mi.N_need_kind, defScope (top 33), defScope (top 33), false⟩ Mi.b_need_kind (defBody (top 33)) = true := by decide +kernel
theorem fk_need_kind (B : Bs w K mg) : Mi.Fk PP w K mg T base 3 "need_kind" Mi.sp_need_kind := by
  obtain ⟨fd, F⟩ := B.D d_need_kind (by simp [fn])
  exact Mi.fk_of  F (B.ga "need_kind" (by simp [fa])) sc_need_kind (F.bindsN fun _ _ _ _ _ _ us hl => match us, hl with | [_], _ => rfl) ck_need_kind Mi.k_need_kind (fn_of' ⟨(fk_is_kind B).mono (by decide), True.intro⟩) (gl_of True.intro) B.bt (tb_of True.intro) (ex_of ⟨ek_InvalidKind B _, True.intro⟩)
theorem sc_need_frame : FnScope Mi.N_need_frame ["kind", "frame"] (defScope (top 34)) := ⟨rfl, rfl, rfl, by decide +kernel, rfl, by decide +kernel, by decide +kernel⟩
theorem ck_need_frame : Mi.chkSs ⟨Mi.N_need_frame, defScope (top 34), defScope (top 34), false⟩ Mi.b_need_frame (defBody (top 34)) = true := by decide +kernel
theorem fk_need_frame (B : Bs w K mg) : Mi.Fk PP w K mg T base 4 "need_frame" Mi.sp_need_frame := by
  obtain ⟨fd, F⟩ := B.D d_need_frame (by simp [fn])
  exact Mi.fk_of  F (B.ga "need_frame" (by simp [fa])) sc_need_frame (F.bindsN fun _ _ _ _ _ _ us hl => match us, hl with | [_, _], _ => rfl) ck_need_frame Mi.k_need_frame (fn_of' ⟨(fk_are_rods B).mono (by decide), True.intro⟩) (gl_of ⟨B.gl_MOST_RODS, True.intro⟩) B.bt (tb_of True.intro) (ex_of ⟨ek_InvalidFrame B _, True.intro⟩)
theorem sc_need_text : FnScope Mi.N_need_text ["kind", "text"] (defScope (top 35)) := ⟨rfl, rfl, rfl, by decide +kernel, rfl, by decide +kernel, by decide +kernel⟩
theorem ck_need_text : Mi.chkSs ⟨Mi.N_need_text, defScope (top 35), defScope (top 35), false⟩ Mi.b_need_text (defBody (top 35)) = true := by decide +kernel
theorem fk_need_text (B : Bs w K mg) : Mi.Fk PP w K mg T base 5 "need_text" Mi.sp_need_text := by
  obtain ⟨fd, F⟩ := B.D d_need_text (by simp [fn])
  exact Mi.fk_of  F (B.ga "need_text" (by simp [fa])) sc_need_text (F.bindsN fun _ _ _ _ _ _ us hl => match us, hl with | [_, _], _ => rfl) ck_need_text Mi.k_need_text (fn_of' ⟨(fk_is_text_of B).mono (by decide), True.intro⟩) (gl_of True.intro) B.bt (tb_of True.intro) (ex_of ⟨ek_InvalidText B _ (by decide), True.intro⟩)
theorem sc_need_both : FnScope Mi.N_need_both ["kind", "text"] (defScope (top 36)) := ⟨rfl, rfl, rfl, by decide +kernel, rfl, by decide +kernel, by decide +kernel⟩
theorem ck_need_both : Mi.chkSs ⟨Mi.N_need_both, defScope (top 36), defScope (top 36), false⟩ Mi.b_need_both (defBody (top 36)) = true := by decide +kernel
theorem fk_need_both (B : Bs w K mg) : Mi.Fk PP w K mg T base 6 "need_both" Mi.sp_need_both := by
  obtain ⟨fd, F⟩ := B.D d_need_both (by simp [fn])
  exact Mi.fk_of  F (B.ga "need_both" (by simp [fa])) sc_need_both (F.bindsN fun _ _ _ _ _ _ us hl => match us, hl with | [_, _], _ => rfl) ck_need_both Mi.k_need_both (fn_of' ⟨(fk_need_text B).mono (by decide), (fk_need_kind B).mono (by decide), True.intro⟩) (gl_of True.intro) B.bt (tb_of True.intro) (ex_of True.intro)
theorem sc_with_digit : FnScope Mi.N_with_digit ["rod", "field", "digit"] (defScope (top 38)) := ⟨rfl, rfl, rfl, by decide +kernel, rfl, by decide +kernel, by decide +kernel⟩
theorem ck_with_digit : Mi.chkSs ⟨Mi.N_with_digit, defScope (top 38), defScope (top 38), false⟩ Mi.b_with_digit (defBody (top 38)) = true := by decide +kernel
theorem fk_with_digit (B : Bs w K mg) : Mi.Fk PP w K mg T base 1 "with_digit" Mi.sp_with_digit := by
  obtain ⟨fd, F⟩ := B.D d_with_digit (by simp [fn])
  exact Mi.fk_of  F (B.ga "with_digit" (by simp [fa])) sc_with_digit (F.bindsN fun _ _ _ _ _ _ us hl => match us, hl with | [_, _, _], _ => rfl) ck_with_digit Mi.k_with_digit (fn_of' True.intro) (gl_of True.intro) B.bt (tb_of True.intro) (ex_of True.intro)
theorem sc_worked_two : FnScope Mi.N_worked_two ["base", "step", "rod", "note"] (defScope (top 39)) := ⟨rfl, rfl, rfl, by decide +kernel, rfl, by decide +kernel, by decide +kernel⟩
theorem ck_worked_two : Mi.chkSs ⟨Mi.N_worked_two, defScope (top 39), defScope (top 39), false⟩ Mi.b_worked_two (defBody (top 39)) = true := by decide +kernel
theorem fk_worked_two (B : Bs w K mg) : Mi.Fk PP w K mg T base 1 "worked_two" Mi.sp_worked_two := by
  obtain ⟨fd, F⟩ := B.D d_worked_two (by simp [fn])
  exact Mi.fk_of  F (B.ga "worked_two" (by simp [fa])) sc_worked_two (F.bindsN fun _ _ _ _ _ _ us hl => match us, hl with | [_, _, _, _], _ => rfl) ck_worked_two Mi.k_worked_two (fn_of' True.intro) (gl_of True.intro) B.bt (tb_of True.intro) (ex_of True.intro)
theorem sc_worked_one : FnScope Mi.N_worked_one ["base", "step", "mine", "note"] (defScope (top 40)) := ⟨rfl, rfl, rfl, by decide +kernel, rfl, by decide +kernel, by decide +kernel⟩
theorem ck_worked_one : Mi.chkSs ⟨Mi.N_worked_one, defScope (top 40), defScope (top 40), false⟩ Mi.b_worked_one (defBody (top 40)) = true := by decide +kernel
theorem fk_worked_one (B : Bs w K mg) : Mi.Fk PP w K mg T base 1 "worked_one" Mi.sp_worked_one := by
  obtain ⟨fd, F⟩ := B.D d_worked_one (by simp [fn])
  exact Mi.fk_of  F (B.ga "worked_one" (by simp [fa])) sc_worked_one (F.bindsN fun _ _ _ _ _ _ us hl => match us, hl with | [_, _, _, _], _ => rfl) ck_worked_one Mi.k_worked_one (fn_of' True.intro) (gl_of True.intro) B.bt (tb_of True.intro) (ex_of True.intro)
theorem sc_worked : FnScope Mi.N_worked ["kind", "step", "rod", "note"] (defScope (top 41)) := ⟨rfl, rfl, rfl, by decide +kernel, rfl, by decide +kernel, by decide +kernel⟩
theorem ck_worked : Mi.chkSs ⟨Mi.N_worked, defScope (top 41), defScope (top 41), false⟩ Mi.b_worked (defBody (top 41)) = true := by decide +kernel
theorem fk_worked (B : Bs w K mg) : Mi.Fk PP w K mg T base 2 "worked" Mi.sp_worked := by
  obtain ⟨fd, F⟩ := B.D d_worked (by simp [fn])
  exact Mi.fk_of  F (B.ga "worked" (by simp [fa])) sc_worked (F.bindsN fun _ _ _ _ _ _ us hl => match us, hl with | [_, _, _, _], _ => rfl) ck_worked Mi.k_worked (fn_of' ⟨(fk_with_digit B).mono (by decide), (fk_worked_two B).mono (by decide), (fk_worked_one B).mono (by decide), True.intro⟩) (gl_of True.intro) B.bt (tb_of True.intro) (ex_of True.intro)
theorem sc_walked : FnScope Mi.N_walked ["kind", "step", "frame"] (defScope (top 42)) := ⟨rfl, rfl, rfl, by decide +kernel, rfl, by decide +kernel, by decide +kernel⟩
theorem ck_walked : Mi.chkSs ⟨Mi.N_walked, defScope (top 42), defScope (top 42), false⟩ Mi.b_walked (defBody (top 42)) = true := by decide +kernel
theorem fk_walked (B : Bs w K mg) : Mi.Fk PP w K mg T base 3 "walked" Mi.sp_walked := by
  obtain ⟨fd, F⟩ := B.D d_walked (by simp [fn])
  exact Mi.fk_of  F (B.ga "walked" (by simp [fa])) sc_walked (F.bindsN fun _ _ _ _ _ _ us hl => match us, hl with | [_, _, _], _ => rfl) ck_walked Mi.k_walked (fn_of' ⟨(fk_is_from_left B).mono (by decide), (fk_worked B).mono (by decide), (fk_first_note B).mono (by decide), True.intro⟩) (gl_of True.intro) B.bt (tb_of True.intro) (ex_of True.intro)
theorem sc_digit_moves : FnScope Mi.N_digit_moves ["kind", "one", "other"] (defScope (top 43)) := ⟨rfl, rfl, rfl, by decide +kernel, rfl, by decide +kernel, by decide +kernel⟩
theorem ck_digit_moves : Mi.chkSs ⟨Mi.N_digit_moves, defScope (top 43), defScope (top 43), false⟩ Mi.b_digit_moves (defBody (top 43)) = true := by decide +kernel
theorem fk_digit_moves (B : Bs w K mg) : Mi.Fk PP w K mg T base 1 "digit_moves" Mi.sp_digit_moves := by
  obtain ⟨fd, F⟩ := B.D d_digit_moves (by simp [fn])
  exact Mi.fk_of  F (B.ga "digit_moves" (by simp [fa])) sc_digit_moves (F.bindsN fun _ _ _ _ _ _ us hl => match us, hl with | [_, _, _], _ => rfl) ck_digit_moves Mi.k_digit_moves (fn_of' True.intro) (gl_of True.intro) B.bt (tb_of True.intro) (ex_of True.intro)
theorem sc_rod_moves : FnScope Mi.N_rod_moves ["kind", "one", "other"] (defScope (top 44)) := ⟨rfl, rfl, rfl, by decide +kernel, rfl, by decide +kernel, by decide +kernel⟩
theorem ck_rod_moves : Mi.chkSs ⟨Mi.N_rod_moves, defScope (top 44), defScope (top 44), false⟩ Mi.b_rod_moves (defBody (top 44)) = true := by decide +kernel
theorem fk_rod_moves (B : Bs w K mg) : Mi.Fk PP w K mg T base 2 "rod_moves" Mi.sp_rod_moves := by
  obtain ⟨fd, F⟩ := B.D d_rod_moves (by simp [fn])
  exact Mi.fk_of  F (B.ga "rod_moves" (by simp [fa])) sc_rod_moves (F.bindsN fun _ _ _ _ _ _ us hl => match us, hl with | [_, _, _], _ => rfl) ck_rod_moves Mi.k_rod_moves (fn_of' ⟨(fk_digit_moves B).mono (by decide), True.intro⟩) (gl_of True.intro) B.bt (tb_of True.intro) (ex_of True.intro)
theorem sc_frame_moves : FnScope Mi.N_frame_moves ["kind", "one", "other"] (defScope (top 45)) := ⟨rfl, rfl, rfl, by decide +kernel, rfl, by decide +kernel, by decide +kernel⟩
theorem ck_frame_moves : Mi.chkSs ⟨Mi.N_frame_moves, defScope (top 45), defScope (top 45), false⟩ Mi.b_frame_moves (defBody (top 45)) = true := by decide +kernel
theorem fk_frame_moves (B : Bs w K mg) : Mi.Fk PP w K mg T base 3 "frame_moves" Mi.sp_frame_moves := by
  obtain ⟨fd, F⟩ := B.D d_frame_moves (by simp [fn])
  exact Mi.fk_of  F (B.ga "frame_moves" (by simp [fa])) sc_frame_moves (F.bindsN fun _ _ _ _ _ _ us hl => match us, hl with | [_, _, _], _ => rfl) ck_frame_moves Mi.k_frame_moves (fn_of' ⟨(fk_rod_moves B).mono (by decide), True.intro⟩) (gl_of True.intro) B.bt (tb_of True.intro) (ex_of True.intro)
theorem sc_all_walked : FnScope Mi.N_all_walked ["kind", "text", "frame"] (defScope (top 46)) := ⟨rfl, rfl, rfl, by decide +kernel, rfl, by decide +kernel, by decide +kernel⟩
theorem ck_all_walked : Mi.chkSs ⟨Mi.N_all_walked, defScope (top 46), defScope (top 46), false⟩ Mi.b_all_walked (defBody (top 46)) = true := by decide +kernel
theorem fk_all_walked (B : Bs w K mg) : Mi.Fk PP w K mg T base 4 "all_walked" Mi.sp_all_walked := by
  obtain ⟨fd, F⟩ := B.D d_all_walked (by simp [fn])
  exact Mi.fk_of  F (B.ga "all_walked" (by simp [fa])) sc_all_walked (F.bindsN fun _ _ _ _ _ _ us hl => match us, hl with | [_, _, _], _ => rfl) ck_all_walked Mi.k_all_walked (fn_of' ⟨(fk_walks_of B).mono (by decide), (fk_walked B).mono (by decide), True.intro⟩) (gl_of True.intro) B.bt (tb_of True.intro) (ex_of True.intro)
theorem sc_need_three : FnScope Mi.N_need_three ["kind", "text", "frame"] (defScope (top 47)) := ⟨rfl, rfl, rfl, by decide +kernel, rfl, by decide +kernel, by decide +kernel⟩
theorem ck_need_three : Mi.chkSs ⟨Mi.N_need_three, defScope (top 47), defScope (top 47), false⟩ Mi.b_need_three (defBody (top 47)) = true := by decide +kernel
theorem fk_need_three (B : Bs w K mg) : Mi.Fk PP w K mg T base 7 "need_three" Mi.sp_need_three := by
  obtain ⟨fd, F⟩ := B.D d_need_three (by simp [fn])
  exact Mi.fk_of  F (B.ga "need_three" (by simp [fa])) sc_need_three (F.bindsN fun _ _ _ _ _ _ us hl => match us, hl with | [_, _, _], _ => rfl) ck_need_three Mi.k_need_three (fn_of' ⟨(fk_need_frame B).mono (by decide), (fk_need_both B).mono (by decide), True.intro⟩) (gl_of True.intro) B.bt (tb_of True.intro) (ex_of True.intro)
theorem sc_moves : FnScope Mi.N_moves ["kind", "text", "frame"] (defScope (top 48)) := ⟨rfl, rfl, rfl, by decide +kernel, rfl, by decide +kernel, by decide +kernel⟩
theorem ck_moves : Mi.chkSs ⟨Mi.N_moves, defScope (top 48), defScope (top 48), false⟩ Mi.b_moves (defBody (top 48)) = true := by decide +kernel
theorem fk_moves (B : Bs w K mg) : Mi.Fk PP w K mg T base 8 "moves" Mi.sp_moves := by
  obtain ⟨fd, F⟩ := B.D d_moves (by simp [fn])
  exact Mi.fk_of  F (B.ga "moves" (by simp [fa])) sc_moves (F.bindsN fun _ _ _ _ _ _ us hl => match us, hl with | [_, _, _], _ => rfl) ck_moves Mi.k_moves (fn_of' ⟨(fk_all_walked B).mono (by decide), (fk_frame_moves B).mono (by decide), (fk_need_three B).mono (by decide), True.intro⟩) (gl_of True.intro) B.bt (tb_of True.intro) (ex_of True.intro)
theorem sc_l_law_bag : FnScope Mi.N_l_law_bag ["script", "k"] (defScope (top 50)) := ⟨rfl, rfl, rfl, by decide +kernel, rfl, by decide +kernel, by decide +kernel⟩
theorem ck_l_law_bag : Mi.chkSs ⟨Mi.N_l_law_bag, defScope (top 50), defScope (top 50), false⟩ Mi.b_l_law_bag (defBody (top 50)) = true := by decide +kernel
theorem fk_l_law_bag (B : Bs w K mg) : Mi.Fk PP w K mg T base 1 "_law_bag" Mi.sp_l_law_bag := by
  obtain ⟨fd, F⟩ := B.D d_l_law_bag (by simp [fn])
  exact Mi.fk_of  F (B.ga "_law_bag" (by simp [fa])) sc_l_law_bag (F.bindsN fun _ _ _ _ _ _ us hl => match us, hl with | [_, _], _ => rfl) ck_l_law_bag Mi.k_l_law_bag (fn_of' True.intro) (gl_of True.intro) B.bt (tb_of True.intro) (ex_of True.intro)
theorem sc_l_law_draw : FnScope Mi.N_l_law_draw ["bag", "many"] (defScope (top 51)) := ⟨rfl, rfl, rfl, by decide +kernel, rfl, by decide +kernel, by decide +kernel⟩
theorem ck_l_law_draw : Mi.chkSs ⟨Mi.N_l_law_draw, defScope (top 51), defScope (top 51), false⟩ Mi.b_l_law_draw (defBody (top 51)) = true := by decide +kernel
theorem fk_l_law_draw (B : Bs w K mg) : Mi.Fk PP w K mg T base 1 "_law_draw" Mi.sp_l_law_draw := by
  obtain ⟨fd, F⟩ := B.D d_l_law_draw (by simp [fn])
  exact Mi.fk_of  F (B.ga "_law_draw" (by simp [fa])) sc_l_law_draw (F.bindsN fun _ _ _ _ _ _ us hl => match us, hl with | [_, _], _ => rfl) ck_l_law_draw Mi.k_l_law_draw (fn_of' True.intro) (gl_of True.intro) B.bt (tb_of True.intro) (ex_of True.intro)
theorem sc_l_law_pick : FnScope Mi.N_l_law_pick ["bag", "things"] (defScope (top 52)) := ⟨rfl, rfl, rfl, by decide +kernel, rfl, by decide +kernel, by decide +kernel⟩
theorem ck_l_law_pick : Mi.chkSs ⟨Mi.N_l_law_pick, defScope (top 52), defScope (top 52), false⟩ Mi.b_l_law_pick (defBody (top 52)) = true := by decide +kernel
theorem fk_l_law_pick (B : Bs w K mg) : Mi.Fk PP w K mg T base 2 "_law_pick" Mi.sp_l_law_pick := by
  obtain ⟨fd, F⟩ := B.D d_l_law_pick (by simp [fn])
  exact Mi.fk_of  F (B.ga "_law_pick" (by simp [fa])) sc_l_law_pick (F.bindsN fun _ _ _ _ _ _ us hl => match us, hl with | [_, _], _ => rfl) ck_l_law_pick Mi.k_l_law_pick (fn_of' ⟨(fk_l_law_draw B).mono (by decide), True.intro⟩) (gl_of True.intro) B.bt (tb_of True.intro) (ex_of True.intro)
theorem sc_l_law_kind : FnScope Mi.N_l_law_kind ["bag"] (defScope (top 53)) := ⟨rfl, rfl, rfl, by decide +kernel, rfl, by decide +kernel, by decide +kernel⟩
theorem ck_l_law_kind : Mi.chkSs ⟨Mi.N_l_law_kind, defScope (top 53), defScope (top 53), false⟩ Mi.b_l_law_kind (defBody (top 53)) = true := by decide +kernel
theorem fk_l_law_kind (B : Bs w K mg) : Mi.Fk PP w K mg T base 3 "_law_kind" Mi.sp_l_law_kind := by
  obtain ⟨fd, F⟩ := B.D d_l_law_kind (by simp [fn])
  exact Mi.fk_of  F (B.ga "_law_kind" (by simp [fa])) sc_l_law_kind (F.bindsN fun _ _ _ _ _ _ us hl => match us, hl with | [_], _ => rfl) ck_l_law_kind Mi.k_l_law_kind (fn_of' ⟨(fk_l_law_draw B).mono (by decide), (fk_l_law_pick B).mono (by decide), True.intro⟩) (gl_of True.intro) B.bt (tb_of True.intro) (ex_of True.intro)
theorem sc_l_law_rod : FnScope Mi.N_l_law_rod ["bag", "kind"] (defScope (top 54)) := ⟨rfl, rfl, rfl, by decide +kernel, rfl, by decide +kernel, by decide +kernel⟩
theorem ck_l_law_rod : Mi.chkSs ⟨Mi.N_l_law_rod, defScope (top 54), defScope (top 54), false⟩ Mi.b_l_law_rod (defBody (top 54)) = true := by decide +kernel
theorem fk_l_law_rod (B : Bs w K mg) : Mi.Fk PP w K mg T base 3 "_law_rod" Mi.sp_l_law_rod := by
  obtain ⟨fd, F⟩ := B.D d_l_law_rod (by simp [fn])
  exact Mi.fk_of  F (B.ga "_law_rod" (by simp [fa])) sc_l_law_rod (F.bindsN fun _ _ _ _ _ _ us hl => match us, hl with | [_, _], _ => rfl) ck_l_law_rod Mi.k_l_law_rod (fn_of' ⟨(fk_l_law_pick B).mono (by decide), (fk_l_law_draw B).mono (by decide), True.intro⟩) (gl_of True.intro) B.bt (tb_of True.intro) (ex_of True.intro)
theorem sc_l_law_frame : FnScope Mi.N_l_law_frame ["bag", "kind", "most"] (defScope (top 55)) := ⟨rfl, rfl, rfl, by decide +kernel, rfl, by decide +kernel, by decide +kernel⟩
theorem ck_l_law_frame : Mi.chkSs ⟨Mi.N_l_law_frame, defScope (top 55), defScope (top 55), false⟩ Mi.b_l_law_frame (defBody (top 55)) = true := by decide +kernel
theorem fk_l_law_frame (B : Bs w K mg) : Mi.Fk PP w K mg T base 4 "_law_frame" Mi.sp_l_law_frame := by
  obtain ⟨fd, F⟩ := B.D d_l_law_frame (by simp [fn])
  exact Mi.fk_of  F (B.ga "_law_frame" (by simp [fa])) sc_l_law_frame (F.bindsN fun _ _ _ _ _ _ us hl => match us, hl with | [_, _, _], _ => rfl) ck_l_law_frame Mi.k_l_law_frame (fn_of' ⟨(fk_l_law_draw B).mono (by decide), (fk_l_law_rod B).mono (by decide), True.intro⟩) (gl_of True.intro) B.bt (tb_of True.intro) (ex_of True.intro)
theorem sc_l_law_plain : FnScope Mi.N_l_law_plain ["bag", "kind"] (defScope (top 56)) := ⟨rfl, rfl, rfl, by decide +kernel, rfl, by decide +kernel, by decide +kernel⟩
theorem ck_l_law_plain : Mi.chkSs ⟨Mi.N_l_law_plain, defScope (top 56), defScope (top 56), false⟩ Mi.b_l_law_plain (defBody (top 56)) = true := by decide +kernel
theorem fk_l_law_plain (B : Bs w K mg) : Mi.Fk PP w K mg T base 3 "_law_plain" Mi.sp_l_law_plain := by
  obtain ⟨fd, F⟩ := B.D d_l_law_plain (by simp [fn])
  exact Mi.fk_of  F (B.ga "_law_plain" (by simp [fa])) sc_l_law_plain (F.bindsN fun _ _ _ _ _ _ us hl => match us, hl with | [_, _], _ => rfl) ck_l_law_plain Mi.k_l_law_plain (fn_of' ⟨(fk_l_law_pick B).mono (by decide), (fk_l_law_draw B).mono (by decide), True.intro⟩) (gl_of True.intro) B.bt (tb_of True.intro) (ex_of True.intro)
theorem sc_l_law_width : FnScope Mi.N_l_law_width ["kind", "step"] (defScope (top 57)) := ⟨rfl, rfl, rfl, by decide +kernel, rfl, by decide +kernel, by decide +kernel⟩
theorem ck_l_law_width : Mi.chkSs ⟨Mi.N_l_law_width, defScope (top 57), defScope (top 57), false⟩ Mi.b_l_law_width (defBody (top 57)) = true := by decide +kernel
theorem fk_l_law_width (B : Bs w K mg) : Mi.Fk PP w K mg T base 1 "_law_width" Mi.sp_l_law_width := by
  obtain ⟨fd, F⟩ := B.D d_l_law_width (by simp [fn])
  exact Mi.fk_of  F (B.ga "_law_width" (by simp [fa])) sc_l_law_width (F.bindsN fun _ _ _ _ _ _ us hl => match us, hl with | [_, _], _ => rfl) ck_l_law_width Mi.k_l_law_width (fn_of' True.intro) (gl_of True.intro) B.bt (tb_of True.intro) (ex_of True.intro)
theorem sc_l_law_walks : FnScope Mi.N_l_law_walks ["text"] (defScope (top 58)) := ⟨rfl, rfl, rfl, by decide +kernel, rfl, by decide +kernel, by decide +kernel⟩
theorem ck_l_law_walks : Mi.chkSs ⟨Mi.N_l_law_walks, defScope (top 58), defScope (top 58), false⟩ Mi.b_l_law_walks (defBody (top 58)) = true := by decide +kernel
theorem fk_l_law_walks (B : Bs w K mg) : Mi.Fk PP w K mg T base 1 "_law_walks" Mi.sp_l_law_walks := by
  obtain ⟨fd, F⟩ := B.D d_l_law_walks (by simp [fn])
  exact Mi.fk_of  F (B.ga "_law_walks" (by simp [fa])) sc_l_law_walks (F.bindsN fun _ _ _ _ _ _ us hl => match us, hl with | [_], _ => rfl) ck_l_law_walks Mi.k_l_law_walks (fn_of' True.intro) (gl_of True.intro) B.bt (tb_of True.intro) (ex_of True.intro)
theorem sc_l_law_notes : FnScope Mi.N_l_law_notes ["kind", "text"] (defScope (top 59)) := ⟨rfl, rfl, rfl, by decide +kernel, rfl, by decide +kernel, by decide +kernel⟩
theorem ck_l_law_notes : Mi.chkSs ⟨Mi.N_l_law_notes, defScope (top 59), defScope (top 59), false⟩ Mi.b_l_law_notes (defBody (top 59)) = true := by decide +kernel
theorem fk_l_law_notes (B : Bs w K mg) : Mi.Fk PP w K mg T base 2 "_law_notes" Mi.sp_l_law_notes := by
  obtain ⟨fd, F⟩ := B.D d_l_law_notes (by simp [fn])
  exact Mi.fk_of  F (B.ga "_law_notes" (by simp [fa])) sc_l_law_notes (F.bindsN fun _ _ _ _ _ _ us hl => match us, hl with | [_, _], _ => rfl) ck_l_law_notes Mi.k_l_law_notes (fn_of' ⟨(fk_l_law_walks B).mono (by decide), (fk_l_law_width B).mono (by decide), True.intro⟩) (gl_of True.intro) B.bt (tb_of True.intro) (ex_of True.intro)
theorem sc_l_law_text : FnScope Mi.N_l_law_text ["bag", "kind", "most", "cap"] (defScope (top 60)) := ⟨rfl, rfl, rfl, by decide +kernel, rfl, by decide +kernel, by decide +kernel⟩
theorem ck_l_law_text : Mi.chkSs ⟨Mi.N_l_law_text, defScope (top 60), defScope (top 60), false⟩ Mi.b_l_law_text (defBody (top 60)) = true := by decide +kernel
theorem fk_l_law_text (B : Bs w K mg) : Mi.Fk PP w K mg T base 4 "_law_text" Mi.sp_l_law_text := by
  obtain ⟨fd, F⟩ := B.D d_l_law_text (by simp [fn])
  exact Mi.fk_of  F (B.ga "_law_text" (by simp [fa])) sc_l_law_text (F.bindsN fun _ _ _ _ _ _ us hl => match us, hl with | [_, _, _, _], _ => rfl) ck_l_law_text Mi.k_l_law_text (fn_of' ⟨(fk_l_law_draw B).mono (by decide), (fk_l_law_walks B).mono (by decide), (fk_l_law_notes B).mono (by decide), (fk_l_law_plain B).mono (by decide), True.intro⟩) (gl_of True.intro) B.bt (tb_of True.intro) (ex_of True.intro)
theorem sc_l_law_raised : FnScope Mi.N_l_law_raised ["base", "many"] (defScope (top 61)) := ⟨rfl, rfl, rfl, by decide +kernel, rfl, by decide +kernel, by decide +kernel⟩
theorem ck_l_law_raised : Mi.chkSs ⟨Mi.N_l_law_raised, defScope (top 61), defScope (top 61), false⟩ Mi.b_l_law_raised (defBody (top 61)) = true := by decide +kernel
theorem fk_l_law_raised (B : Bs w K mg) : ∀ n : Nat, Mi.Fk PP w K mg T base (1 + n) "_law_raised" (Mi.sp_l_law_raised n)
  | 0 => by
    obtain ⟨fd, F⟩ := B.D d_l_law_raised (by simp [fn])
    exact Mi.fk_of (Γ := Mi.kn [] [] []) (κ := 0) F (B.ga "_law_raised" (by simp [fa])) sc_l_law_raised (F.bindsN fun _ _ _ _ _ _ us hl => match us, hl with | [_, _], _ => rfl) ck_l_law_raised Mi.k0_l_law_raised (fn_of' True.intro) (gl_of True.intro) B.bt (tb_of True.intro) (ex_of True.intro)
  | n + 1 => by
    obtain ⟨fd, F⟩ := B.D d_l_law_raised (by simp [fn])
    exact Mi.fk_of (Γ := Mi.g_l_law_raised (Mi.sp_l_law_raised n)) (κ := 1 + n) F (B.ga "_law_raised" (by simp [fa])) sc_l_law_raised (F.bindsN fun _ _ _ _ _ _ us hl => match us, hl with | [_, _], _ => rfl) ck_l_law_raised (Mi.k_l_law_raised n) (fn_of' ⟨fk_l_law_raised B n, True.intro⟩) (gl_of True.intro) B.bt (tb_of True.intro) (ex_of True.intro)
theorem sc_l_law_numbers : FnScope Mi.N_l_law_numbers ["kind", "frame"] (defScope (top 62)) := ⟨rfl, rfl, rfl, by decide +kernel, rfl, by decide +kernel, by decide +kernel⟩
theorem ck_l_law_numbers : Mi.chkSs ⟨Mi.N_l_law_numbers, defScope (top 62), defScope (top 62), false⟩ Mi.b_l_law_numbers (defBody (top 62)) = true := by decide +kernel
theorem fk_l_law_numbers (B : Bs w K mg) : Mi.Fk PP w K mg T base 1 "_law_numbers" Mi.sp_l_law_numbers := by
  obtain ⟨fd, F⟩ := B.D d_l_law_numbers (by simp [fn])
  exact Mi.fk_of  F (B.ga "_law_numbers" (by simp [fa])) sc_l_law_numbers (F.bindsN fun _ _ _ _ _ _ us hl => match us, hl with | [_, _], _ => rfl) ck_l_law_numbers Mi.k_l_law_numbers (fn_of' True.intro) (gl_of True.intro) B.bt (tb_of True.intro) (ex_of True.intro)
theorem sc_l_law_frame_of : FnScope Mi.N_l_law_frame_of ["kind", "numbers", "rods"] (defScope (top 63)) := ⟨rfl, rfl, rfl, by decide +kernel, rfl, by decide +kernel, by decide +kernel⟩
theorem ck_l_law_frame_of : Mi.chkSs ⟨Mi.N_l_law_frame_of, defScope (top 63), defScope (top 63), false⟩ Mi.b_l_law_frame_of (defBody (top 63)) = true := by decide +kernel
theorem fk_l_law_frame_of (B : Bs w K mg) : Mi.Fk PP w K mg T base 1 "_law_frame_of" Mi.sp_l_law_frame_of := by
  obtain ⟨fd, F⟩ := B.D d_l_law_frame_of (by simp [fn])
  exact Mi.fk_of  F (B.ga "_law_frame_of" (by simp [fa])) sc_l_law_frame_of (F.bindsN fun _ _ _ _ _ _ us hl => match us, hl with | [_, _, _], _ => rfl) ck_l_law_frame_of Mi.k_l_law_frame_of (fn_of' True.intro) (gl_of True.intro) B.bt (tb_of True.intro) (ex_of True.intro)
theorem sc_l_law_reckoned : FnScope Mi.N_l_law_reckoned ["kind", "step", "numbers", "size"] (defScope (top 64)) := ⟨rfl, rfl, rfl, by decide +kernel, rfl, by decide +kernel, by decide +kernel⟩
theorem ck_l_law_reckoned : Mi.chkSs ⟨Mi.N_l_law_reckoned, defScope (top 64), defScope (top 64), false⟩ Mi.b_l_law_reckoned (defBody (top 64)) = true := by decide +kernel
theorem fk_l_law_reckoned (B : Bs w K mg) : Mi.Fk PP w K mg T base 1 "_law_reckoned" Mi.sp_l_law_reckoned := by
  obtain ⟨fd, F⟩ := B.D d_l_law_reckoned (by simp [fn])
  exact Mi.fk_of  F (B.ga "_law_reckoned" (by simp [fa])) sc_l_law_reckoned (F.bindsN fun _ _ _ _ _ _ us hl => match us, hl with | [_, _, _, _], _ => rfl) ck_l_law_reckoned Mi.k_l_law_reckoned (fn_of' True.intro) (gl_of True.intro) B.bt (tb_of True.intro) (ex_of True.intro)
theorem sc_l_law_stages : FnScope Mi.N_l_law_stages ["kind", "text", "frame"] (defScope (top 65)) := ⟨rfl, rfl, rfl, by decide +kernel, rfl, by decide +kernel, by decide +kernel⟩
theorem ck_l_law_stages : Mi.chkSs ⟨Mi.N_l_law_stages, defScope (top 65), defScope (top 65), false⟩ Mi.b_l_law_stages (defBody (top 65)) = true := by decide +kernel
theorem fk_l_law_stages (B : Bs w K mg) : Mi.Fk PP w K mg T base 10 "_law_stages" Mi.sp_l_law_stages := by
  obtain ⟨fd, F⟩ := B.D d_l_law_stages (by simp [fn])
  exact Mi.fk_of  F (B.ga "_law_stages" (by simp [fa])) sc_l_law_stages (F.bindsN fun _ _ _ _ _ _ us hl => match us, hl with | [_, _, _], _ => rfl) ck_l_law_stages Mi.k_l_law_stages (fn_of' ⟨(fk_l_law_walks B).mono (by decide), (fk_l_law_frame_of B).mono (by decide), (fk_l_law_reckoned B).mono (by decide), (fk_l_law_raised B 8).mono (by decide), (fk_l_law_numbers B).mono (by decide), True.intro⟩) (gl_of True.intro) B.bt (tb_of True.intro) (ex_of True.intro)
theorem sc_l_law_stand : FnScope Mi.N_l_law_stand ["kind", "figure"] (defScope (top 68)) := ⟨rfl, rfl, rfl, by decide +kernel, rfl, by decide +kernel, by decide +kernel⟩
theorem ck_l_law_stand : Mi.chkSs ⟨Mi.N_l_law_stand, defScope (top 68), defScope (top 68), false⟩ Mi.b_l_law_stand (defBody (top 68)) = true := by decide +kernel
theorem fk_l_law_stand (B : Bs w K mg) : Mi.Fk PP w K mg T base 1 "_law_stand" Mi.sp_l_law_stand := by
  obtain ⟨fd, F⟩ := B.D d_l_law_stand (by simp [fn])
  exact Mi.fk_of  F (B.ga "_law_stand" (by simp [fa])) sc_l_law_stand (F.bindsN fun _ _ _ _ _ _ us hl => match us, hl with | [_, _], _ => rfl) ck_l_law_stand Mi.k_l_law_stand (fn_of' True.intro) (gl_of True.intro) B.bt (tb_of True.intro) (ex_of True.intro)
theorem sc_l_law_cost : FnScope Mi.N_l_law_cost ["kind", "one", "other"] (defScope (top 69)) := ⟨rfl, rfl, rfl, by decide +kernel, rfl, by decide +kernel, by decide +kernel⟩
theorem ck_l_law_cost : Mi.chkSs ⟨Mi.N_l_law_cost, defScope (top 69), defScope (top 69), false⟩ Mi.b_l_law_cost (defBody (top 69)) = true := by decide +kernel
theorem fk_l_law_cost (B : Bs w K mg) : Mi.Fk PP w K mg T base 2 "_law_cost" Mi.sp_l_law_cost := by
  obtain ⟨fd, F⟩ := B.D d_l_law_cost (by simp [fn])
  exact Mi.fk_of  F (B.ga "_law_cost" (by simp [fa])) sc_l_law_cost (F.bindsN fun _ _ _ _ _ _ us hl => match us, hl with | [_, _, _], _ => rfl) ck_l_law_cost Mi.k_l_law_cost (fn_of' ⟨(fk_l_law_stand B).mono (by decide), True.intro⟩) (gl_of True.intro) B.bt (tb_of True.intro) (ex_of True.intro)
theorem sc_law : FnScope Mi.N_law ["script"] (defScope (top 70)) := ⟨rfl, rfl, rfl, by decide +kernel, rfl, by decide +kernel, by decide +kernel⟩
theorem ck_law : Mi.chkSs ⟨Mi.N_law, defScope (top 70), defScope (top 70), true⟩ Mi.b_law (defBody (top 70)) = true := by decide +kernel
def pk (i : Nat) : Pos := ([⟨273, 4, 273, 8⟩, ⟨273, 12, 273, 22⟩, ⟨273, 23, 273, 24⟩, ⟨273, 26, 273, 40⟩, ⟨273, 12, 273, 41⟩, ⟨273, 43, 273, 53⟩, ⟨273, 54, 273, 55⟩, ⟨273, 57, 273, 69⟩, ⟨273, 43, 273, 70⟩, ⟨273, 72, 273, 82⟩, ⟨273, 83, 273, 84⟩, ⟨273, 86, 273, 98⟩, ⟨273, 72, 273, 99⟩, ⟨273, 11, 273, 100⟩, ⟨273, 4, 273, 100⟩, ⟨274, 4, 274, 8⟩, ⟨274, 11, 274, 15⟩, ⟨274, 19, 274, 29⟩, ⟨274, 30, 274, 31⟩, ⟨274, 33, 274, 44⟩, ⟨274, 19, 274, 45⟩, ⟨274, 47, 274, 57⟩, ⟨274, 58, 274, 59⟩, ⟨274, 61, 274, 74⟩, ⟨274, 47, 274, 75⟩, ⟨274, 77, 274, 87⟩, ⟨274, 88, 274, 89⟩, ⟨274, 91, 274, 103⟩, ⟨274, 77, 274, 104⟩, ⟨274, 18, 274, 105⟩, ⟨274, 11, 274, 105⟩, ⟨274, 4, 274, 105⟩, ⟨275, 4, 275, 8⟩, ⟨275, 11, 275, 15⟩, ⟨275, 19, 275, 29⟩, ⟨275, 30, 275, 31⟩, ⟨275, 33, 275, 44⟩, ⟨275, 19, 275, 45⟩, ⟨275, 47, 275, 57⟩, ⟨275, 58, 275, 59⟩, ⟨275, 61, 275, 72⟩, ⟨275, 47, 275, 73⟩, ⟨275, 75, 275, 85⟩, ⟨275, 86, 275, 87⟩, ⟨275, 89, 275, 102⟩, ⟨275, 75, 275, 103⟩, ⟨275, 18, 275, 104⟩, ⟨275, 11, 275, 104⟩, ⟨275, 4, 275, 104⟩, ⟨276, 4, 276, 8⟩, ⟨276, 11, 276, 15⟩, ⟨276, 19, 276, 29⟩, ⟨276, 30, 276, 31⟩, ⟨276, 33, 276, 40⟩, ⟨276, 19, 276, 41⟩, ⟨276, 43, 276, 53⟩, ⟨276, 54, 276, 55⟩, ⟨276, 57, 276, 63⟩, ⟨276, 43, 276, 64⟩, ⟨276, 66, 276, 76⟩, ⟨276, 77, 276, 78⟩, ⟨276, 80, 276, 90⟩, ⟨276, 66, 276, 91⟩, ⟨276, 18, 276, 92⟩, ⟨276, 11, 276, 92⟩, ⟨276, 4, 276, 92⟩, ⟨277, 4, 277, 9⟩, ⟨277, 13, 277, 29⟩, ⟨277, 31, 277, 45⟩, ⟨277, 47, 277, 61⟩, ⟨277, 63, 277, 76⟩, ⟨277, 78, 277, 93⟩, ⟨277, 95, 277, 109⟩, ⟨277, 12, 277, 110⟩, ⟨277, 4, 277, 110⟩, ⟨278, 4, 278, 9⟩, ⟨278, 12, 278, 17⟩, ⟨278, 21, 278, 34⟩, ⟨278, 36, 278, 49⟩, ⟨278, 51, 278, 66⟩, ⟨278, 68, 278, 77⟩, ⟨278, 79, 278, 87⟩, ⟨278, 89, 278, 92⟩, ⟨278, 20, 278, 93⟩, ⟨278, 12, 278, 93⟩, ⟨278, 4, 278, 93⟩, ⟨279, 11, 279, 14⟩, ⟨279, 11, 279, 19⟩, ⟨279, 21, 279, 25⟩, ⟨279, 30, 279, 34⟩, ⟨279, 36, 279, 40⟩, ⟨279, 30, 279, 40⟩, ⟨279, 44, 279, 47⟩, ⟨279, 48, 279, 53⟩, ⟨279, 55, 279, 59⟩, ⟨279, 44, 279, 60⟩, ⟨279, 64, 279, 68⟩, ⟨279, 20, 279, 69⟩, ⟨279, 11, 279, 70⟩, ⟨279, 4, 279, 70⟩] : List Pos).getD i ⟨0, 0, 0, 0⟩
theorem bd_pk : defBody (top 66) = Ho.kindsBody pk := by kernel_rfl
theorem sc_pk : defScope (top 66) = Ho.kindsSc := by kernel_rfl
def pc (i : Nat) : Pos := ([⟨281, 4, 281, 9⟩, ⟨281, 12, 281, 16⟩, ⟨281, 4, 281, 16⟩, ⟨283, 8, 283, 13⟩, ⟨283, 17, 283, 23⟩, ⟨283, 25, 283, 32⟩, ⟨283, 25, 283, 34⟩, ⟨283, 16, 283, 35⟩, ⟨283, 8, 283, 35⟩, ⟨284, 11, 284, 18⟩, ⟨285, 8, 285, 13⟩, ⟨285, 17, 285, 27⟩, ⟨285, 28, 285, 29⟩, ⟨285, 17, 285, 30⟩, ⟨285, 32, 285, 33⟩, ⟨285, 32, 285, 39⟩, ⟨285, 16, 285, 40⟩, ⟨285, 8, 285, 40⟩, ⟨284, 4, 285, 40⟩, ⟨286, 11, 286, 22⟩, ⟨287, 8, 287, 13⟩, ⟨287, 17, 287, 27⟩, ⟨287, 28, 287, 29⟩, ⟨287, 17, 287, 30⟩, ⟨287, 32, 287, 33⟩, ⟨287, 32, 287, 38⟩, ⟨287, 16, 287, 39⟩, ⟨287, 8, 287, 39⟩, ⟨286, 4, 287, 39⟩, ⟨288, 11, 288, 19⟩, ⟨289, 8, 289, 13⟩, ⟨289, 17, 289, 27⟩, ⟨289, 28, 289, 29⟩, ⟨289, 17, 289, 30⟩, ⟨289, 16, 289, 32⟩, ⟨289, 8, 289, 32⟩, ⟨288, 4, 289, 32⟩, ⟨282, 4, 289, 32⟩, ⟨290, 11, 290, 16⟩, ⟨290, 4, 290, 16⟩] : List Pos).getD i ⟨0, 0, 0, 0⟩
theorem bd_pc : defBody (top 67) = Ho.callBody pc := by kernel_rfl
theorem sc_pc : defScope (top 67) = Ho.callSc := by kernel_rfl
def kds : List (Str × Str × Option Str) := [("InvalidKind", ((Mi.wS 48), none)), ("InvalidFrame", ((Mi.wS 35), none)), ("InvalidText", ((Mi.wS 31), (some ("line" : Str))))]
theorem kc_of (B : Bs w K mg) : ∃ kc : Ho.KC K mg, kc.Ok ∧ Ho.KdF K mg kc.CT kc.CI kc.CR (fun c => Mi.getF c kds) := by
  obtain ⟨fd, F⟩ := B.D d_l_law_kinds (by simp [fn])
  have F : FunD K "_law_kinds" "_law_kinds" (defArgs (top 66)) (defBody (top 66)) (defScope (top 66)) [] [] (He.ga K "_law_kinds") fd := F
  have b := F.bindsN (ps := ["e"]) fun _ _ _ _ _ _ us hl => match us, hl with | [_], _ => rfl
  rw [bd_pk, sc_pk] at F
  obtain ⟨oc, od, dV, kV, doc, pm, an, cdv, ct, osl, rfl, lk, hcd, _, _⟩ := F.ex
  refine ⟨⟨He.ga K "_law_kinds", oc, od, osl, _, dV, kV, doc, pm, cdv, ct, an, pk, He.ga K "TooMany", He.ga K "InvalidText", He.ga K "RodError"⟩, ⟨lk, hcd, F.kp, b, B.ga _ (by simp [fa]), (by show ((pk 87).endLine == (pk 98).line) = true; decide), ⟨B.ve, B.bt _ (by simp [Mi.btNames]), B.bt _ (by simp [Mi.btNames])⟩, B.ga _ (by simp [fa]), B.ga _ (by simp [fa]), B.ga _ (by simp [fa])⟩, Ho.kdF_of (cls9 B) ?_⟩
  exact ⟨⟨B.ga "InvalidKind" (by simp [fa]), ex_cl_InvalidKind B.more, by kernel_rfl⟩, ⟨B.ga "InvalidFrame" (by simp [fa]), ex_cl_InvalidFrame B.more, by kernel_rfl⟩, ⟨B.ga "InvalidText" (by simp [fa]), ex_cl_InvalidText B.more, by kernel_rfl⟩, True.intro⟩
theorem kl_of (B : Bs w K mg) : ∃ kl : Ho.KL K mg, kl.Ok := by
  obtain ⟨fd, F⟩ := B.D d_l_law_call (by simp [fn])
  have F : FunD K "_law_call" "_law_call" (defArgs (top 67)) (defBody (top 67)) (defScope (top 67)) [] [] (He.ga K "_law_call") fd := F
  have b := F.bindsN (ps := ["call_so"]) fun _ _ _ _ _ _ us hl => match us, hl with | [_], _ => rfl
  rw [bd_pc, sc_pc] at F
  obtain ⟨oc, od, dV, kV, doc, pm, an, cdv, ct, osl, rfl, lk, hcd, _, _⟩ := F.ex
  exact ⟨⟨He.ga K "_law_call", oc, od, osl, _, dV, kV, doc, pm, cdv, ct, an, pc⟩, lk, hcd, F.kp, b, B.ga _ (by simp [fa])⟩
def TT (K : PySem.W.Frag) : List (Addr × Str) := [((He.cT K ("law", none)).2, "law.<locals>.<lambda>")]
theorem fd_one {a : Addr} {fd fd2 : FuncData} (F : FunD K "law" "law" d_law.params d_law.body d_law.scope [] [] a fd) (F2 : FunD K "law" "law" d_law.params d_law.body d_law.scope [] [] a fd2) : fd = fd2 := by
  obtain ⟨_, _, _, _, _, _, _, _, _, _, _, h, _⟩ := F.ex
  obtain ⟨_, _, _, _, _, _, _, _, _, _, _, h2, _⟩ := F2.ex
  rw [h] at h2
  cases h2
  rfl
theorem law_fd (B : Bs w K mg) : ∃ fd, FunD K "law" "law" d_law.params d_law.body d_law.scope [] [] (He.ga K "law") fd := B.D d_law (by simp [fn])
theorem ok_law (B : Bs w K mg) (TB : LamX.TabB base mg (He.cT K ("law", none)).1 (He.cT K ("law", none)).2) {fd : FuncData} (F : FunD K "law" "law" d_law.params d_law.body d_law.scope [] [] (He.ga K "law") fd) : FnOk PP w K mg base (L2N.CX PP w) 13 (He.ga K "law") fd ["script"] (Mi.spOf K mg (TT K) 1 (Mi.lawSpec 63)) := by
  obtain ⟨kc, O, hkd⟩ := kc_of B
  obtain ⟨kl, OL⟩ := kl_of B
  have fs : ∀ κ, 10 ≤ κ → ∀ x d, Mi.g_law.fn x = some d → Mi.Fk PP w K mg (TT K) base κ x d := fun κ hκ => fn_of' ⟨(fk_moves B).mono (Nat.le_trans (by decide) hκ), (fk_l_law_stages B).mono (Nat.le_trans (by decide) hκ), (fk_l_law_cost B).mono (Nat.le_trans (by decide) hκ), (fk_l_law_frame B).mono (Nat.le_trans (by decide) hκ), (fk_l_law_pick B).mono (Nat.le_trans (by decide) hκ), (fk_l_law_text B).mono (Nat.le_trans (by decide) hκ), (fk_l_law_kind B).mono (Nat.le_trans (by decide) hκ), (fk_l_law_bag B).mono (Nat.le_trans (by decide) hκ), True.intro⟩
  refine Mi.ok_ofL (κ := 12) F sc_law ck_law Mi.k_law (fs _ (by decide)) (gl_of True.intro) B.bt (tb_of True.intro) (ex_of True.intro) ?_
  intro oc od dV kV doc pm an cdv ct osl A outer s H E e1 lk hcd hroom
  obtain ⟨c, rfl⟩ := He.codeIn_ref hcd
  have hc : He.codeOf K ("law", none) = c := He.codeOf_eq lk (by rw [e1])
  have hc1 : (He.cT K ("law", none)).1 = c := hc
  rw [hc1] at TB
  refine ⟨10, Ho.lamOk_of (kc := kc) O (kl := kl) OL hkd (c := c) TB rfl (List.mem_singleton.mpr ?_) (fun p hp _ => ?_) hroom, fs _ (Nat.le_refl _), (fun _ _ e => by cases e), ?_⟩
  · kernel_rfl
  · obtain rfl := List.mem_singleton.mp hp; kernel_rfl
  · intro c t a h
    have h2 : Mi.AllP (fun _ ta => ta.1.length ≤ sizeLine) kds := by rw [sizeLine_eq]; exact ⟨by decide, by decide, by decide, True.intro⟩
    exact h2.get h
end
theorem bs_of {w : World} {K : PySem.W.Frag} {h : Heap} {mg : Str → Option Value} (X : K.In h) (G : h.Ns mainGlobals mg) (c : He.SaysX fa fn ts tf ex w h K) : Bs w K mg where
  D := fun d hd => c.t.d.defs hd
  ga := fun x hx => He.glo_ok X G (c.t.d.facts hx)
  bt := fun x hx => He.free_ok X G (c.t.d.facts (by
    simp only [Mi.btNames, List.mem_cons, List.not_mem_nil, or_false] at hx
    rcases hx with rfl | rfl | rfl | rfl | rfl | rfl | rfl | rfl | rfl | rfl | rfl | rfl | rfl | rfl | rfl <;> simp [fa]))
  ve := He.free_ok X G (c.t.d.facts (by simp [fa]))
  xc_InvalidKind := c.t.d.facts (by simp [fa])
  xc_InvalidFrame := c.t.d.facts (by simp [fa])
  more := c.more
  gl_MOST_LETTERS := by
    obtain ⟨t, e⟩ := He.int_ok X G (c.t.d.facts (f := .int "MOST_LETTERS" 100) (by simp [fa]))
    exact ⟨_, .int 100, e, ⟨t, rfl⟩, Mi.rep_int.mpr rfl⟩
  gl_FROM_LEFT := by
    have h1 := ex_tup_FROM_LEFT c.more
    exact ⟨_, .ref (He.ga K "FROM_LEFT"), He.glo_ok X G (c.t.d.facts (f := .glo "FROM_LEFT") (by simp [fa])), rfl, Mi.rep_tup.mpr ⟨_, _, rfl, He.tupB_ok h1 _, Mi.Reps.cons (Mi.rep_str.mpr ⟨rfl, by decide +kernel⟩) (Mi.Reps.cons (Mi.rep_str.mpr ⟨rfl, by decide +kernel⟩) (Mi.Reps.cons (Mi.rep_str.mpr ⟨rfl, by decide +kernel⟩) (Mi.Reps.nil)))⟩⟩
  gl_MOST_NOTES := by
    obtain ⟨t, e⟩ := He.int_ok X G (c.t.d.facts (f := .int "MOST_NOTES" 40) (by simp [fa]))
    exact ⟨_, .int 40, e, ⟨t, rfl⟩, Mi.rep_int.mpr rfl⟩
  gl_MOST_WALKS := by
    obtain ⟨t, e⟩ := He.int_ok X G (c.t.d.facts (f := .int "MOST_WALKS" 8) (by simp [fa]))
    exact ⟨_, .int 8, e, ⟨t, rfl⟩, Mi.rep_int.mpr rfl⟩
  gl_MOST_STEPS := by
    obtain ⟨t, e⟩ := He.int_ok X G (c.t.d.facts (f := .int "MOST_STEPS" 6) (by simp [fa]))
    exact ⟨_, .int 6, e, ⟨t, rfl⟩, Mi.rep_int.mpr rfl⟩
  gl_MOST_RODS := by
    obtain ⟨t, e⟩ := He.int_ok X G (c.t.d.facts (f := .int "MOST_RODS" 60) (by simp [fa]))
    exact ⟨_, .int 60, e, ⟨t, rfl⟩, Mi.rep_int.mpr rfl⟩
  tb_SHAPES := by
    have e : ts.map (fun t => He.dicW K (t.1 K)) = ts.map fun t => some (He.keysIn w.params t.2) := congrArg (fun z : He.AlT => z.2) c.t
    have e2 : (ts.map fun t => He.dicW K (t.1 K))[0]? = (ts.map fun t => some (He.keysIn w.params t.2))[0]? := by rw [e]
    exact Mi.tk_of (t := "SHAPES") [("add", 3), ("less", 3), ("times", 3), ("part", 3), ("greater", 3), ("copy", 3), ("swap", 3), ("more", 2), ("nines", 2), ("left", 2), ("right", 2)] (He.glo_ok X G (c.t.d.facts (f := .glo "SHAPES") (by simp [fa]))) (Option.some.inj e2) (ex_val_SHAPES c.more)
end HdT
open PySem PySem.W PySem.Calls PyProof.Rows
theorem PySem.Challenge.cw_anyrods_k04_moves_of_beads_holds : PySem.Challenge.rw_anyrods_k04_moves_of_beads.Holds := by
  w_on; o_law
  o_head HdT.hk
  case hw => w_witness2
  case hc =>
    refine LamX.walk_ofTsE (l := PySem.Challenge.rw_anyrods_k04_moves_of_beads) (n := 63) (k := 13) (x := "script") (CX := fun w => L2N.CX HdT.PP w) rfl (by decide) (by kernel_rfl) ⟨rfl, by decide, by decide⟩ ?F (fun w _ _ _ _ z => z.elim fun _ h => by obtain ⟨_, _, _, _, _, _, _, _, _, _, _, h⟩ := h; exact h)
    intro w mg fa h Y G hmg0
    obtain ⟨K, KX, c⟩ := Y
    have hmg : mg ("law" : PySem.Str) = some (.ref fa) := hmg0
    have B := HdT.bs_of KX G c
    have e := hmg.symm.trans (B.ga "law" (by simp [HdT.fa]))
    cases e
    obtain ⟨fd, F⟩ := HdT.law_fd B
    have b := L2.FunD.bindsA (ps := ["script"]) F fun _ _ _ _ _ _ us hl => match us, hl with | [_], _ => rfl
    refine ⟨K, KX, fd, [He.cT K ("law", none)], Mi.spOf K mg (HdT.TT K) 1 (Mi.lawSpec 63), ?_, ?_, ?_, fun s v => b s [v] rfl, fun H a ns hl _ hH hS => Mi.law_sp (fun p hp => ?_) hl hS, fun base _ _ TB => HdT.ok_law B (TB _ (List.mem_singleton.mpr rfl)) F⟩
    · intro p hp; rw [List.mem_singleton.mp hp]; exact c.empty _ (List.mem_singleton.mpr rfl)
    · intro p hp; rw [List.mem_singleton.mp hp]; exact c.out _ (List.mem_singleton.mpr rfl)
    · intro p hp; rw [List.mem_singleton.mp hp]; exact PySem.W.codeHd_of_K KX (c.hd _ (List.mem_singleton.mpr rfl))
    · rw [List.mem_singleton.mp hp]; exact LamX.TabS.nil (hH _ (List.mem_singleton.mpr rfl))

