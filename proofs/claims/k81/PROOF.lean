import PyProof.Rows.All
import Wide.All
import OpenK.AllK
import Wide.FinOn
import HandS.ForMost
import HandS.Flow
import HandS.ForExc
import HandS.Style
import HandS.Defaults
import HandS.CallSlots
import HandS.Wide
import HandS.IsInst
import HandS.FStr
import HandS.RaiseMore
import HandS.Text
import PyProof.ReprReads
import HandS.More
import HandS.TupAny
import HandS.Deep
import PyProof.ReprRoads
import KE.KUnpackStar
import KE.GoesEnumKw
import HandS.Words
import HandS.HeadHook4
import HandS.Ends
import HandS.HeadEnd
import HandS.Head2
import HandS.WordsExc
import HandS.Steps
import PySem.Challenge.RW_oldways_k81_deeds_written
set_option Elab.async false
set_option linter.all false
set_option maxRecDepth 100000
/-! VL0: the value layer. Python values as data trees; a state of slots; what a state says of a frame and of the abstract heap. -/
namespace VL
open PySem L2

/-- data -/
inductive D where
  | non | bl (b : Bool) | int (i : Int) | str (s : Str) | tup (xs : List D) | lst (xs : List D)
  /-- the script -/
  | scr (ns : List Int)
/-- a slot: nothing known, a value that stands still, a list of the frame's own (io: the caller's, lent) -/
inductive Sl where
  | un | val (d : D) | own (io : Bool) (ds : List D)
abbrev En := List Sl
/-- a result: a value, a new list that none else holds, the own list of a slot -/
inductive R where
  | val (d : D) | fresh (ds : List D) | slot (i : Nat)
inductive Res (α : Type) where
  | ok (a : α) (ρ : En) | exn (c : Nat) (d : D) (ρ : En) | bad
abbrev M (α : Type) := En → Res α
def Res.bind {α β : Type} (r : Res α) (k : α → M β) : Res β := match r with
  | .ok a ρ => k a ρ
  | .exn c d ρ => .exn c d ρ
  | .bad => .bad
def ret {α : Type} (a : α) : M α := fun ρ => .ok a ρ
def bnd {α β : Type} (f : M α) (k : α → M β) : M β := fun ρ => (f ρ).bind k

/-! ### what a value is of data -/
mutual
inductive Rep (K : PySem.W.Frag) (F : Hp) : V → D → Prop
  | non : Rep K F .non .non
  | bl (b : Bool) : Rep K F (.bl b) (.bl b)
  | int (i : Int) : Rep K F (.int i) (.int i)
  | str (s : Str) : s.length ≤ sizeLine → Rep K F (.str s) (.str s)
  | tup {a : Addr} {vs : List V} {ds : List D} : SqT K F a vs → Reps K F vs ds → Rep K F (.ref a) (.tup ds)
  | lst {a : Addr} {vs : List V} {ds : List D} : F a = some (.lst vs) → Reps K F vs ds → Rep K F (.ref a) (.lst ds)
  | scr {a : Addr} {ns : List Int} : SqL K F a (ns.map V.int) → Rep K F (.ref a) (.scr ns)
inductive Reps (K : PySem.W.Frag) (F : Hp) : List V → List D → Prop
  | nil : Reps K F [] []
  | cons {v : V} {d : D} {vs : List V} {ds : List D} : Rep K F v d → Reps K F vs ds → Reps K F (v :: vs) (d :: ds)
end
/-- F lies in F' -/
def Sub (F F' : Hp) : Prop := ∀ a o, F a = some o → F' a = some o
theorem Sub.refl (F : Hp) : Sub F F := fun _ _ h => h
theorem Sub.trans {F F1 F2 : Hp} (a : Sub F F1) (b : Sub F1 F2) : Sub F F2 := fun x o h => b x o (a x o h)
theorem Sub.rd {F F' : Hp} {a : Addr} {u : HO} (e : Sub F F') (h : Rd F a u) : Rd F' a u := by
  rcases h with h | ⟨o, h⟩
  · exact Or.inl (e a _ h)
  · exact Or.inr ⟨o, e a _ h⟩
theorem Sub.l {K : PySem.W.Frag} {F F' : Hp} {a : Addr} {xs : List V} (e : Sub F F') (h : SqL K F a xs) : SqL K F' a xs := by
  rcases h with h | h
  · exact Or.inl (e.rd h)
  · exact Or.inr h
theorem Sub.t {K : PySem.W.Frag} {F F' : Hp} {a : Addr} {xs : List V} (e : Sub F F') (h : SqT K F a xs) : SqT K F' a xs := by
  rcases h with h | h
  · exact Or.inl (e.rd h)
  · exact Or.inr h
section
variable {K : PySem.W.Frag} {F F' H : Hp}
mutual
theorem Rep.mono (e : Sub F F') : ∀ {v : V} {d : D}, Rep K F v d → Rep K F' v d
  | _, _, .non => .non
  | _, _, .bl b => .bl b
  | _, _, .int i => .int i
  | _, _, .str s h => .str s h
  | _, _, .tup h r => .tup (e.t h) (Reps.mono e r)
  | _, _, .lst h r => .lst (e _ _ h) (Reps.mono e r)
  | _, _, .scr h => .scr (e.l h)
theorem Reps.mono (e : Sub F F') : ∀ {vs : List V} {ds : List D}, Reps K F vs ds → Reps K F' vs ds
  | _, _, .nil => .nil
  | _, _, .cons h r => .cons (Rep.mono e h) (Reps.mono e r)
end
theorem Reps.length : ∀ {vs : List V} {ds : List D}, Reps K F vs ds → vs.length = ds.length
  | _, _, .nil => rfl
  | _, _, .cons _ r => by simp [Reps.length r]
theorem Reps.append : ∀ {vs : List V} {ds : List D} {ws : List V} {es : List D}, Reps K F vs ds → Reps K F ws es → Reps K F (vs ++ ws) (ds ++ es)
  | _, _, _, _, .nil, s => s
  | _, _, _, _, .cons h r, s => .cons h (Reps.append r s)
theorem Reps.get : ∀ {vs : List V} {ds : List D} {i : Nat} {d : D}, Reps K F vs ds → ds[i]? = some d → ∃ v, vs[i]? = some v ∧ Rep K F v d
  | _, _, _, _, .nil, e => by simp at e
  | _, _, 0, _, .cons h _, e => by
    simp at e
    subst e
    exact ⟨_, rfl, h⟩
  | _, _, i + 1, d, .cons _ r, e => by
    obtain ⟨v, h1, h2⟩ := Reps.get (i := i) (d := d) r (by simpa using e)
    exact ⟨v, by simpa using h1, h2⟩
theorem Reps.get' : ∀ {vs : List V} {ds : List D} {i : Nat} {v : V}, Reps K F vs ds → vs[i]? = some v → ∃ d, ds[i]? = some d ∧ Rep K F v d
  | _, _, _, _, .nil, e => by simp at e
  | _, _, 0, _, .cons h _, e => by
    simp at e
    subst e
    exact ⟨_, rfl, h⟩
  | _, _, i + 1, v, .cons _ r, e => by
    obtain ⟨d, h1, h2⟩ := Reps.get' (i := i) (v := v) r (by simpa using e)
    exact ⟨d, by simpa using h1, h2⟩
theorem Reps.take : ∀ {vs : List V} {ds : List D} (n : Nat), Reps K F vs ds → Reps K F (vs.take n) (ds.take n)
  | _, _, 0, _ => by simpa using Reps.nil
  | _, _, n + 1, .nil => by simpa using Reps.nil
  | _, _, n + 1, .cons h r => by simpa using Reps.cons h (Reps.take n r)
theorem Reps.drop : ∀ {vs : List V} {ds : List D} (n : Nat), Reps K F vs ds → Reps K F (vs.drop n) (ds.drop n)
  | _, _, 0, r => by simpa using r
  | _, _, n + 1, .nil => by simpa using Reps.nil
  | _, _, n + 1, .cons h r => by simpa using Reps.drop n r
theorem Reps.set {v : V} {d : D} (h : Rep K F v d) : ∀ {vs : List V} {ds : List D} (i : Nat), Reps K F vs ds → Reps K F (vs.set i v) (ds.set i d)
  | _, _, _, .nil => by simpa using Reps.nil
  | _, _, 0, .cons _ r => by simpa using Reps.cons h r
  | _, _, i + 1, .cons q r => by simpa using Reps.cons q (Reps.set h i r)
theorem Reps.dropLast {vs : List V} {ds : List D} (r : Reps K F vs ds) : Reps K F vs.dropLast ds.dropLast := by
  rw [List.dropLast_eq_take, List.dropLast_eq_take, r.length]
  exact r.take _
theorem Reps.eraseIdx : ∀ {vs : List V} {ds : List D} (i : Nat), Reps K F vs ds → Reps K F (vs.eraseIdx i) (ds.eraseIdx i)
  | _, _, _, .nil => by simpa using Reps.nil
  | _, _, 0, .cons _ r => by simpa using r
  | _, _, i + 1, .cons q r => by simpa using Reps.cons q (Reps.eraseIdx i r)
theorem Reps.reverse {vs : List V} {ds : List D} (r : Reps K F vs ds) : Reps K F vs.reverse ds.reverse := by
  induction vs generalizing ds with
  | nil => cases r; exact .nil
  | cons v vs ih =>
    cases r with
    | cons h r =>
      rw [List.reverse_cons, List.reverse_cons]
      exact (ih r).append (.cons h .nil)

/-! ### the state -/
def OwnAt (ρ : En) (σ : L2.St) (a : Addr) : Prop := ∃ (i : Nat) (io : Bool) (ds : List D), ρ[i]? = some (Sl.own io ds) ∧ σ[i]? = some (some (.ref a))
/-- F: what stands still; the own lists lie outside of it -/
structure SR (K : PySem.W.Frag) (ρ : En) (σ : L2.St) (F H : Hp) : Prop where
  len : ρ.length = σ.length
  sub : Sub F H
  val : ∀ (i : Nat) (d : D), ρ[i]? = some (Sl.val d) → ∃ v, σ[i]? = some (some v) ∧ Rep K F v d
  own : ∀ (i : Nat) (io : Bool) (ds : List D), ρ[i]? = some (Sl.own io ds) → ∃ (p : Addr) (vs : List V), σ[i]? = some (some (.ref p)) ∧ H p = some (.lst vs) ∧ F p = none ∧ Reps K F vs ds
  dis : ∀ (i j : Nat) (io io' : Bool) (ds ds' : List D) (p : Addr), ρ[i]? = some (Sl.own io ds) → ρ[j]? = some (Sl.own io' ds') → σ[i]? = some (some (.ref p)) → σ[j]? = some (some (.ref p)) → i = j
structure Step (ρ : En) (σ : L2.St) (F H : Hp) (ρ' : En) (σ' : L2.St) (F' H' : Hp) : Prop where
  mono : Sub F F'
  keep : ∀ a o, H a = some o → ¬ OwnAt ρ σ a → H' a = some o ∧ F' a = F a ∧ ¬ OwnAt ρ' σ' a
  dom : ∀ a, H' a = none → H a = none
  io : ∀ (i : Nat) (ds : List D), ρ[i]? = some (Sl.own true ds) → σ'[i]? = σ[i]? ∧ ∃ ds' : List D, ρ'[i]? = some (Sl.own true ds')
  lenS : σ'.length = σ.length
theorem Step.refl (ρ : En) (σ : L2.St) (F H : Hp) : Step ρ σ F H ρ σ F H := ⟨Sub.refl F, fun a o h n => ⟨h, rfl, n⟩, fun _ h => h, fun i ds h => ⟨rfl, ds, h⟩, rfl⟩
theorem Step.trans {ρ ρ1 ρ2 : En} {σ σ1 σ2 : L2.St} {F F1 F2 H H1 H2 : Hp} (a : Step ρ σ F H ρ1 σ1 F1 H1) (b : Step ρ1 σ1 F1 H1 ρ2 σ2 F2 H2) : Step ρ σ F H ρ2 σ2 F2 H2 where
  mono := a.mono.trans b.mono
  keep := fun x o h n => by
    obtain ⟨h1, f1, n1⟩ := a.keep x o h n
    obtain ⟨h2, f2, n2⟩ := b.keep x o h1 n1
    exact ⟨h2, f2.trans f1, n2⟩
  dom := fun x h => a.dom x (b.dom x h)
  io := fun i ds h => by
    obtain ⟨e1, ds1, h1⟩ := a.io i ds h
    obtain ⟨e2, ds2, h2⟩ := b.io i ds1 h1
    exact ⟨e2.trans e1, ds2, h2⟩
  lenS := b.lenS.trans a.lenS
/-- the heap grows; nothing that stood changes -/
structure Grow (F H F' H' : Hp) : Prop where
  hh : Sub H H'
  ff : Sub F F'
  fh : Sub F' H'
  new : ∀ a, H a ≠ none → F' a = F a
theorem Grow.refl {F H : Hp} (e : Sub F H) : Grow F H F H := ⟨Sub.refl H, Sub.refl F, e, fun _ _ => rfl⟩
theorem Grow.trans {F H F1 H1 F2 H2 : Hp} (a : Grow F H F1 H1) (b : Grow F1 H1 F2 H2) : Grow F H F2 H2 :=
  ⟨a.hh.trans b.hh, a.ff.trans b.ff, b.fh, fun x h => by
    have h1 : H1 x ≠ none := by
      cases e : H x with
      | none => exact absurd e h
      | some o => rw [a.hh x o e]; exact fun z => nomatch z
    exact (b.new x h1).trans (a.new x h)⟩
theorem Grow.dom {F H F' H' : Hp} (g : Grow F H F' H') {a : Addr} (h : H' a = none) : H a = none := by
  cases e : H a with
  | none => rfl
  | some o => rw [g.hh a o e] at h; cases h
theorem Grow.sr {ρ : En} {σ : L2.St} {F H F' H' : Hp} (g : Grow F H F' H') (s : SR K ρ σ F H) : SR K ρ σ F' H' where
  len := s.len
  sub := g.fh
  val := fun i d h => by
    obtain ⟨v, e, r⟩ := s.val i d h
    exact ⟨v, e, r.mono g.ff⟩
  own := fun i io ds h => by
    obtain ⟨p, vs, e, hp, fp, r⟩ := s.own i io ds h
    exact ⟨p, vs, e, g.hh p _ hp, (g.new p (by rw [hp]; exact fun z => nomatch z)).trans fp, r.mono g.ff⟩
  dis := s.dis
theorem Grow.step {ρ : En} {σ : L2.St} {F H F' H' : Hp} (g : Grow F H F' H') : Step ρ σ F H ρ σ F' H' :=
  ⟨g.ff, fun a o h n => ⟨g.hh a o h, g.new a (by rw [h]; exact fun z => nomatch z), n⟩, fun _ h => g.dom h, fun i ds h => ⟨rfl, ds, h⟩, rfl⟩
/-- a new object that stands still -/
theorem Grow.frz {F H : Hp} {p : Addr} {o : HO} (e : Sub F H) (h : H p = none) : Grow F H (upd F p o) (upd H p o) where
  hh := fun a u q => by rw [upd_ne (ne_of_none q h)]; exact q
  ff := fun a u q => by rw [upd_ne (ne_of_none (e a u q) h)]; exact q
  fh := fun a u q => by
    by_cases z : a = p
    · subst z
      rw [upd_same] at q ⊢
      exact q
    · rw [upd_ne z] at q ⊢
      exact e a u q
  new := fun a q => upd_ne fun z => q (by rw [z]; exact h)
/-- a new object that is left open -/
theorem Grow.opn {F H : Hp} {p : Addr} {o : HO} (e : Sub F H) (h : H p = none) : Grow F H F (upd H p o) where
  hh := fun a u q => by rw [upd_ne (ne_of_none q h)]; exact q
  ff := Sub.refl F
  fh := fun a u q => by rw [upd_ne (ne_of_none (e a u q) h)]; exact e a u q
  new := fun _ _ => rfl
end
end VL

set_option maxRecDepth 100000
/-! VL1: readings by data: T (expressions), TT (tests), argument lists; operators and built-ins by plain functions of data. -/
namespace VL
open PySem L2

theorem pe_weak {X : Cx} {e : Expr} {t t' : TE} (h : PE X e t) (w : ∀ σ H Q, t' σ H Q → t σ H Q) : PE X e t' := ⟨fun pins s σ H Q I q => h.run pins s σ H Q I (w σ H Q q)⟩
theorem pt_weak {X : Cx} {e : Expr} {t t' : TT} (h : PT X e t) (w : ∀ σ H Q, t' σ H Q → t σ H Q) : PT X e t' := ⟨fun pins s σ H Q I q => h.run pins s σ H Q I (w σ H Q q)⟩
theorem pw_weak {X : Cx} {e : Expr} {t t' : TT} (h : PW X e t) (w : ∀ σ H Q, t' σ H Q → t σ H Q) : PW X e t' := ⟨fun wh pins s σ H Q I q => h.run wh pins s σ H Q I (w σ H Q q)⟩
theorem pa_weak {X : Cx} {es : List Expr} {t t' : TA} (h : PA X es t) (w : ∀ σ H Q, t' σ H Q → t σ H Q) : PA X es t' := ⟨fun pos pins s σ H Q I q => h.run pos pins s σ H Q I (w σ H Q q)⟩
theorem ps_weak {X : Cx} {e : Stmt} {t t' : TS} (h : PS X e t) (w : ∀ D σ H, t' D σ H → t D σ H) : PS X e t' := ⟨fun pins s σ H Q I q => h.run pins s σ H Q I (w Q σ H q)⟩
theorem pss_weak {X : Cx} {e : List Stmt} {t t' : TS} (h : PSs X e t) (w : ∀ D σ H, t' D σ H → t D σ H) : PSs X e t' := ⟨fun pins s σ H Q I q => h.run pins s σ H Q I (w Q σ H q)⟩
theorem pi_weak {X : Cx} {tg e : Expr} {t t' : TI} (h : PI X tg e t) (w : ∀ σ H Q, t' σ H Q → t σ H Q) : PI X tg e t' := ⟨fun pins s σ H Q I q => h.run pins s σ H Q I (w σ H Q q)⟩
theorem pg_weak {X : Cx} {tg : Expr} {t t' : TG} (h : PG X tg t) (w : ∀ v σ H Q, t' v σ H Q → t v σ H Q) : PG X tg t' := ⟨fun pins s σ H v u Q I r q => h.run pins s σ H v u Q I r (w v σ H Q q)⟩
theorem pgs_weak {X : Cx} {tg : List Expr} {t t' : TGs} (h : PGs X tg t) (w : ∀ v σ H Q, t' v σ H Q → t v σ H Q) : PGs X tg t' := ⟨fun pins s σ H v u Q I r q => h.run pins s σ H v u Q I r (w v σ H Q q)⟩

def RepR (K : PySem.W.Frag) (ρ : En) (σ : L2.St) (F H H0 : Hp) (v : V) : R → Prop
  | .val d => Rep K F v d
  | .fresh ds => ∃ (p : Addr) (vs : List V), v = .ref p ∧ H0 p = none ∧ H p = some (.lst vs) ∧ F p = none ∧ ¬ OwnAt ρ σ p ∧ Reps K F vs ds
  | .slot i => σ[i]? = some (some v) ∧ ∃ (io : Bool) (ds : List D), ρ[i]? = some (Sl.own io ds)
theorem RepR.back {K : PySem.W.Frag} {ρ : En} {σ : L2.St} {F H H0 H1 : Hp} {v : V} {r : R} (h : RepR K ρ σ F H H1 v r) (d : ∀ a, H1 a = none → H0 a = none) : RepR K ρ σ F H H0 v r := by
  cases r with
  | val _ => exact h
  | fresh ds =>
    obtain ⟨p, vs, e, h0, r⟩ := h
    exact ⟨p, vs, e, d p h0, r⟩
  | slot _ => exact h
/-- of an operation's own result -/
def RsP (K : PySem.W.Frag) (F H H0 : Hp) (v : V) : R → Prop
  | .val d => Rep K F v d
  | .fresh ds => ∃ (p : Addr) (vs : List V), v = .ref p ∧ H0 p = none ∧ H p = some (.lst vs) ∧ F p = none ∧ Reps K F vs ds
  | .slot _ => False

section
variable (K : PySem.W.Frag) (ct : Nat → Addr × Str) (E : L2.St → XK)
/-- what an exception is to bring -/
def ExP (c : Nat) (d : D) (ρ' ρ : En) (σ : L2.St) (F H : Hp) : Prop :=
  ∀ (σ' : L2.St) (F' H' : Hp) (v : V) (dx : Addr), SR K ρ' σ' F' H' → Step ρ σ F H ρ' σ' F' H' → Rep K F' v d → H dx = none → H' dx = some (.xd [((ct c).2, v)]) → E σ' (.ref (ct c).1) (some dx) H'
def RunG {α : Type} (r : Res α) (ρ : En) (σ : L2.St) (F H : Hp) (P : α → En → Hp → Hp → Prop) : Prop := match r with
  | .ok a ρ' => ∀ F' H', SR K ρ' σ F' H' → Step ρ σ F H ρ' σ F' H' → P a ρ' F' H'
  | .exn c d ρ' => ExP K ct E c d ρ' ρ σ F H
  | .bad => False
def T (f : M R) : TE := fun σ H Q => ∃ ρ F, SR K ρ σ F H ∧ RunG K ct E (f ρ) ρ σ F H fun r ρ' F' H' => ∀ v, RepR K ρ' σ F' H' H v r → Q v H'
def Tt (f : M Bool) : TT := fun σ H Q => ∃ ρ F, SR K ρ σ F H ∧ RunG K ct E (f ρ) ρ σ F H fun b _ _ H' => Q b H'
end
section
variable {K : PySem.W.Frag} {ct : Nat → Addr × Str} {E : L2.St → XK} {ρ ρ1 : En} {σ : L2.St} {F F1 H H1 : Hp}
theorem ExP.step {c : Nat} {d : D} {ρ' : En} (st : Step ρ σ F H ρ1 σ F1 H1) (h : ExP K ct E c d ρ' ρ σ F H) : ExP K ct E c d ρ' ρ1 σ F1 H1 :=
  fun σ' F' H' v dx s t r n x => h σ' F' H' v dx s (st.trans t) r (st.dom dx n) x
theorem RunG.step {α : Type} {r : Res α} {P : α → En → Hp → Hp → Prop} (h : RunG K ct E r ρ σ F H P) (st : Step ρ σ F H ρ1 σ F1 H1) : RunG K ct E r ρ1 σ F1 H1 P := by
  cases r with
  | ok a ρ' => exact fun F' H' s t => h F' H' s (st.trans t)
  | exn c d ρ' => exact ExP.step st h
  | bad => exact h
/-- a step, then the rest -/
theorem RunG.bind {α β : Type} {r : Res α} {k : α → M β} {P : β → En → Hp → Hp → Prop} (h : RunG K ct E (r.bind k) ρ σ F H P) :
    RunG K ct E r ρ σ F H fun a ρ1 F1 H1 => SR K ρ1 σ F1 H1 ∧ Step ρ σ F H ρ1 σ F1 H1 ∧ RunG K ct E (k a ρ1) ρ1 σ F1 H1 P := by
  cases r with
  | ok a ρ' => exact fun F' H' s t => ⟨s, t, RunG.step h t⟩
  | exn c d ρ' => exact h
  | bad => exact h
theorem RunG.imp {α : Type} {r : Res α} {P P' : α → En → Hp → Hp → Prop} (h : RunG K ct E r ρ σ F H P) (w : ∀ a ρ' F' H', SR K ρ' σ F' H' → Step ρ σ F H ρ' σ F' H' → P a ρ' F' H' → P' a ρ' F' H') : RunG K ct E r ρ σ F H P' := by
  cases r with
  | ok a ρ' => exact fun F' H' s t => w a ρ' F' H' s t (h F' H' s t)
  | exn c d ρ' => exact h
  | bad => exact h
theorem RunG.ok {α : Type} {a : α} {P : α → En → Hp → Hp → Prop} (h : RunG K ct E (.ok a ρ) ρ σ F H P) (s : SR K ρ σ F H) (g : Grow F H F1 H1) : P a ρ F1 H1 := h F1 H1 (g.sr s) g.step
end

/-! ### operands -/
/-- an operand: a value, or an own list that is only looked at -/
inductive Od where
  | val (d : D) | slot (i : Nat)
def OdR (K : PySem.W.Frag) (σ : L2.St) (F : Hp) (v : V) : Od → Prop
  | .val d => Rep K F v d
  | .slot i => σ[i]? = some (some v)
theorem OdR.mono {K : PySem.W.Frag} {σ : L2.St} {F F' : Hp} {v : V} {o : Od} (e : Sub F F') (h : OdR K σ F v o) : OdR K σ F' v o := by
  cases o with
  | val d => exact Rep.mono e h
  | slot i => exact h
def rdO : Od → En → Option D
  | .val d, _ => some d
  | .slot i, ρ => match ρ[i]? with
    | some (.own _ ds) => some (.lst ds)
    | some (.val d) => some d
    | _ => none
/-- a list may lie open, its items stand still -/
def ShR (K : PySem.W.Frag) (F H : Hp) (v : V) : D → Prop
  | .lst ds => ∃ (a : Addr) (vs : List V), v = .ref a ∧ H a = some (.lst vs) ∧ Reps K F vs ds
  | .scr ns => Rep K F v (.scr ns)
  | .non => Rep K F v .non
  | .bl b => Rep K F v (.bl b)
  | .int i => Rep K F v (.int i)
  | .str s => Rep K F v (.str s)
  | .tup ds => Rep K F v (.tup ds)
section
variable {K : PySem.W.Frag} {ct : Nat → Addr × Str} {E : L2.St → XK} {ρ ρ1 : En} {σ : L2.St} {F F1 H H1 : Hp}
theorem Rep.sh (e : Sub F H) {v : V} {d : D} (r : Rep K F v d) : ShR K F H v d := by
  cases r with
  | lst h r => exact ⟨_, _, rfl, e _ _ h, r⟩
  | scr h => exact .scr h
  | non => exact .non
  | bl b => exact .bl b
  | int i => exact .int i
  | str s h => exact .str s h
  | tup h r => exact .tup h r
theorem ShR.rep (e : Sub F H) {v : V} {d : D} (r : ShR K F H v d) : Rep K H v d := by
  cases d with
  | lst ds =>
    obtain ⟨a, vs, rfl, h, r⟩ := r
    exact .lst h (r.mono e)
  | non => exact Rep.mono e r
  | bl b => exact Rep.mono e r
  | int i => exact Rep.mono e r
  | str s => exact Rep.mono e r
  | tup ds => exact Rep.mono e r
  | scr ds => exact Rep.mono e r
theorem rd_sh (s : SR K ρ σ F H) {v : V} {o : Od} {d : D} (h : OdR K σ F v o) (e : rdO o ρ = some d) : ShR K F H v d := by
  cases o with
  | val d' =>
    cases e
    exact Rep.sh s.sub h
  | slot i =>
    have h : σ[i]? = some (some v) := h
    cases q : ρ[i]? with
    | none =>
      simp only [rdO, q] at e
      cases e
    | some sl =>
      cases sl with
      | un =>
        simp only [rdO, q] at e
        cases e
      | val d' =>
        simp only [rdO, q] at e
        cases e
        obtain ⟨v', e1, r⟩ := s.val i _ q
        rw [h] at e1
        cases e1
        exact Rep.sh s.sub r
      | own io ds =>
        simp only [rdO, q] at e
        cases e
        obtain ⟨p, vs, e1, hp, _, r⟩ := s.own i io ds q
        rw [h] at e1
        cases e1
        exact ⟨p, vs, rfl, hp, r⟩
/-- what is handed on as a value stands still from now on -/
def toV : R → M D
  | .val d => ret d
  | .fresh ds => ret (.lst ds)
  | .slot i => fun ρ => match ρ[i]? with
    | some (.own false ds) => .ok (.lst ds) (ρ.set i (.val (.lst ds)))
    | _ => .bad
def toO : R → M Od
  | .val d => ret (.val d)
  | .fresh ds => ret (.val (.lst ds))
  | .slot i => ret (.slot i)
/-- a new list is frozen -/
theorem freeze_new {H0 F0 : Hp} {ρ0 : En} {p : Addr} {vs : List V} {ds : List D} (s : SR K ρ σ F H) (st : Step ρ0 σ F0 H0 ρ σ F H) (h0 : H0 p = none) (hp : H p = some (.lst vs)) (fp : F p = none) (no : ¬ OwnAt ρ σ p) (r : Reps K F vs ds) :
    ∃ F1, SR K ρ σ F1 H ∧ Step ρ0 σ F0 H0 ρ σ F1 H ∧ Rep K F1 (.ref p) (.lst ds) := by
  have sub1 : Sub F (upd F p (.lst vs)) := fun a o q => by rw [upd_ne (ne_of_none q fp)]; exact q
  refine ⟨upd F p (.lst vs), ⟨s.len, fun a o q => ?_, fun i d q => ?_, fun i io es q => ?_, s.dis⟩, ⟨st.mono.trans sub1, fun a o q n => ?_, st.dom, st.io, st.lenS⟩, .lst upd_same (r.mono sub1)⟩
  · by_cases z : a = p
    · subst z
      rw [upd_same] at q
      cases q
      exact hp
    · rw [upd_ne z] at q
      exact s.sub a o q
  · obtain ⟨v, e, r⟩ := s.val i d q
    exact ⟨v, e, r.mono sub1⟩
  · obtain ⟨p', vs', e, hp', fp', r'⟩ := s.own i io es q
    have ne : p' ≠ p := fun z => no ⟨i, io, es, q, by rw [← z]; exact e⟩
    exact ⟨p', vs', e, hp', by rw [upd_ne ne]; exact fp', r'.mono sub1⟩
  · obtain ⟨k1, k2, k3⟩ := st.keep a o q n
    refine ⟨k1, ?_, k3⟩
    rw [upd_ne (ne_of_none q h0)]
    exact k2
/-- an own list is frozen -/
theorem freeze_own {i : Nat} {ds : List D} (s : SR K ρ σ F H) (q : ρ[i]? = some (Sl.own false ds)) :
    ∃ v F1, σ[i]? = some (some v) ∧ SR K (ρ.set i (.val (.lst ds))) σ F1 H ∧ Step ρ σ F H (ρ.set i (.val (.lst ds))) σ F1 H ∧ Rep K F1 v (.lst ds) := by
  obtain ⟨p, vs, e, hp, fp, r⟩ := s.own i _ _ q
  have sub1 : Sub F (upd F p (.lst vs)) := fun a o q => by rw [upd_ne (ne_of_none q fp)]; exact q
  have hi : i < ρ.length := (List.getElem?_eq_some_iff.mp q).1
  have other : ∀ (j : Nat) (x : Sl), (ρ.set i (.val (.lst ds)))[j]? = some x → (j = i ∧ x = .val (.lst ds)) ∨ (j ≠ i ∧ ρ[j]? = some x) := fun j x h => by
    by_cases z : j = i
    · subst z
      rw [List.getElem?_set_self hi] at h
      exact .inl ⟨rfl, (Option.some.inj h).symm⟩
    · rw [List.getElem?_set_ne (fun w => z w.symm)] at h
      exact .inr ⟨z, h⟩
  have rep : Rep K (upd F p (.lst vs)) (.ref p) (.lst ds) := .lst upd_same (r.mono sub1)
  refine ⟨.ref p, upd F p (.lst vs), e, ⟨by rw [List.length_set]; exact s.len, fun a o q => ?_, fun j d h => ?_, fun j io es h => ?_, fun j k io io' es es' a h1 h2 => ?_⟩, ⟨sub1, fun a o h n => ⟨h, ?_, fun w => ?_⟩, fun _ h => h, fun j es h => ⟨rfl, es, ?_⟩, rfl⟩, rep⟩
  · by_cases z : a = p
    · subst z
      rw [upd_same] at q
      cases q
      exact hp
    · rw [upd_ne z] at q
      exact s.sub a o q
  · rcases other j _ h with ⟨rfl, z⟩ | ⟨z, h⟩
    · cases z
      exact ⟨_, e, rep⟩
    · obtain ⟨v, e, r⟩ := s.val j d h
      exact ⟨v, e, r.mono sub1⟩
  · rcases other j _ h with ⟨rfl, z⟩ | ⟨z, h⟩
    · cases z
    · obtain ⟨p', vs', e', hp', fp', r'⟩ := s.own j io es h
      have ne : p' ≠ p := fun w => z (s.dis j i _ _ _ _ p h q (by rw [← w]; exact e') e)
      exact ⟨p', vs', e', hp', by rw [upd_ne ne]; exact fp', r'.mono sub1⟩
  · rcases other j _ h1 with ⟨rfl, z⟩ | ⟨z, h1⟩
    · cases z
    · rcases other k _ h2 with ⟨z1, z2⟩ | ⟨z2, h2⟩
      · cases z2
      · exact s.dis j k _ _ _ _ a h1 h2
  · exact upd_ne fun z => n ⟨i, _, _, q, by rw [z]; exact e⟩
  · obtain ⟨j, io, es, h1, h2⟩ := w
    rcases other j _ h1 with ⟨rfl, z⟩ | ⟨z, h1⟩
    · cases z
    · exact n ⟨j, io, es, h1, h2⟩
  · have z : j ≠ i := fun w => by
      subst w
      rw [q] at h
      cases h
    rw [List.getElem?_set_ne (fun w => z w.symm)]
    exact h
/-- an expression, its result as a value, then the rest -/
theorem T_v {β : Type} {fa : M R} {k : D → M β} {P : β → En → Hp → Hp → Prop} (s : SR K ρ σ F H) (h : RunG K ct E (bnd fa (fun r => bnd (toV r) k) ρ) ρ σ F H P) :
    T K ct E fa σ H fun v H1 => ∃ d ρ1 F1, SR K ρ1 σ F1 H1 ∧ Rep K F1 v d ∧ Step ρ σ F H ρ1 σ F1 H1 ∧ RunG K ct E (k d ρ1) ρ1 σ F1 H1 P := by
  refine ⟨ρ, F, s, ?_⟩
  cases q : fa ρ with
  | bad => rw [show bnd fa (fun r => bnd (toV r) k) ρ = .bad from by unfold bnd; rw [q]; rfl] at h; exact h
  | exn c d ρ' => rw [show bnd fa (fun r => bnd (toV r) k) ρ = .exn c d ρ' from by unfold bnd; rw [q]; rfl] at h; exact h
  | ok r ρ' =>
    rw [show bnd fa (fun r => bnd (toV r) k) ρ = bnd (toV r) k ρ' from by unfold bnd; rw [q]; rfl] at h
    intro F' H' s' st v rr
    cases r with
    | val d => exact ⟨d, ρ', F', s', rr, st, RunG.step h st⟩
    | fresh ds =>
      obtain ⟨p, vs, rfl, h0, hp, fp, no, r⟩ := rr
      obtain ⟨F1, s1, st1, r1⟩ := freeze_new s' st h0 hp fp no r
      exact ⟨.lst ds, ρ', F1, s1, r1, st1, RunG.step h st1⟩
    | slot i =>
      obtain ⟨e, io, ds, q2⟩ := rr
      cases io with
      | true =>
        rw [show bnd (toV (.slot i)) k ρ' = .bad from by simp only [bnd, toV, q2, Res.bind]] at h
        exact h.elim
      | false =>
        rw [show bnd (toV (.slot i)) k ρ' = k (.lst ds) (ρ'.set i (.val (.lst ds))) from by simp only [bnd, toV, q2, Res.bind]] at h
        obtain ⟨v', F1, e1, s1, st1, r1⟩ := freeze_own s' q2
        rw [e] at e1
        cases e1
        exact ⟨.lst ds, _, F1, s1, r1, st.trans st1, RunG.step h (st.trans st1)⟩
/-- an expression, its result as an operand, then the rest -/
theorem T_o {β : Type} {fa : M R} {k : Od → M β} {P : β → En → Hp → Hp → Prop} (s : SR K ρ σ F H) (h : RunG K ct E (bnd fa (fun r => bnd (toO r) k) ρ) ρ σ F H P) :
    T K ct E fa σ H fun v H1 => ∃ o ρ1 F1, SR K ρ1 σ F1 H1 ∧ OdR K σ F1 v o ∧ Step ρ σ F H ρ1 σ F1 H1 ∧ RunG K ct E (k o ρ1) ρ1 σ F1 H1 P := by
  refine ⟨ρ, F, s, ?_⟩
  cases q : fa ρ with
  | bad => rw [show bnd fa (fun r => bnd (toO r) k) ρ = .bad from by unfold bnd; rw [q]; rfl] at h; exact h
  | exn c d ρ' => rw [show bnd fa (fun r => bnd (toO r) k) ρ = .exn c d ρ' from by unfold bnd; rw [q]; rfl] at h; exact h
  | ok r ρ' =>
    rw [show bnd fa (fun r => bnd (toO r) k) ρ = bnd (toO r) k ρ' from by unfold bnd; rw [q]; rfl] at h
    intro F' H' s' st v rr
    cases r with
    | val d => exact ⟨.val d, ρ', F', s', rr, st, RunG.step h st⟩
    | fresh ds =>
      obtain ⟨p, vs, rfl, h0, hp, fp, no, r⟩ := rr
      obtain ⟨F1, s1, st1, r1⟩ := freeze_new s' st h0 hp fp no r
      exact ⟨.val (.lst ds), ρ', F1, s1, r1, st1, RunG.step h st1⟩
    | slot i => exact ⟨.slot i, ρ', F', s', rr.1, st, RunG.step h st⟩
/-- an operation's end -/
theorem fin {r : R} {Q : VK} {H0 : Hp} (s : SR K ρ σ F H) (d : ∀ a, H a = none → H0 a = none) (h : RunG K ct E (.ok r ρ) ρ σ F H fun r ρ' F' H' => ∀ v, RepR K ρ' σ F' H' H0 v r → Q v H') :
    ∀ v F' H', Grow F H F' H' → RsP K F' H' H v r → Q v H' := fun v F' H' g rs => by
  refine RunG.ok h s g v ?_
  cases r with
  | val d => exact rs
  | fresh ds =>
    obtain ⟨p, vs, e, h0, hp, fp, r⟩ := rs
    refine ⟨p, vs, e, d p h0, hp, fp, fun ⟨i, io, es, q1, q2⟩ => ?_, r⟩
    obtain ⟨p', vs', e', hp', _⟩ := s.own i io es q1
    rw [e'] at q2
    cases q2
    rw [h0] at hp'
    cases hp'
  | slot i => exact rs.elim
end

/-! ### names, constants, operators -/
def var (i : Nat) : M R := fun ρ => match ρ[i]? with
  | some (.val d) => .ok (.val d) ρ
  | some (.own _ _) => .ok (.slot i) ρ
  | _ => .bad
def cst (d : D) : M R := ret (.val d)
def fin2 (g : D → D → Option R) (a b : Od) : M R := fun ρ => match rdO a ρ, rdO b ρ with
  | some x, some y => (match g x y with
    | some r => .ok r ρ
    | none => .bad)
  | _, _ => .bad
def op2 (g : D → D → Option R) (fa fb : M R) : M R := bnd fa fun ra => bnd (toO ra) fun a => bnd fb fun rb => bnd (toO rb) fun b => fin2 g a b
def fin1 (g : D → Option R) (a : Od) : M R := fun ρ => match rdO a ρ with
  | some x => (match g x with
    | some r => .ok r ρ
    | none => .bad)
  | _ => .bad
def op1 (g : D → Option R) (fa : M R) : M R := bnd fa fun ra => bnd (toO ra) fun a => fin1 g a
/-- a rule of the hand layer does what a function of data says -/
def Op2 (K : PySem.W.Frag) (r : R2) (g : D → D → Option R) : Prop := ∀ (F H : Hp) (vx vy : V) (x y : D) (res : R) (Q : VK), Sub F H → ShR K F H vx x → ShR K F H vy y → g x y = some res → (∀ v F' H', Grow F H F' H' → RsP K F' H' H v res → Q v H') → r vx vy H Q
def Op1 (K : PySem.W.Frag) (r : V → Hp → VK → Prop) (g : D → Option R) : Prop := ∀ (F H : Hp) (vx : V) (x : D) (res : R) (Q : VK), Sub F H → ShR K F H vx x → g x = some res → (∀ v F' H', Grow F H F' H' → RsP K F' H' H v res → Q v H') → r vx H Q
section
variable {X : Cx} {ct : Nat → Addr × Str} {E : L2.St → XK} {a b c e : Expr} {fa fb fc : M R} {pos : Pos}
theorem k_var (i : Nat) {x : Str} (hN : X.N[i]? = some x := by rfl) (hv : Vis X.env.scope x := by first | exact Or.inl rfl | exact Or.inr (Or.inl rfl) | exact Or.inr (Or.inr rfl)) (hd : (x == ("__debug__" : Str)) = false := by decide)
    (hcd : (x == ("__classdict__" : Str)) = false := by decide) : PE X (.Name x pos) (T X.K ct E (var i)) := pe_weak (pe_var hN hv hd hcd) fun σ H Q ⟨ρ, F, s, h⟩ => by
  unfold var at h
  split at h
  · rename_i d q
    obtain ⟨v, e, r⟩ := s.val i d q
    exact ⟨v, e, h F H s (Step.refl ..) v r⟩
  · rename_i io ds q
    obtain ⟨p, vs, e, r⟩ := s.own i io ds q
    exact ⟨_, e, h F H s (Step.refl ..) _ ⟨e, io, ds, q⟩⟩
  · exact h.elim
theorem k_c {t : V} {d : D} (h : PE X e (tC t)) (r : Rep X.K (fun _ => none) t d) : PE X e (T X.K ct E (cst d)) := pe_weak h fun σ H Q ⟨ρ, F, s, h⟩ => h F H s (Step.refl ..) t (r.mono fun _ _ z => by cases z)
theorem k_int {i j pos} : PE X (.Constant (.int i) j pos) (T X.K ct E (cst (.int i))) := k_c pe_int (.int i)
theorem k_bl {i j pos} : PE X (.Constant (.bool i) j pos) (T X.K ct E (cst (.bl i))) := k_c pe_bl (.bl i)
theorem k_non {j pos} : PE X (.Constant .none j pos) (T X.K ct E (cst .non)) := k_c pe_non .non
theorem k_str {x j pos} (h : x.length ≤ 100 := by decide +kernel) : PE X (.Constant (.str x) j pos) (T X.K ct E (cst (.str x))) := k_c pe_str (.str x (Nat.le_trans h (by rw [sizeLine_eq]; decide)))
/-- two operands -/
theorem op2_run {r : R2} {g : D → D → Option R} (o : Op2 X.K r g) (σ : L2.St) (H : Hp) (Q : VK) (h : T X.K ct E (op2 g fa fb) σ H Q) : tOp r (T X.K ct E fa) (T X.K ct E fb) σ H Q := by
  obtain ⟨ρ, F, s, h⟩ := h
  obtain ⟨ρ0, F0, s0, h0⟩ := T_o s h
  refine ⟨ρ0, F0, s0, RunG.imp h0 fun r1 ρ1 F1 H1 s1 st1 k v rr => ?_⟩
  obtain ⟨oa, ρ2, F2, s2, ra, st2, h2⟩ := k v rr
  obtain ⟨ρ3, F3, s3, h3⟩ := T_o s2 h2
  refine ⟨ρ3, F3, s3, RunG.imp h3 fun r4 ρ4 F4 H4 s4 st4 k4 w rw' => ?_⟩
  obtain ⟨ob, ρ5, F5, s5, rb, st5, h5⟩ := k4 w rw'
  have ra5 : OdR X.K σ F5 v oa := ra.mono st5.mono
  unfold fin2 at h5
  split at h5
  · rename_i x y e1 e2
    split at h5
    · rename_i res e3
      refine o F5 H4 v w x y res Q s5.sub (rd_sh s5 ra5 e1) (rd_sh s5 rb e2) e3 (fin s5 (fun a z => st2.dom a (st5.dom a z)) h5)
    · exact h5.elim
  · exact h5.elim
theorem op1_run {r : V → Hp → VK → Prop} {g : D → Option R} (o : Op1 X.K r g) (σ : L2.St) (H : Hp) (Q : VK) (h : T X.K ct E (op1 g fa) σ H Q) : tUn r (T X.K ct E fa) σ H Q := by
  obtain ⟨ρ, F, s, h⟩ := h
  obtain ⟨ρ0, F0, s0, h0⟩ := T_o s h
  refine ⟨ρ0, F0, s0, RunG.imp h0 fun r1 ρ1 F1 H1 s1 st1 k v rr => ?_⟩
  obtain ⟨oa, ρ2, F2, s2, ra, st2, h2⟩ := k v rr
  unfold fin1 at h2
  split at h2
  · rename_i x e1
    split at h2
    · rename_i res e3
      exact o F2 H1 v x res Q s2.sub (rd_sh s2 ra e1) e3 (fin s2 (fun a z => st2.dom a z) h2)
    · exact h2.elim
  · exact h2.elim
theorem k_op {op : Operator} {r : R2} {g : D → D → Option R} (ho : OpR X (binaryOp op) r) (o : Op2 X.K r g) (ha : PE X a (T X.K ct E fa)) (hb : PE X b (T X.K ct E fb)) : PE X (.BinOp a op b pos) (T X.K ct E (op2 g fa fb)) :=
  pe_weak (pe_op ho ha hb) fun σ H Q h => op2_run o σ H Q h
theorem k_un {op : UnaryOp} {r : V → Hp → VK → Prop} {g : D → Option R} (ho : UnR X (unaryOp op) r) (o : Op1 X.K r g) (ha : PE X a (T X.K ct E fa)) : PE X (.UnaryOp op a pos) (T X.K ct E (op1 g fa)) :=
  pe_weak (pe_un ho ha) fun σ H Q h => op1_run o σ H Q h
theorem k_cmp {op : CmpOp} {r : R2} {g : D → D → Option R} (ho : OpR X (compareOp op) r) (o : Op2 X.K r g) (ha : PE X a (T X.K ct E fa)) (hb : PE X b (T X.K ct E fb)) (hm : behindInMarks op b = false) : PE X (.Compare a [op] [b] pos) (T X.K ct E (op2 g fa fb)) :=
  pe_weak (pe_cmpR ho ha hb hm) fun σ H Q h => op2_run o σ H Q h
theorem k_ix {r : R2} {g : D → D → Option R} (ho : IxR X r) (o : Op2 X.K r g) (ha : PE X a (T X.K ct E fa)) (hb : PE X b (T X.K ct E fb)) (hs : PlainIx b := by intro _ _; rfl) : PE X (.Subscript a b pos) (T X.K ct E (op2 g fa fb)) :=
  pe_weak (pe_ix ho ha hb hs) fun σ H Q h => op2_run o σ H Q h
end
end VL

set_option maxRecDepth 100000
/-! VL2: tests, and | or | not, conditional expressions, chains; argument lists, displays, calls of built-ins, methods. -/
namespace VL
open PySem L2

theorem bnd_assoc {α β γ : Type} (f : M α) (g : α → M β) (h : β → M γ) : bnd (bnd f g) h = bnd f fun a => bnd (g a) h := by
  funext ρ
  simp only [bnd]
  cases f ρ <;> rfl
/-! ### tests -/
def truthD : D → Option Bool
  | .non => some false
  | .bl b => some b
  | .int i => some (i != 0)
  | .str s => some ((s.length : Int) != 0)
  | .tup ds => some (!ds.isEmpty)
  | .lst ds => some (!ds.isEmpty)
  | .scr _ => none
def finT (a : Od) : M Bool := fun ρ => match rdO a ρ with
  | some x => (match truthD x with
    | some b => .ok b ρ
    | none => .bad)
  | _ => .bad
def tru (fa : M R) : M Bool := bnd fa fun ra => bnd (toO ra) fun a => finT a
def asB : R → M Bool
  | .val (.bl b) => ret b
  | _ => fun _ => .bad
def tvl (fa : M R) : M Bool := bnd fa asB
def tand (a b : M Bool) : M Bool := bnd a fun c => match c with
  | true => b
  | false => ret false
def tor (a b : M Bool) : M Bool := bnd a fun c => match c with
  | true => ret true
  | false => b
def tnot (a : M Bool) : M Bool := bnd a fun c => ret (!c)
def ife (t : M Bool) (a b : M R) : M R := bnd t fun c => match c with
  | true => a
  | false => b
section
variable {K : PySem.W.Frag} {F H : Hp}
theorem Reps.isEmpty : ∀ {vs : List V} {ds : List D}, Reps K F vs ds → (!vs.isEmpty) = !ds.isEmpty
  | _, _, .nil => rfl
  | _, _, .cons _ _ => rfl
theorem truth_ok {v : V} {d : D} {b : Bool} (e : Sub F H) (r : ShR K F H v d) (t : truthD d = some b) : TruV K v H b := by
  cases d with
  | non =>
    have r : Rep K F v .non := r
    cases r
    cases t
    rfl
  | bl k =>
    have r : Rep K F v (.bl k) := r
    cases r
    cases t
    rfl
  | int i =>
    have r : Rep K F v (.int i) := r
    cases r
    cases t
    rfl
  | str s =>
    have r : Rep K F v (.str s) := r
    cases r with
    | str _ hl =>
      cases t
      exact ⟨hl, rfl⟩
  | tup ds =>
    have r : Rep K F v (.tup ds) := r
    cases r with
    | tup h r =>
      cases t
      exact .inr (.inl ⟨_, e.t h, r.isEmpty.symm⟩)
  | lst ds =>
    obtain ⟨a, vs, rfl, h, r⟩ := r
    cases t
    exact .inl ⟨_, .of h, r.isEmpty.symm⟩
  | scr ns => cases t
end
section
variable {X : Cx} {ct : Nat → Addr × Str} {E : L2.St → XK} {a b c e : Expr} {fa fb fc : M R} {ga gb : M Bool} {pos : Pos} {rest : List Expr}
theorem Tt_bind {K : PySem.W.Frag} {ρ : En} {σ : L2.St} {F H : Hp} {β : Type} {g : M Bool} {k : Bool → M β} {P : β → En → Hp → Hp → Prop} (s : SR K ρ σ F H) (h : RunG K ct E (bnd g k ρ) ρ σ F H P) :
    Tt K ct E g σ H fun c H1 => ∃ ρ1 F1, SR K ρ1 σ F1 H1 ∧ Step ρ σ F H ρ1 σ F1 H1 ∧ RunG K ct E (k c ρ1) ρ1 σ F1 H1 P :=
  ⟨ρ, F, s, RunG.imp (RunG.bind h) fun a ρ1 F1 H1 _ _ ⟨s1, st1, h1⟩ => ⟨ρ1, F1, s1, st1, h1⟩⟩
theorem k_truth (ha : PE X a (T X.K ct E fa)) (he : ∀ whole, isTrue a X.env whole = (do let v ← whole; standAt a.pos; holding [v] (truthy v)) := by intro _; rfl) : PT X a (Tt X.K ct E (tru fa)) :=
  pt_weak (pt_truth ha he) fun σ H Q ⟨ρ, F, s, h⟩ => by
    obtain ⟨ρ0, F0, s0, h0⟩ := T_o s h
    refine ⟨ρ0, F0, s0, RunG.imp h0 fun r1 ρ1 F1 H1 s1 st1 k v rr => ?_⟩
    obtain ⟨oa, ρ2, F2, s2, ra, st2, h2⟩ := k v rr
    unfold finT at h2
    split at h2
    · rename_i x e1
      split at h2
      · rename_i bb e2
        exact ⟨bb, truth_ok s2.sub (rd_sh s2 ra e1) e2, h2 _ _ s2 (Step.refl ..)⟩
      · exact h2.elim
    · exact h2.elim
theorem tvl_run (σ : L2.St) (H : Hp) (Q : Bool → Hp → Prop) (h : Tt X.K ct E (tvl fa) σ H Q) : tTest (T X.K ct E fa) σ H Q := by
  obtain ⟨ρ, F, s, h⟩ := h
  refine ⟨ρ, F, s, RunG.imp (RunG.bind h) fun r ρ1 F1 H1 _ _ ⟨s1, st1, h1⟩ v rr => ?_⟩
  cases r with
  | fresh ds => exact h1.elim
  | slot i => exact h1.elim
  | val d =>
    cases d with
    | bl bb =>
      have rr : Rep X.K F1 v (.bl bb) := rr
      cases rr
      exact ⟨bb, rfl, h1 F1 H1 s1 (Step.refl ..)⟩
    | non => exact h1.elim
    | int i => exact h1.elim
    | str i => exact h1.elim
    | tup i => exact h1.elim
    | lst i => exact h1.elim
    | scr i => exact h1.elim
theorem k_tcmp {op : CmpOp} {r : R2} {g : D → D → Option R} (ho : OpR X (compareOp op) r) (o : Op2 X.K r g) (ha : PE X a (T X.K ct E fa)) (hb : PE X b (T X.K ct E fb)) (hm : behindInMarks op b = false) : PT X (.Compare a [op] [b] pos) (Tt X.K ct E (tvl (op2 g fa fb))) :=
  pt_weak (pt_cmpR ho ha hb hm) fun σ H Q h => by
    obtain ⟨ρ, F, s, h⟩ := tvl_run (X := X) σ H Q h
    exact op2_run o σ H _ ⟨ρ, F, s, h⟩
theorem k_not (ha : PT X a (Tt X.K ct E ga)) : PT X (.UnaryOp .Not a pos) (Tt X.K ct E (tnot ga)) := pt_weak (pt_not ha) fun σ H Q ⟨ρ, F, s, h⟩ => by
  obtain ⟨ρ0, F0, s0, h0⟩ := Tt_bind s h
  exact ⟨ρ0, F0, s0, RunG.imp h0 fun c ρ1 F1 H1 _ _ ⟨ρ2, F2, s2, st2, h2⟩ => h2 F2 H1 s2 (Step.refl ..)⟩
theorem k_and1 (ha : PT X a (Tt X.K ct E ga)) : PW X (.BoolOp .And [a] pos) (Tt X.K ct E ga) := pw_and1 ha
theorem k_or1 (ha : PT X a (Tt X.K ct E ga)) : PW X (.BoolOp .Or [a] pos) (Tt X.K ct E ga) := pw_or1 ha
theorem k_and (ha : PT X a (Tt X.K ct E ga)) (hb : PW X (.BoolOp .And (b :: rest) pos) (Tt X.K ct E gb)) : PW X (.BoolOp .And (a :: b :: rest) pos) (Tt X.K ct E (tand ga gb)) :=
  pw_weak (pw_and ha hb) fun σ H Q ⟨ρ, F, s, h⟩ => by
    obtain ⟨ρ0, F0, s0, h0⟩ := Tt_bind s h
    refine ⟨ρ0, F0, s0, RunG.imp h0 fun c ρ1 F1 H1 _ _ ⟨ρ2, F2, s2, st2, h2⟩ => ?_⟩
    cases c with
    | true => exact iteT ⟨ρ2, F2, s2, h2⟩
    | false => exact iteF (h2 F2 H1 s2 (Step.refl ..))
theorem k_or (ha : PT X a (Tt X.K ct E ga)) (hb : PW X (.BoolOp .Or (b :: rest) pos) (Tt X.K ct E gb)) : PW X (.BoolOp .Or (a :: b :: rest) pos) (Tt X.K ct E (tor ga gb)) :=
  pw_weak (pw_or ha hb) fun σ H Q ⟨ρ, F, s, h⟩ => by
    obtain ⟨ρ0, F0, s0, h0⟩ := Tt_bind s h
    refine ⟨ρ0, F0, s0, RunG.imp h0 fun c ρ1 F1 H1 _ _ ⟨ρ2, F2, s2, st2, h2⟩ => ?_⟩
    cases c with
    | true => exact iteT (h2 F2 H1 s2 (Step.refl ..))
    | false => exact iteF ⟨ρ2, F2, s2, h2⟩
theorem RunG_T {K : PySem.W.Frag} {f : M R} {ρ : En} {σ : L2.St} {F H H0 : Hp} {Q : VK} (s : SR K ρ σ F H) (d : ∀ a, H a = none → H0 a = none) (h : RunG K ct E (f ρ) ρ σ F H fun r ρ' F' H' => ∀ v, RepR K ρ' σ F' H' H0 v r → Q v H') : T K ct E f σ H Q :=
  ⟨ρ, F, s, RunG.imp h fun _ _ _ _ _ _ k v rr => k v (rr.back d)⟩
theorem k_ife (ht : PT X c (Tt X.K ct E ga)) (ha : PE X a (T X.K ct E fa)) (hb : PE X b (T X.K ct E fb)) : PE X (.IfExp c a b pos) (T X.K ct E (ife ga fa fb)) :=
  pe_weak (pe_ifExp ht ha hb) fun σ H Q ⟨ρ, F, s, h⟩ => by
    obtain ⟨ρ0, F0, s0, h0⟩ := Tt_bind s h
    refine ⟨ρ0, F0, s0, RunG.imp h0 fun c ρ1 F1 H1 _ _ ⟨ρ2, F2, s2, st2, h2⟩ => ?_⟩
    cases c with
    | true => exact iteT (RunG_T s2 st2.dom h2)
    | false => exact iteF (RunG_T s2 st2.dom h2)
/-! ### and, or, not as values -/
def andV (fa fb : M R) : M R := bnd fa fun ra => bnd (toV ra) fun a => match truthD a with
  | some true => fb
  | some false => ret (.val a)
  | none => fun _ => .bad
def orV (fa fb : M R) : M R := bnd fa fun ra => bnd (toV ra) fun a => match truthD a with
  | some true => ret (.val a)
  | some false => fb
  | none => fun _ => .bad
def notV (fa : M R) : M R := bnd (tru fa) fun c => ret (.val (.bl (!c)))
theorem k_one {op} (h : PE X a (T X.K ct E fa)) : PE X (.BoolOp op [a] pos) (T X.K ct E fa) := pe_one h
theorem k_andV (ha : PE X a (T X.K ct E fa)) (hb : PE X (.BoolOp .And (b :: rest) pos) (T X.K ct E fb)) : PE X (.BoolOp .And (a :: b :: rest) pos) (T X.K ct E (andV fa fb)) :=
  pe_weak (pe_andT ha hb) fun σ H Q ⟨ρ, F, s, h⟩ => by
    obtain ⟨ρ0, F0, s0, h0⟩ := T_v s h
    refine ⟨ρ0, F0, s0, RunG.imp h0 fun r1 ρ1 F1 H1 s1 st1 k v rr => ?_⟩
    obtain ⟨d, ρ2, F2, s2, ra, st2, h2⟩ := k v rr
    cases e2 : truthD d with
    | none =>
      simp only [e2] at h2
      exact h2.elim
    | some bb =>
      cases bb with
      | true =>
        simp only [e2] at h2
        exact ⟨true, truth_ok s2.sub (ra.sh s2.sub) e2, iteT (RunG_T s2 st2.dom h2)⟩
      | false =>
        simp only [e2] at h2
        exact ⟨false, truth_ok s2.sub (ra.sh s2.sub) e2, iteF (h2 F2 H1 s2 (Step.refl ..) v ra)⟩
theorem k_orV (ha : PE X a (T X.K ct E fa)) (hb : PE X (.BoolOp .Or (b :: rest) pos) (T X.K ct E fb)) : PE X (.BoolOp .Or (a :: b :: rest) pos) (T X.K ct E (orV fa fb)) :=
  pe_weak (pe_orT ha hb) fun σ H Q ⟨ρ, F, s, h⟩ => by
    obtain ⟨ρ0, F0, s0, h0⟩ := T_v s h
    refine ⟨ρ0, F0, s0, RunG.imp h0 fun r1 ρ1 F1 H1 s1 st1 k v rr => ?_⟩
    obtain ⟨d, ρ2, F2, s2, ra, st2, h2⟩ := k v rr
    cases e2 : truthD d with
    | none =>
      simp only [e2] at h2
      exact h2.elim
    | some bb =>
      cases bb with
      | true =>
        simp only [e2] at h2
        exact ⟨true, truth_ok s2.sub (ra.sh s2.sub) e2, iteT (h2 F2 H1 s2 (Step.refl ..) v ra)⟩
      | false =>
        simp only [e2] at h2
        exact ⟨false, truth_ok s2.sub (ra.sh s2.sub) e2, iteF (RunG_T s2 st2.dom h2)⟩
theorem k_notV (ha : PE X a (T X.K ct E fa)) : PE X (.UnaryOp .Not a pos) (T X.K ct E (notV fa)) :=
  pe_weak (pe_notT ha) fun σ H Q ⟨ρ, F, s, h⟩ => by
    have h : RunG X.K ct E (bnd (tru fa) (fun c => ret (.val (.bl (!c)))) ρ) ρ σ F H fun r ρ' F' H' => ∀ v, RepR X.K ρ' σ F' H' H v r → Q v H' := h
    have e : bnd (tru fa) (fun c => ret (R.val (.bl (!c)))) = bnd fa fun ra => bnd (toO ra) fun a => bnd (finT a) fun c => ret (R.val (.bl (!c))) := by
      unfold tru
      rw [bnd_assoc]
      congr
      funext r
      rw [bnd_assoc]
    rw [e] at h
    obtain ⟨ρ0, F0, s0, h0⟩ := T_o s h
    refine ⟨ρ0, F0, s0, RunG.imp h0 fun r1 ρ1 F1 H1 s1 st1 k v rr => ?_⟩
    obtain ⟨oa, ρ2, F2, s2, ra, st2, h2⟩ := k v rr
    cases q : rdO oa ρ2 with
    | none =>
      simp only [bnd, finT, q, Res.bind] at h2
      exact h2.elim
    | some x =>
      cases q2 : truthD x with
      | none =>
        simp only [bnd, finT, q, q2, Res.bind] at h2
        exact h2.elim
      | some bb =>
        simp only [bnd, finT, q, q2, Res.bind] at h2
        exact ⟨bb, truth_ok s2.sub (rd_sh s2 ra q) q2, h2 F2 H1 s2 (Step.refl ..) _ (.bl _)⟩
/-! ### chains -/
def chain (g g' : D → D → Option R) (fa fb fc : M R) : M R := bnd fa fun ra => bnd (toO ra) fun a => bnd fb fun rb => bnd (toO rb) fun b => bnd (bnd (fin2 g a b) asB) fun k => match k with
  | true => bnd fc fun rc => bnd (toO rc) fun c => fin2 g' b c
  | false => ret (.val (.bl false))
theorem fin2_run {r : R2} {g : D → D → Option R} {a b : Od} {ρ : En} {σ : L2.St} {F H H0 : Hp} {v w : V} {Q : VK} (o : Op2 X.K r g) (s : SR X.K ρ σ F H) (d : ∀ a, H a = none → H0 a = none) (ra : OdR X.K σ F v a) (rb : OdR X.K σ F w b)
    (h : RunG X.K ct E (fin2 g a b ρ) ρ σ F H fun r ρ' F' H' => ∀ v, RepR X.K ρ' σ F' H' H0 v r → Q v H') : r v w H Q := by
  unfold fin2 at h
  split at h
  · rename_i x y e1 e2
    split at h
    · rename_i res e3
      exact o F H v w x y res Q s.sub (rd_sh s ra e1) (rd_sh s rb e2) e3 (fin s d h)
    · exact h.elim
  · exact h.elim
theorem chain_run {r r' : R2} {g g' : D → D → Option R} (o : Op2 X.K r g) (o' : Op2 X.K r' g') (σ : L2.St) (H : Hp) (Q : VK) (h : T X.K ct E (chain g g' fa fb fc) σ H Q) : tChain r r' (T X.K ct E fa) (T X.K ct E fb) (T X.K ct E fc) σ H Q := by
  obtain ⟨ρ, F, s, h⟩ := h
  obtain ⟨ρ0, F0, s0, h0⟩ := T_o s h
  refine ⟨ρ0, F0, s0, RunG.imp h0 fun r1 ρ1 F1 H1 s1 st1 k v rr => ?_⟩
  obtain ⟨oa, ρ2, F2, s2, ra, st2, h2⟩ := k v rr
  obtain ⟨ρ3, F3, s3, h3⟩ := T_o s2 h2
  refine ⟨ρ3, F3, s3, RunG.imp h3 fun r4 ρ4 F4 H4 s4 st4 k4 w rw' => ?_⟩
  obtain ⟨ob, ρ5, F5, s5, rb, st5, h5⟩ := k4 w rw'
  have ra5 : OdR X.K σ F5 v oa := ra.mono st5.mono
  have h6 := h5
  rw [bnd_assoc] at h6
  have h7 := RunG.bind h6
  refine fin2_run (H0 := H4) o s5 (fun a z => z) ra5 rb (RunG.imp h7 fun r6 ρ6 F6 H6 _ _ ⟨s6, st6, h8⟩ u ru => ?_)
  cases r6 with
  | fresh ds => exact h8.elim
  | slot i => exact h8.elim
  | val d =>
    cases d with
    | bl kk =>
      have ru : Rep X.K F6 u (.bl kk) := ru
      cases ru
      refine ⟨kk, rfl, ?_⟩
      have dom : ∀ a, H6 a = none → H a = none := fun a z => st2.dom a (st5.dom a (st6.dom a z))
      cases kk with
      | false => exact iteF (h8 F6 H6 s6 (Step.refl ..) _ (.bl false))
      | true =>
        refine iteT ?_
        obtain ⟨ρ9, F9, s9, h9⟩ := T_o s6 h8
        refine ⟨ρ9, F9, s9, RunG.imp h9 fun r10 ρ10 F10 H10 s10 st10 k10 x rx => ?_⟩
        obtain ⟨oc, ρ11, F11, s11, rc, st11, h11⟩ := k10 x rx
        exact fin2_run o' s11 (fun a z => dom a (st11.dom a z)) (rb.mono (st6.mono.trans st11.mono)) rc h11
    | non => exact h8.elim
    | int i => exact h8.elim
    | str i => exact h8.elim
    | tup i => exact h8.elim
    | lst i => exact h8.elim
    | scr i => exact h8.elim
theorem k_chain {op op' : CmpOp} {r r' : R2} {g g' : D → D → Option R} (ho : OpR X (compareOp op) r) (ho' : OpR X (compareOp op') r') (o : Op2 X.K r g) (o' : Op2 X.K r' g') (ha : PE X a (T X.K ct E fa)) (hb : PE X b (T X.K ct E fb)) (hc : PE X c (T X.K ct E fc))
    (hm : lastMarks [op, op'] [b, c] = false := by with_unfolding_all rfl) : PE X (.Compare a [op, op'] [b, c] pos) (T X.K ct E (chain g g' fa fb fc)) :=
  pe_weak (pe_chain ho ho' ha hb hc hm) fun σ H Q h => chain_run o o' σ H Q h
theorem k_tchain {op op' : CmpOp} {r r' : R2} {g g' : D → D → Option R} (ho : OpR X (compareOp op) r) (ho' : OpR X (compareOp op') r') (o : Op2 X.K r g) (o' : Op2 X.K r' g') (ha : PE X a (T X.K ct E fa)) (hb : PE X b (T X.K ct E fb)) (hc : PE X c (T X.K ct E fc))
    (hm : lastMarks [op, op'] [b, c] = false := by with_unfolding_all rfl) : PT X (.Compare a [op, op'] [b, c] pos) (Tt X.K ct E (tvl (chain g g' fa fb fc))) :=
  pt_weak (pt_chain ho ho' ha hb hc hm) fun σ H Q h => by
    obtain ⟨ρ, F, s, h⟩ := tvl_run (X := X) σ H Q h
    exact chain_run o o' σ H _ ⟨ρ, F, s, h⟩
end
end VL

set_option maxRecDepth 100000
/-! VL3: argument lists, displays, built-ins, methods that only read, slices. -/
namespace VL
open PySem L2

def evO : List (M R) → M (List Od)
  | [] => ret []
  | f :: fs => bnd f fun r => bnd (toO r) fun o => bnd (evO fs) fun os => ret (o :: os)
def evV : List (M R) → M (List D)
  | [] => ret []
  | f :: fs => bnd f fun r => bnd (toV r) fun o => bnd (evV fs) fun os => ret (o :: os)
def OdRs (K : PySem.W.Frag) (σ : L2.St) (F : Hp) : List V → List Od → Prop
  | [], [] => True
  | v :: vs, o :: os => OdR K σ F v o ∧ OdRs K σ F vs os
  | _, _ => False
def ShRs (K : PySem.W.Frag) (F H : Hp) : List V → List D → Prop
  | [], [] => True
  | v :: vs, o :: os => ShR K F H v o ∧ ShRs K F H vs os
  | _, _ => False
theorem OdRs.mono {K : PySem.W.Frag} {σ : L2.St} {F F' : Hp} (e : Sub F F') : ∀ {vs : List V} {os : List Od}, OdRs K σ F vs os → OdRs K σ F' vs os
  | [], [], _ => True.intro
  | _ :: _, _ :: _, ⟨a, b⟩ => ⟨a.mono e, OdRs.mono e b⟩
def rdOs : List Od → En → Option (List D)
  | [], _ => some []
  | o :: os, ρ => match rdO o ρ, rdOs os ρ with
    | some d, some ds => some (d :: ds)
    | _, _ => none
theorem rds_sh {K : PySem.W.Frag} {ρ : En} {σ : L2.St} {F H : Hp} (s : SR K ρ σ F H) : ∀ {vs : List V} {os : List Od} {ds : List D}, OdRs K σ F vs os → rdOs os ρ = some ds → ShRs K F H vs ds
  | [], [], ds, _, e => by
    cases e
    exact True.intro
  | v :: vs, o :: os, ds, ⟨a, b⟩, e => by
    unfold rdOs at e
    split at e
    · rename_i d ds' e1 e2
      cases e
      exact ⟨rd_sh s a e1, rds_sh s b e2⟩
    · cases e
  | [], _ :: _, _, h, _ => h.elim
  | _ :: _, [], _, h, _ => h.elim
section
variable (K : PySem.W.Frag) (ct : Nat → Addr × Str) (E : L2.St → XK)
def TAo (fs : List (M R)) : TA := fun σ H Q => ∃ ρ F, SR K ρ σ F H ∧ RunG K ct E (evO fs ρ) ρ σ F H fun os ρ' F' H' => ∀ vs, OdRs K σ F' vs os → Q vs H'
def TAv (fs : List (M R)) : TA := fun σ H Q => ∃ ρ F, SR K ρ σ F H ∧ RunG K ct E (evV fs ρ) ρ σ F H fun ds ρ' F' H' => ∀ vs, Reps K F' vs ds → Q vs H'
end
section
variable {X : Cx} {ct : Nat → Addr × Str} {E : L2.St → XK} {e o : Expr} {es : List Expr} {f fo : M R} {fs : List (M R)} {pos p : Pos}
theorem k_ao_nil : PA X [] (TAo X.K ct E []) := pa_weak pa_nil fun σ H Q ⟨ρ, F, s, h⟩ => h F H s (Step.refl ..) [] True.intro
theorem k_ao_cons (he : PE X e (T X.K ct E f)) (hs : PA X es (TAo X.K ct E fs)) (hst : starEach (e :: es) X.env = (false, eval e X.env) :: starEach es X.env := by rfl) : PA X (e :: es) (TAo X.K ct E (f :: fs)) :=
  pa_weak (pa_cons he hs hst) fun σ H Q ⟨ρ, F, s, h⟩ => by
    obtain ⟨ρ0, F0, s0, h0⟩ := T_o s h
    refine ⟨ρ0, F0, s0, RunG.imp h0 fun r1 ρ1 F1 H1 s1 st1 k v rr => ?_⟩
    obtain ⟨oa, ρ2, F2, s2, ra, st2, h2⟩ := k v rr
    exact ⟨ρ2, F2, s2, RunG.imp (RunG.bind h2) fun os ρ3 F3 H3 _ _ ⟨s3, st3, h3⟩ vs rv => h3 F3 H3 s3 (Step.refl ..) _ ⟨ra.mono st3.mono, rv⟩⟩
theorem k_av_nil : PA X [] (TAv X.K ct E []) := pa_weak pa_nil fun σ H Q ⟨ρ, F, s, h⟩ => h F H s (Step.refl ..) [] .nil
theorem k_av_cons (he : PE X e (T X.K ct E f)) (hs : PA X es (TAv X.K ct E fs)) (hst : starEach (e :: es) X.env = (false, eval e X.env) :: starEach es X.env := by rfl) : PA X (e :: es) (TAv X.K ct E (f :: fs)) :=
  pa_weak (pa_cons he hs hst) fun σ H Q ⟨ρ, F, s, h⟩ => by
    obtain ⟨ρ0, F0, s0, h0⟩ := T_v s h
    refine ⟨ρ0, F0, s0, RunG.imp h0 fun r1 ρ1 F1 H1 s1 st1 k v rr => ?_⟩
    obtain ⟨oa, ρ2, F2, s2, ra, st2, h2⟩ := k v rr
    exact ⟨ρ2, F2, s2, RunG.imp (RunG.bind h2) fun os ρ3 F3 H3 _ _ ⟨s3, st3, h3⟩ vs rv => h3 F3 H3 s3 (Step.refl ..) _ (.cons (ra.mono st3.mono) rv)⟩
/-! ### displays -/
def okLen (n : Nat) (r : R) : M R := fun ρ => if n ≤ 16777216 then .ok r ρ else .bad
def tupD (fs : List (M R)) : M R := bnd (evV fs) fun ds => okLen ds.length (.val (.tup ds))
def lstD (fs : List (M R)) : M R := bnd (evV fs) fun ds => okLen ds.length (.fresh ds)
theorem k_tup {x1} (h : PA X es (TAv X.K ct E fs)) : PE X (.Tuple es x1 pos) (T X.K ct E (tupD fs)) := pe_weak (pe_tup h) fun σ H Q ⟨ρ, F, s, h⟩ => by
  refine ⟨ρ, F, s, RunG.imp (RunG.bind h) fun ds ρ1 F1 H1 _ _ ⟨s1, st1, h1⟩ vs rv => ?_⟩
  unfold okLen at h1
  split at h1
  · rename_i hl
    exact ⟨by rw [rv.length, sizeLine_eq]; exact hl, fun p hp => RunG.ok h1 s1 (Grow.frz s1.sub hp) _ (.tup (Or.inl (Or.inl upd_same)) (rv.mono (Grow.frz s1.sub hp).ff))⟩
  · exact h1.elim
theorem k_lst (h : PA X es (TAv X.K ct E fs)) : PE X (.List es pos) (T X.K ct E (lstD fs)) := pe_weak (pe_lst h) fun σ H Q ⟨ρ, F, s, h⟩ => by
  refine ⟨ρ, F, s, RunG.imp (RunG.bind h) fun ds ρ1 F1 H1 _ _ ⟨s1, st1, h1⟩ vs rv => ?_⟩
  unfold okLen at h1
  split at h1
  · rename_i hl
    refine ⟨by rw [rv.length, sizeLine_eq]; exact hl, fun p hp => fin s1 st1.dom h1 _ F1 _ (Grow.opn s1.sub hp) ⟨p, vs, rfl, hp, upd_same, ?_, rv⟩⟩
    cases q : F1 p with
    | none => rfl
    | some u =>
      rw [s1.sub p u q] at hp
      cases hp
  · exact h1.elim
/-! ### built-ins -/
def finN (g : List D → Option R) (os : List Od) : M R := fun ρ => match rdOs os ρ with
  | some ds => (match g ds with
    | some r => .ok r ρ
    | none => .bad)
  | none => .bad
def callB (g : List D → Option R) (fs : List (M R)) : M R := bnd (evO fs) fun os => finN g os
def CallS (K : PySem.W.Frag) (r : List V → Hp → VK → Prop) (g : List D → Option R) : Prop := ∀ (F H : Hp) (vs : List V) (ds : List D) (res : R) (Q : VK), Sub F H → ShRs K F H vs ds → g ds = some res → (∀ v F' H', Grow F H F' H' → RsP K F' H' H v res → Q v H') → r vs H Q
theorem callB_run {r : List V → Hp → VK → Prop} {g : List D → Option R} (o : CallS X.K r g) (σ : L2.St) (H : Hp) (Q : VK) (h : T X.K ct E (callB g fs) σ H Q) : tCB r (TAo X.K ct E fs) σ H Q := by
  obtain ⟨ρ, F, s, h⟩ := h
  refine ⟨ρ, F, s, RunG.imp (RunG.bind h) fun os ρ1 F1 H1 _ _ ⟨s1, st1, h1⟩ vs rv => ?_⟩
  unfold finN at h1
  split at h1
  · rename_i ds e1
    split at h1
    · rename_i res e2
      exact o F1 H1 vs ds res Q s1.sub (rds_sh s1 rv e1) e2 (fin s1 st1.dom h1)
    · exact h1.elim
  · exact h1.elim
theorem k_callB {id : String} {x : Str} {r : List V → Hp → VK → Prop} {g : List D → Option R} (hc : CallR X (.builtin id) r) (o : CallS X.K r g) (hg : Gl X x) (hm : X.mg x = none) (hv : bootBuiltins x = some (.builtin id)) (ha : PA X (e :: es) (TAo X.K ct E fs)) (hn : x ≠ "__name__" := by decide) (hdb : (x == ("__debug__" : Str)) = false := by decide)
    (he : starEach (e :: es) X.env = (false, eval e X.env) :: starEach es X.env := by rfl) (hpl : (backTo pos (starEach es X.env)).any (·.1) = false := by rfl) : PE X (.Call (.Name x p) (e :: es) [] pos) (T X.K ct E (callB g fs)) :=
  pe_weak (pe_callB hc hg hm hv ha hn hdb he hpl) fun σ H Q h => callB_run o σ H Q h
theorem k_callTy {id : String} {x : Str} {r : List V → Hp → VK → Prop} {g : List D → Option R} (hc : CallR X (.type id) r) (o : CallS X.K r g) (hg : Gl X x) (hm : X.mg x = none) (hv : bootBuiltins x = some (.type id)) (ha : PA X (e :: es) (TAo X.K ct E fs)) (hn : x ≠ "__name__" := by decide) (hdb : (x == ("__debug__" : Str)) = false := by decide)
    (he : starEach (e :: es) X.env = (false, eval e X.env) :: starEach es X.env := by rfl) (hpl : (backTo pos (starEach es X.env)).any (·.1) = false := by rfl) : PE X (.Call (.Name x p) (e :: es) [] pos) (T X.K ct E (callB g fs)) :=
  pe_weak (pe_callTy hc hg hm hv ha hn hdb he hpl) fun σ H Q h => callB_run o σ H Q h
/-! ### methods of built-in types that only read -/
def tyD : String → D → Bool
  | "str", .str _ => true
  | "list", .lst _ => true
  | _, _ => false
def chk (ty : String) (o : Od) : M Unit := fun ρ => match rdO o ρ with
  | some d => if tyD ty d = true then .ok () ρ else .bad
  | none => .bad
def metB (ty : String) (g : List D → Option R) (fo : M R) (fs : List (M R)) : M R := bnd fo fun ro => bnd (toO ro) fun o => bnd (chk ty o) fun _ => bnd (evO fs) fun os => finN g (o :: os)
def MtS (K : PySem.W.Frag) (r : V → List V → Hp → VK → Prop) (g : List D → Option R) : Prop := ∀ (F H : Hp) (v : V) (vs : List V) (d : D) (ds : List D) (res : R) (Q : VK), Sub F H → ShR K F H v d → ShRs K F H vs ds → g (d :: ds) = some res → (∀ v F' H', Grow F H F' H' → RsP K F' H' H v res → Q v H') → r v vs H Q
theorem ty_ok {K : PySem.W.Frag} {F H : Hp} {ty : String} {v : V} {d : D} (r : ShR K F H v d) (h : tyD ty d = true) : tyV K ty v H := by
  unfold tyD at h
  split at h
  · rename_i s
    have r : Rep K F v (.str s) := r
    cases r
    rfl
  · obtain ⟨a, vs, rfl, h, r⟩ := r
    exact .inl ⟨rfl, _, .of h⟩
  · cases h
theorem metB_run {ty : String} {r : V → List V → Hp → VK → Prop} {g : List D → Option R} (o : MtS X.K r g) (σ : L2.St) (H : Hp) (Q : VK) (h : T X.K ct E (metB ty g fo fs) σ H Q) : tBM X.K ty r (T X.K ct E fo) (TAo X.K ct E fs) σ H Q := by
  obtain ⟨ρ, F, s, h⟩ := h
  obtain ⟨ρ0, F0, s0, h0⟩ := T_o s h
  refine ⟨ρ0, F0, s0, RunG.imp h0 fun r1 ρ1 F1 H1 s1 st1 k v rr => ?_⟩
  obtain ⟨oa, ρ2, F2, s2, ra, st2, h2⟩ := k v rr
  cases q : rdO oa ρ2 with
  | none =>
    simp only [bnd, chk, q, Res.bind] at h2
    exact h2.elim
  | some d =>
    by_cases q2 : tyD ty d = true
    · have h3 : RunG X.K ct E (bnd (evO fs) (fun os => finN g (oa :: os)) ρ2) ρ2 σ F2 H1 (fun r ρ' F' H' => ∀ v, RepR X.K ρ' σ F' H' H v r → Q v H') := by
        simp only [bnd, chk, q, Res.bind, if_pos q2] at h2
        exact h2
      refine ⟨ty_ok (rd_sh s2 ra q) q2, ρ2, F2, s2, RunG.imp (RunG.bind h3) fun os ρ4 F4 H4 _ _ ⟨s4, st4, h4⟩ vs rv => ?_⟩
      unfold finN at h4
      split at h4
      · rename_i ds e1
        split at h4
        · rename_i res e2
          cases ds with
          | nil =>
            unfold rdOs at e1
            split at e1 <;> cases e1
          | cons d' ds' =>
            have ss := rds_sh s4 (vs := v :: vs) (os := oa :: os) ⟨ra.mono st4.mono, rv⟩ e1
            exact o F4 H4 v vs d' ds' res Q s4.sub ss.1 ss.2 e2 (fin s4 (fun a z => st2.dom a (st4.dom a z)) h4)
        · exact h4.elim
      · exact h4.elim
    · simp only [bnd, chk, q, Res.bind, if_neg q2] at h2
      exact h2.elim
theorem k_met {ty id : String} {name : Str} {apos cpos : Pos} {r : V → List V → Hp → VK → Prop} {g : List D → Option R} (pa : PlainAttrs ty) (slot : Slot ty name id) (hty : typeOf (.builtin id) = pure (.type "method_descriptor")) (hm : MtR X id r) (ms : MtS X.K r g)
    (ho : PE X o (T X.K ct E fo)) (ha : PA X (e :: es) (TAo X.K ct E fs)) (hbase : attributeBase o name X.env (eval o X.env) = eval o X.env := by rfl)
    (hfew : ((backTo cpos (starEach (e :: es) X.env)).all (fun x => !x.1) && (backToKw cpos (keywordEach [] X.env)).all (fun x => x.1.isSome)
      && decide ((e :: es).length + ([] : List Keyword).length + (if ([] : List Keyword).isEmpty then 0 else 1) < 30)) = true := by rfl)
    (hline : (apos.endLine == cpos.line) = true := by rfl) (hs : starEach (e :: es) X.env = (false, eval e X.env) :: starEach es X.env := by rfl) (hplain : (backTo cpos (starEach es X.env)).any (·.1) = false := by rfl) :
    PE X (.Call (.Attribute o name apos) (e :: es) [] cpos) (T X.K ct E (metB ty g fo fs)) :=
  pe_weak (pe_bm pa slot hty hm ho ha hbase hfew hline hs hplain) fun σ H Q h => metB_run ms σ H Q h
theorem k_met0 {ty id : String} {name : Str} {apos cpos : Pos} {r : V → List V → Hp → VK → Prop} {g : List D → Option R} (pa : PlainAttrs ty) (slot : Slot ty name id) (hty : typeOf (.builtin id) = pure (.type "method_descriptor")) (hm : MtR X id r) (ms : MtS X.K r g)
    (ho : PE X o (T X.K ct E fo)) (hbase : attributeBase o name X.env (eval o X.env) = eval o X.env := by rfl)
    (hline : (apos.endLine == cpos.line) = true := by rfl) :
    PE X (.Call (.Attribute o name apos) [] [] cpos) (T X.K ct E (metB ty g fo [])) :=
  pe_weak (pe_bm0 pa slot hty hm ho hbase hline) fun σ H Q h => by
    have h := metB_run ms σ H Q h
    obtain ⟨ρ, F, s, h⟩ := h
    exact ⟨ρ, F, s, RunG.imp h fun r1 ρ1 F1 H1 s1 st1 k v rr => ⟨(k v rr).1, by
      obtain ⟨ρ2, F2, s2, h2⟩ := (k v rr).2
      exact h2 F2 H1 s2 (Step.refl ..) [] True.intro⟩⟩
/-! ### slices -/
def pOpt : Option (M R) → M (Option Int)
  | none => ret none
  | some f => bnd f fun r => match r with
    | .val (.int i) => ret (some i)
    | _ => fun _ => .bad
def TOd (K : PySem.W.Frag) (ct : Nat → Addr × Str) (E : L2.St → XK) (f : Option (M R)) : TO := fun σ H Q => ∃ ρ F, SR K ρ σ F H ∧ RunG K ct E (pOpt f ρ) ρ σ F H fun o _ _ H' => Q o H'
theorem k_po_none : PO X none (TOd X.K ct E none) := ⟨fun pins s σ H Q I ⟨ρ, F, sr, h⟩ => po_none.run pins s σ H Q I (h F H sr (Step.refl ..))⟩
theorem k_po_some (he : PE X e (T X.K ct E f)) : PO X (some e) (TOd X.K ct E (some f)) := ⟨fun pins s σ H Q I ⟨ρ, F, sr, h⟩ => by
  refine (po_some he).run pins s σ H Q I ⟨ρ, F, sr, RunG.imp (RunG.bind h) fun r ρ1 F1 H1 _ _ ⟨s1, st1, h1⟩ v rr => ?_⟩
  cases r with
  | fresh ds => exact h1.elim
  | slot i => exact h1.elim
  | val d =>
    cases d with
    | int i =>
      have rr : Rep X.K F1 v (.int i) := rr
      cases rr
      exact ⟨i, rfl, h1 F1 H1 s1 (Step.refl ..)⟩
    | bl bb => exact h1.elim
    | non => exact h1.elim
    | str i => exact h1.elim
    | tup i => exact h1.elim
    | lst i => exact h1.elim
    | scr i => exact h1.elim⟩
def finS (g : D → Option Int → Option Int → Option R) (a : Od) (l u : Option Int) : M R := fun ρ => match rdO a ρ with
  | some d => (match g d l u with
    | some r => .ok r ρ
    | none => .bad)
  | none => .bad
def slD (g : D → Option Int → Option Int → Option R) (fa : M R) (fl fu : Option (M R)) : M R := bnd fa fun ra => bnd (toO ra) fun a => bnd (pOpt fl) fun l => bnd (pOpt fu) fun u => finS g a l u
def SlS (K : PySem.W.Frag) (r : V → Option Int → Option Int → Hp → VK → Prop) (g : D → Option Int → Option Int → Option R) : Prop := ∀ (F H : Hp) (v : V) (d : D) (l u : Option Int) (res : R) (Q : VK), Sub F H → ShR K F H v d → g d l u = some res → (∀ v F' H', Grow F H F' H' → RsP K F' H' H v res → Q v H') → r v l u H Q
theorem k_slice {lo hi : Option Expr} {p2 : Pos} {fl fu : Option (M R)} {r : V → Option Int → Option Int → Hp → VK → Prop} {g : D → Option Int → Option Int → Option R} (hr : SlR X r) (o : SlS X.K r g) (he : PE X e (T X.K ct E f)) (hl : PO X lo (TOd X.K ct E fl)) (hu : PO X hi (TOd X.K ct E fu)) :
    PE X (.Subscript e (.Slice lo hi none p2) pos) (T X.K ct E (slD g f fl fu)) := pe_weak (pe_slice hr he hl hu) fun σ H Q ⟨ρ, F, s, h⟩ => by
  obtain ⟨ρ0, F0, s0, h0⟩ := T_o s h
  refine ⟨ρ0, F0, s0, RunG.imp h0 fun r1 ρ1 F1 H1 s1 st1 k v rr => ?_⟩
  obtain ⟨oa, ρ2, F2, s2, ra, st2, h2⟩ := k v rr
  refine ⟨ρ2, F2, s2, RunG.imp (RunG.bind h2) fun l ρ3 F3 H3 _ _ ⟨s3, st3, h3⟩ => ?_⟩
  refine ⟨ρ3, F3, s3, RunG.imp (RunG.bind h3) fun u ρ4 F4 H4 _ _ ⟨s4, st4, h4⟩ => ?_⟩
  unfold finS at h4
  split at h4
  · rename_i d e1
    split at h4
    · rename_i res e2
      exact o F4 H4 v d l u res Q s4.sub (rd_sh s4 (ra.mono (st3.mono.trans st4.mono)) e1) e2 (fin s4 (fun a z => st2.dom a (st3.dom a (st4.dom a z))) h4)
    · exact h4.elim
  · exact h4.elim
theorem SlS.or {K : PySem.W.Frag} {r r' : V → Option Int → Option Int → Hp → VK → Prop} {g g' : D → Option Int → Option Int → Option R} (a : SlS K r g) (b : SlS K r' g') : SlS K (fun v l u H Q => r v l u H Q ∨ r' v l u H Q) (fun d l u => (g d l u).or (g' d l u)) := fun F H v d l u res Q s sh e k => by
  cases q : g d l u with
  | some r1 =>
    simp only [q, Option.or] at e
    cases e
    exact .inl (a F H v d l u _ Q s sh q k)
  | none =>
    simp only [q, Option.or] at e
    exact .inr (b F H v d l u res Q s sh e k)
theorem Op2.or {K : PySem.W.Frag} {r r' : R2} {g g' : D → D → Option R} (a : Op2 K r g) (b : Op2 K r' g') : Op2 K (fun x y H Q => r x y H Q ∨ r' x y H Q) (fun x y => (g x y).or (g' x y)) := fun F H vx vy x y res Q s sx sy e k => by
  cases q : g x y with
  | some r1 =>
    simp only [q, Option.or] at e
    cases e
    exact .inl (a F H vx vy x y _ Q s sx sy q k)
  | none =>
    simp only [q, Option.or] at e
    exact .inr (b F H vx vy x y res Q s sx sy e k)
theorem CallS.or {K : PySem.W.Frag} {r r' : List V → Hp → VK → Prop} {g g' : List D → Option R} (a : CallS K r g) (b : CallS K r' g') : CallS K (fun xs H Q => r xs H Q ∨ r' xs H Q) (fun ds => (g ds).or (g' ds)) := fun F H vs ds res Q s sh e k => by
  cases q : g ds with
  | some r1 =>
    simp only [q, Option.or] at e
    cases e
    exact .inl (a F H vs ds _ Q s sh q k)
  | none =>
    simp only [q, Option.or] at e
    exact .inr (b F H vs ds res Q s sh e k)
end
end VL

set_option maxRecDepth 100000
/-! VL4: statements, targets, loops, comprehensions. -/
namespace VL
open PySem L2

inductive Fl where
  | nx | ret (r : R) | bk | ct
abbrev SM := M Fl
section
variable (K : PySem.W.Frag) (ct : Nat → Addr × Str) (E : L2.St → XK)
/-- as RunG, the slots may change -/
def RunW {α : Type} (r : Res α) (ρ : En) (σ : L2.St) (F H : Hp) (P : α → En → L2.St → Hp → Hp → Prop) : Prop := match r with
  | .ok a ρ' => ∀ σ' F' H', SR K ρ' σ' F' H' → Step ρ σ F H ρ' σ' F' H' → P a ρ' σ' F' H'
  | .exn c d ρ' => ExP K ct E c d ρ' ρ σ F H
  | .bad => False
def SPd (Dn : Ends) (H0 : Hp) : Fl → En → L2.St → Hp → Hp → Prop
  | .nx, _, σ', _, H' => Dn.nx σ' H'
  | .bk, _, σ', _, H' => Dn.bk σ' H'
  | .ct, _, σ', _, H' => Dn.ct σ' H'
  | .ret r, ρ', σ', F', H' => ∀ v, RepR K ρ' σ' F' H' H0 v r → Dn.rt v H'
def TSd (f : SM) : TS := fun Dn σ H => ∃ ρ F, SR K ρ σ F H ∧ RunW K ct E (f ρ) ρ σ F H (SPd K Dn H)
end
section
variable {K : PySem.W.Frag} {ct : Nat → Addr × Str} {E : L2.St → XK} {ρ ρ1 : En} {σ σ1 : L2.St} {F F1 H H1 : Hp}
theorem ExP.stepW {c : Nat} {d : D} {ρ' : En} (st : Step ρ σ F H ρ1 σ1 F1 H1) (h : ExP K ct E c d ρ' ρ σ F H) : ExP K ct E c d ρ' ρ1 σ1 F1 H1 :=
  fun σ' F' H' v dx s t r n x => h σ' F' H' v dx s (st.trans t) r (st.dom dx n) x
theorem RunW.step {α : Type} {r : Res α} {P : α → En → L2.St → Hp → Hp → Prop} (h : RunW K ct E r ρ σ F H P) (st : Step ρ σ F H ρ1 σ1 F1 H1) : RunW K ct E r ρ1 σ1 F1 H1 P := by
  cases r with
  | ok a ρ' => exact fun σ' F' H' s t => h σ' F' H' s (st.trans t)
  | exn c d ρ' => exact ExP.stepW st h
  | bad => exact h
theorem RunW.imp {α : Type} {r : Res α} {P P' : α → En → L2.St → Hp → Hp → Prop} (h : RunW K ct E r ρ σ F H P) (w : ∀ a ρ' σ' F' H', SR K ρ' σ' F' H' → Step ρ σ F H ρ' σ' F' H' → P a ρ' σ' F' H' → P' a ρ' σ' F' H') : RunW K ct E r ρ σ F H P' := by
  cases r with
  | ok a ρ' => exact fun σ' F' H' s t => w a ρ' σ' F' H' s t (h σ' F' H' s t)
  | exn c d ρ' => exact h
  | bad => exact h
theorem RunW.bind {α β : Type} {r : Res α} {k : α → M β} {P : β → En → L2.St → Hp → Hp → Prop} (h : RunW K ct E (r.bind k) ρ σ F H P) :
    RunW K ct E r ρ σ F H fun a ρ1 σ1 F1 H1 => SR K ρ1 σ1 F1 H1 ∧ Step ρ σ F H ρ1 σ1 F1 H1 ∧ RunW K ct E (k a ρ1) ρ1 σ1 F1 H1 P := by
  cases r with
  | ok a ρ' => exact fun σ' F' H' s t => ⟨s, t, RunW.step h t⟩
  | exn c d ρ' => exact h
  | bad => exact h
/-- an expression's part of a statement -/
theorem RunW.toG {α β : Type} {r : Res α} {k : α → M β} {P : β → En → L2.St → Hp → Hp → Prop} (h : RunW K ct E (r.bind k) ρ σ F H P) :
    RunG K ct E r ρ σ F H fun a ρ1 F1 H1 => SR K ρ1 σ F1 H1 ∧ Step ρ σ F H ρ1 σ F1 H1 ∧ RunW K ct E (k a ρ1) ρ1 σ F1 H1 P := by
  cases r with
  | ok a ρ' => exact fun F' H' s t => ⟨s, t, RunW.step h t⟩
  | exn c d ρ' => exact h
  | bad => exact h
theorem T_vW {β : Type} {fa : M R} {k : D → M β} {P : β → En → L2.St → Hp → Hp → Prop} (s : SR K ρ σ F H) (h : RunW K ct E (bnd fa (fun r => bnd (toV r) k) ρ) ρ σ F H P) :
    T K ct E fa σ H fun v H1 => ∃ d ρ1 F1, SR K ρ1 σ F1 H1 ∧ Rep K F1 v d ∧ Step ρ σ F H ρ1 σ F1 H1 ∧ RunW K ct E (k d ρ1) ρ1 σ F1 H1 P := by
  have e : bnd fa (fun r => bnd (toV r) k) ρ = (bnd fa (fun r => bnd (toV r) ret) ρ).bind k := by
    show _ = bnd (bnd fa fun r => bnd (toV r) ret) k ρ
    rw [bnd_assoc]
    congr
    funext r
    rw [bnd_assoc]
    rfl
  rw [e] at h
  obtain ⟨ρ0, F0, s0, h0⟩ := T_v s (RunW.toG h)
  exact ⟨ρ0, F0, s0, RunG.imp h0 fun r1 ρ1 F1 H1 s1 st1 k v rr => by
    obtain ⟨d, ρ2, F2, s2, ra, st2, h2⟩ := k v rr
    obtain ⟨s3, st3, h3⟩ := h2 F2 H1 s2 (Step.refl ..)
    exact ⟨d, ρ2, F2, s2, ra, st2, h3⟩⟩
theorem SPd.back {Dn : Ends} {fl : Fl} {ρ' : En} {σ' : L2.St} {F' H' : Hp} (h : SPd K Dn H fl ρ' σ' F' H') (d : ∀ a, H1 a = none → H a = none) : SPd K Dn H1 fl ρ' σ' F' H' := by
  cases fl with
  | nx => exact h
  | bk => exact h
  | ct => exact h
  | ret r => exact fun v rr => h v (rr.back d)
theorem TSd.of {f : SM} {Dn : Ends} (s : SR K ρ σ F H) (d : ∀ a, H a = none → H1 a = none) (h : RunW K ct E (f ρ) ρ σ F H (SPd K Dn H1)) : TSd K ct E f Dn σ H :=
  ⟨ρ, F, s, RunW.imp h fun _ _ _ _ _ _ _ k => k.back d⟩

/-! ### stores -/
theorem sr_val {i : Nat} {v : V} {d : D} (s : SR K ρ σ F H) (r : Rep K F v d) (n : ∀ ds, ρ[i]? ≠ some (Sl.own true ds)) : SR K (ρ.set i (.val d)) (σ.set i (some v)) F H ∧ Step ρ σ F H (ρ.set i (.val d)) (σ.set i (some v)) F H := by
  have other : ∀ (j : Nat) (x : Sl), (ρ.set i (.val d))[j]? = some x → (j = i ∧ x = .val d ∧ i < ρ.length) ∨ (j ≠ i ∧ ρ[j]? = some x) := fun j x h => by
    by_cases z : j = i
    · subst z
      by_cases hi : j < ρ.length
      · rw [List.getElem?_set_self hi] at h
        exact .inl ⟨rfl, (Option.some.inj h).symm, hi⟩
      · rw [List.getElem?_eq_none (by simpa using hi)] at h
        cases h
    · rw [List.getElem?_set_ne (fun w => z w.symm)] at h
      exact .inr ⟨z, h⟩
  have os : ∀ {j : Nat}, j ≠ i → (σ.set i (some v))[j]? = σ[j]? := fun {j} z => List.getElem?_set_ne (fun w => z w.symm)
  refine ⟨⟨by rw [List.length_set, List.length_set]; exact s.len, s.sub, fun j d' h => ?_, fun j io es h => ?_, fun j k io io' es es' a h1 h2 e1 e2 => ?_⟩, ⟨Sub.refl F, fun a o h n => ⟨h, rfl, fun w => ?_⟩, fun _ h => h, fun j es h => ?_, List.length_set⟩⟩
  · rcases other j _ h with ⟨rfl, z, hi⟩ | ⟨z, h⟩
    · cases z
      exact ⟨v, List.getElem?_set_self (by rw [← s.len]; exact hi), r⟩
    · rw [os z]
      exact s.val j d' h
  · rcases other j _ h with ⟨_, z, _⟩ | ⟨z, h⟩
    · cases z
    · rw [os z]
      exact s.own j io es h
  · rcases other j _ h1 with ⟨_, z, _⟩ | ⟨z, h1⟩
    · cases z
    · rcases other k _ h2 with ⟨_, z, _⟩ | ⟨z2, h2⟩
      · cases z
      · rw [os z] at e1
        rw [os z2] at e2
        exact s.dis j k _ _ _ _ a h1 h2 e1 e2
  · obtain ⟨j, io, es, h1, h2⟩ := w
    rcases other j _ h1 with ⟨_, z, _⟩ | ⟨z, h1⟩
    · cases z
    · rw [os z] at h2
      exact n ⟨j, io, es, h1, h2⟩
  · have z : j ≠ i := fun w => by
      subst w
      exact n es h
    exact ⟨os z, es, by rw [List.getElem?_set_ne (fun w => z w.symm)]; exact h⟩
/-- a slot is forgotten -/
theorem sr_un {i : Nat} {o : Option V} (s : SR K ρ σ F H) (n : ∀ ds, ρ[i]? ≠ some (Sl.own true ds)) : SR K (ρ.set i .un) (σ.set i o) F H ∧ Step ρ σ F H (ρ.set i .un) (σ.set i o) F H := by
  have other : ∀ (j : Nat) (x : Sl), (ρ.set i .un)[j]? = some x → (j = i ∧ x = .un) ∨ (j ≠ i ∧ ρ[j]? = some x) := fun j x h => by
    by_cases z : j = i
    · subst z
      by_cases hi : j < ρ.length
      · rw [List.getElem?_set_self hi] at h
        exact .inl ⟨rfl, (Option.some.inj h).symm⟩
      · rw [List.getElem?_eq_none (by simpa using hi)] at h
        cases h
    · rw [List.getElem?_set_ne (fun w => z w.symm)] at h
      exact .inr ⟨z, h⟩
  have os : ∀ {j : Nat}, j ≠ i → (σ.set i o)[j]? = σ[j]? := fun {j} z => List.getElem?_set_ne (fun w => z w.symm)
  refine ⟨⟨by rw [List.length_set, List.length_set]; exact s.len, s.sub, fun j d' h => ?_, fun j io es h => ?_, fun j k io io' es es' a h1 h2 e1 e2 => ?_⟩, ⟨Sub.refl F, fun a o h n => ⟨h, rfl, fun w => ?_⟩, fun _ h => h, fun j es h => ?_, List.length_set⟩⟩
  · rcases other j _ h with ⟨_, z⟩ | ⟨z, h⟩
    · cases z
    · rw [os z]
      exact s.val j d' h
  · rcases other j _ h with ⟨_, z⟩ | ⟨z, h⟩
    · cases z
    · rw [os z]
      exact s.own j io es h
  · rcases other j _ h1 with ⟨_, z⟩ | ⟨z, h1⟩
    · cases z
    · rcases other k _ h2 with ⟨_, z⟩ | ⟨z2, h2⟩
      · cases z
      · rw [os z] at e1
        rw [os z2] at e2
        exact s.dis j k _ _ _ _ a h1 h2 e1 e2
  · obtain ⟨j, io, es, h1, h2⟩ := w
    rcases other j _ h1 with ⟨_, z⟩ | ⟨z, h1⟩
    · cases z
    · rw [os z] at h2
      exact n ⟨j, io, es, h1, h2⟩
  · have z : j ≠ i := fun w => by
      subst w
      exact n es h
    exact ⟨os z, es, by rw [List.getElem?_set_ne (fun w => z w.symm)]; exact h⟩
theorem sr_own {i : Nat} {p : Addr} {vs : List V} {ds : List D} {ρ0 : En} {F0 H0 : Hp} (s : SR K ρ σ F H) (st : Step ρ0 σ F0 H0 ρ σ F H) (h0 : H0 p = none) (hp : H p = some (.lst vs)) (fp : F p = none) (no : ¬ OwnAt ρ σ p) (r : Reps K F vs ds)
    (n : ∀ ds, ρ[i]? ≠ some (Sl.own true ds)) : SR K (ρ.set i (.own false ds)) (σ.set i (some (.ref p))) F H ∧ Step ρ0 σ F0 H0 (ρ.set i (.own false ds)) (σ.set i (some (.ref p))) F H := by
  have other : ∀ (j : Nat) (x : Sl), (ρ.set i (.own false ds))[j]? = some x → (j = i ∧ x = .own false ds ∧ i < ρ.length) ∨ (j ≠ i ∧ ρ[j]? = some x) := fun j x h => by
    by_cases z : j = i
    · subst z
      by_cases hi : j < ρ.length
      · rw [List.getElem?_set_self hi] at h
        exact .inl ⟨rfl, (Option.some.inj h).symm, hi⟩
      · rw [List.getElem?_eq_none (by simpa using hi)] at h
        cases h
    · rw [List.getElem?_set_ne (fun w => z w.symm)] at h
      exact .inr ⟨z, h⟩
  have os : ∀ {j : Nat}, j ≠ i → (σ.set i (some (V.ref p)))[j]? = σ[j]? := fun {j} z => List.getElem?_set_ne (fun w => z w.symm)
  have self : i < ρ.length → (σ.set i (some (V.ref p)))[i]? = some (some (.ref p)) := fun hi => List.getElem?_set_self (by rw [← s.len]; exact hi)
  refine ⟨⟨by rw [List.length_set, List.length_set]; exact s.len, s.sub, fun j d' h => ?_, fun j io es h => ?_, fun j k io io' es es' a h1 h2 e1 e2 => ?_⟩, ⟨st.mono, fun a o h w => ?_, st.dom, fun j es h => ?_, List.length_set⟩⟩
  · rcases other j _ h with ⟨_, z, _⟩ | ⟨z, h⟩
    · cases z
    · rw [os z]
      exact s.val j d' h
  · rcases other j _ h with ⟨rfl, z, hi⟩ | ⟨z, h⟩
    · cases z
      exact ⟨p, vs, self hi, hp, fp, r⟩
    · rw [os z]
      exact s.own j io es h
  · rcases other j _ h1 with ⟨rfl, z, hi⟩ | ⟨z, h1⟩
    · rcases other k _ h2 with ⟨rfl, _, _⟩ | ⟨z2, h2⟩
      · rfl
      · rw [self hi] at e1
        cases e1
        rw [os z2] at e2
        exact (no ⟨k, _, _, h2, e2⟩).elim
    · rcases other k _ h2 with ⟨z3, _, hi⟩ | ⟨z2, h2⟩
      · rw [z3, self hi] at e2
        cases e2
        rw [os z] at e1
        exact (no ⟨j, _, _, h1, e1⟩).elim
      · rw [os z] at e1
        rw [os z2] at e2
        exact s.dis j k _ _ _ _ a h1 h2 e1 e2
  · obtain ⟨k1, k2, k3⟩ := st.keep a o h w
    refine ⟨k1, k2, fun ⟨j, io, es, h1, h2⟩ => ?_⟩
    rcases other j _ h1 with ⟨rfl, _, hi⟩ | ⟨z, h1⟩
    · rw [self hi] at h2
      cases h2
      rw [h0] at h
      cases h
    · rw [os z] at h2
      exact k3 ⟨j, io, es, h1, h2⟩
  · obtain ⟨e1, es1, h1⟩ := st.io j es h
    have z : j ≠ i := fun w => by
      subst w
      exact n es1 h1
    exact ⟨(os z).trans e1, es1, by rw [List.getElem?_set_ne (fun w => z w.symm)]; exact h1⟩
/-- an own list is changed -/
theorem sr_upd {i : Nat} {io : Bool} {p : Addr} {vs' : List V} {ds ds' : List D} (s : SR K ρ σ F H) (q : ρ[i]? = some (Sl.own io ds)) (e : σ[i]? = some (some (.ref p))) (r : Reps K F vs' ds') :
    SR K (ρ.set i (.own io ds')) σ F (upd H p (.lst vs')) ∧ Step ρ σ F H (ρ.set i (.own io ds')) σ F (upd H p (.lst vs')) := by
  obtain ⟨p', vs, e', hp, fp, _⟩ := s.own i _ _ q
  rw [e] at e'
  cases e'
  have hi : i < ρ.length := (List.getElem?_eq_some_iff.mp q).1
  have other : ∀ (j : Nat) (x : Sl), (ρ.set i (.own io ds'))[j]? = some x → (j = i ∧ x = .own io ds') ∨ (j ≠ i ∧ ρ[j]? = some x) := fun j x h => by
    by_cases z : j = i
    · subst z
      rw [List.getElem?_set_self hi] at h
      exact .inl ⟨rfl, (Option.some.inj h).symm⟩
    · rw [List.getElem?_set_ne (fun w => z w.symm)] at h
      exact .inr ⟨z, h⟩
  have own' : ∀ a, OwnAt (ρ.set i (.own io ds')) σ a → OwnAt ρ σ a := fun a ⟨j, io', es, h1, h2⟩ => by
    rcases other j _ h1 with ⟨rfl, z⟩ | ⟨z, h1⟩
    · exact ⟨j, _, _, q, h2⟩
    · exact ⟨j, io', es, h1, h2⟩
  refine ⟨⟨by rw [List.length_set]; exact s.len, fun a o h => ?_, fun j d' h => ?_, fun j io' es h => ?_, fun j k io1 io2 es es' a h1 h2 e1 e2 => ?_⟩, ⟨Sub.refl F, fun a o h w => ⟨?_, rfl, fun x => w (own' a x)⟩, fun a h => ?_, fun j es h => ⟨rfl, ?_⟩, rfl⟩⟩
  · have ne : a ≠ p := fun z => by
      rw [z, fp] at h
      cases h
    rw [upd_ne ne]
    exact s.sub a o h
  · rcases other j _ h with ⟨_, z⟩ | ⟨z, h⟩
    · cases z
    · exact s.val j d' h
  · rcases other j _ h with ⟨rfl, z⟩ | ⟨z, h⟩
    · cases z
      exact ⟨p, vs', e, upd_same, fp, r⟩
    · obtain ⟨p2, vs2, e2, hp2, fp2, r2⟩ := s.own j io' es h
      have ne : p2 ≠ p := fun w => z (s.dis j i _ _ _ _ p h q (by rw [← w]; exact e2) e)
      exact ⟨p2, vs2, e2, by rw [upd_ne ne]; exact hp2, fp2, r2⟩
  · have get : ∀ (j : Nat) (io' : Bool) (es : List D), (ρ.set i (.own io ds'))[j]? = some (.own io' es) → ∃ io' es, ρ[j]? = some (Sl.own io' es) := fun j io' es h => by
      rcases other j _ h with ⟨rfl, z⟩ | ⟨z, h⟩
      · exact ⟨_, _, q⟩
      · exact ⟨_, _, h⟩
    obtain ⟨_, _, q1⟩ := get j _ _ h1
    obtain ⟨_, _, q2⟩ := get k _ _ h2
    exact s.dis j k _ _ _ _ a q1 q2 e1 e2
  · rw [upd_ne fun z => w ⟨i, _, _, q, by rw [z]; exact e⟩]
    exact h
  · by_cases z : a = p
    · rw [z, upd_same] at h
      cases h
    · rw [upd_ne z] at h
      exact h
  · by_cases z : j = i
    · subst z
      rw [q] at h
      cases h
      exact ⟨ds', List.getElem?_set_self hi⟩
    · exact ⟨es, by rw [List.getElem?_set_ne (fun w => z w.symm)]; exact h⟩
end
end VL

set_option maxRecDepth 100000
/-! VL5: statements, targets, what is walked, loops. -/
namespace VL
open PySem L2

def sseq (f g : SM) : SM := bnd f fun fl => match fl with
  | .nx => g
  | .bk => ret .bk
  | .ct => ret .ct
  | .ret r => ret (.ret r)
def blk : List SM → SM
  | [] => ret .nx
  | [f] => f
  | f :: g :: fs => sseq f (blk (g :: fs))
def setS (i : Nat) (x : Sl) : M Unit := fun ρ => match ρ[i]? with
  | some (.own true _) => .bad
  | _ => .ok () (ρ.set i x)
def sto (i : Nat) : R → M Unit
  | .val d => setS i (.val d)
  | .fresh ds => setS i (.own false ds)
  | .slot j => bnd (toV (.slot j)) fun d => setS i (.val d)
def asg (i : Nat) (fe : M R) : SM := bnd fe fun r => bnd (sto i r) fun _ => ret .nx
def sexp (fe : M R) : SM := bnd fe fun _ => ret .nx
def sret (fe : M R) : SM := bnd fe fun r => ret (.ret r)
def sif (t : M Bool) (a b : SM) : SM := bnd t fun c => match c with
  | true => a
  | false => b
section
variable {X : Cx} {ct : Nat → Addr × Str} {E : L2.St → XK} {e a b c : Expr} {fe fa : M R} {f g : SM} {gt : M Bool} {pos : Pos} {st : Stmt} {rest sa sb : List Stmt}
theorem sseq_run {K : PySem.W.Frag} {Dn : Ends} {σ : L2.St} {H : Hp} (h : TSd K ct E (sseq f g) Dn σ H) : tSeq (TSd K ct E f) (TSd K ct E g) Dn σ H := by
  obtain ⟨ρ, F, s, h⟩ := h
  refine ⟨ρ, F, s, RunW.imp (RunW.bind h) fun fl ρ1 σ1 F1 H1 _ _ ⟨s1, st1, h1⟩ => ?_⟩
  cases fl with
  | nx => exact TSd.of s1 st1.dom h1
  | bk => exact h1 σ1 F1 H1 s1 (Step.refl ..)
  | ct => exact h1 σ1 F1 H1 s1 (Step.refl ..)
  | ret r => exact h1 σ1 F1 H1 s1 (Step.refl ..)
theorem k_nil : PSs X [] (TSd X.K ct E (blk [])) := pss_weak pss_nil fun D σ H ⟨ρ, F, s, h⟩ => h σ F H s (Step.refl ..)
theorem k_lone (h : PS X st (TSd X.K ct E f)) : PSs X [st] (TSd X.K ct E (blk [f])) := pss_one h
theorem k_cons {st2 : Stmt} {g : SM} {gs : List SM} (h : PS X st (TSd X.K ct E f)) (hr : PSs X (st2 :: rest) (TSd X.K ct E (blk (g :: gs)))) : PSs X (st :: st2 :: rest) (TSd X.K ct E (blk (f :: g :: gs))) :=
  pss_weak (pss_cons h hr) fun D σ H h => sseq_run (g := blk (g :: gs)) h
theorem k_pass : PS X (.Pass pos) (TSd X.K ct E (ret .nx)) := ps_weak ps_pass fun D σ H ⟨ρ, F, s, h⟩ => h σ F H s (Step.refl ..)
theorem k_break : PS X (.Break pos) (TSd X.K ct E (ret .bk)) := ps_weak ps_break fun D σ H ⟨ρ, F, s, h⟩ => h σ F H s (Step.refl ..)
theorem k_continue : PS X (.Continue pos) (TSd X.K ct E (ret .ct)) := ps_weak ps_continue fun D σ H ⟨ρ, F, s, h⟩ => h σ F H s (Step.refl ..)
theorem k_expr (he : PE X e (T X.K ct E fe)) (hs : swapsWith e none pos.line X.env = pure false := by rfl) : PS X (.Expr e pos) (TSd X.K ct E (sexp fe)) := ps_weak (ps_expr he hs) fun D σ H ⟨ρ, F, s, h⟩ =>
  ⟨ρ, F, s, RunG.imp (RunW.toG h) fun r ρ1 F1 H1 _ _ ⟨s1, st1, h1⟩ v rr => h1 σ F1 H1 s1 (Step.refl ..)⟩
theorem k_ret (he : PE X e (T X.K ct E fe)) : PS X (.Return (some e) pos) (TSd X.K ct E (sret fe)) := ps_weak (ps_ret he) fun D σ H ⟨ρ, F, s, h⟩ =>
  ⟨ρ, F, s, RunG.imp (RunW.toG h) fun r ρ1 F1 H1 _ _ ⟨s1, st1, h1⟩ v rr => h1 σ F1 H1 s1 (Step.refl ..) v rr⟩
theorem k_retN : PS X (.Return none pos) (TSd X.K ct E (ret (.ret (.val .non)))) := ps_weak ps_retN fun D σ H ⟨ρ, F, s, h⟩ => h σ F H s (Step.refl ..) _ .non
theorem k_if (ht : PT X c (Tt X.K ct E gt)) (ha : PSs X sa (TSd X.K ct E f)) (hb : PSs X sb (TSd X.K ct E g)) : PS X (.If c sa sb pos) (TSd X.K ct E (sif gt f g)) := ps_weak (ps_if ht ha hb) fun D σ H ⟨ρ, F, s, h⟩ =>
  ⟨ρ, F, s, RunG.imp (RunW.toG h) fun c ρ1 F1 H1 _ _ ⟨s1, st1, h1⟩ => by
    cases c with
    | true => exact iteT (TSd.of s1 st1.dom h1)
    | false => exact iteF (TSd.of s1 st1.dom h1)⟩
/-- a statement that the data never comes to -/
theorem k_never {st : Stmt} : PS X st (TSd X.K ct E (fun _ => .bad)) := ps_weak ps_never fun D σ H ⟨ρ, F, s, h⟩ => h
/-! ### x = e -/
theorem setS_ok {i : Nat} {x : Sl} {ρ ρ' : En} (h : setS i x ρ = .ok () ρ') : (∀ ds, ρ[i]? ≠ some (Sl.own true ds)) ∧ ρ' = ρ.set i x := by
  unfold setS at h
  split at h
  · cases h
  · rename_i q
    cases h
    exact ⟨fun ds z => q ds z, rfl⟩
theorem setS_cases (i : Nat) (x : Sl) (ρ : En) : setS i x ρ = .bad ∨ setS i x ρ = .ok () (ρ.set i x) := by
  unfold setS
  split
  · exact .inl rfl
  · exact .inr rfl
theorem sto_run {K : PySem.W.Frag} {i : Nat} {r : R} {β : Type} {k : M β} {ρ0 ρ : En} {σ : L2.St} {F0 F H0 H : Hp} {v : V} {P : β → En → L2.St → Hp → Hp → Prop} (s : SR K ρ σ F H) (st : Step ρ0 σ F0 H0 ρ σ F H) (rr : RepR K ρ σ F H H0 v r)
    (h : RunW K ct E (bnd (sto i r) (fun _ => k) ρ) ρ0 σ F0 H0 P) : ∃ ρ1 F1, SR K ρ1 (σ.set i (some v)) F1 H ∧ Step ρ0 σ F0 H0 ρ1 (σ.set i (some v)) F1 H ∧ RunW K ct E (k ρ1) ρ0 σ F0 H0 P := by
  cases r with
  | val d =>
    rcases setS_cases i (.val d) ρ with q | q
    · rw [show bnd (sto i (.val d)) (fun _ => k) ρ = .bad from by simp only [bnd, sto, q, Res.bind]] at h
      exact h.elim
    · rw [show bnd (sto i (.val d)) (fun _ => k) ρ = k (ρ.set i (.val d)) from by simp only [bnd, sto, q, Res.bind]] at h
      obtain ⟨s1, st1⟩ := sr_val s rr (setS_ok q).1
      exact ⟨_, F, s1, st.trans st1, h⟩
  | fresh ds =>
    rcases setS_cases i (.own false ds) ρ with q | q
    · rw [show bnd (sto i (.fresh ds)) (fun _ => k) ρ = .bad from by simp only [bnd, sto, q, Res.bind]] at h
      exact h.elim
    · rw [show bnd (sto i (.fresh ds)) (fun _ => k) ρ = k (ρ.set i (.own false ds)) from by simp only [bnd, sto, q, Res.bind]] at h
      obtain ⟨p, vs, rfl, h0, hp, fp, no, r⟩ := rr
      obtain ⟨s1, st1⟩ := sr_own s st h0 hp fp no r (setS_ok q).1
      exact ⟨_, F, s1, st1, h⟩
  | slot j =>
    obtain ⟨e, io, ds, q2⟩ := rr
    cases io with
    | true =>
      rw [show bnd (sto i (.slot j)) (fun _ => k) ρ = .bad from by simp only [bnd, sto, toV, q2, Res.bind]] at h
      exact h.elim
    | false =>
      obtain ⟨v', F1, e1, s1, st1, r1⟩ := freeze_own s q2
      rw [e] at e1
      cases e1
      rcases setS_cases i (.val (.lst ds)) (ρ.set j (.val (.lst ds))) with q | q
      · rw [show bnd (sto i (.slot j)) (fun _ => k) ρ = .bad from by simp only [bnd, sto, toV, q2, Res.bind, q]] at h
        exact h.elim
      · rw [show bnd (sto i (.slot j)) (fun _ => k) ρ = k ((ρ.set j (.val (.lst ds))).set i (.val (.lst ds))) from by simp only [bnd, sto, toV, q2, Res.bind, q]] at h
        obtain ⟨s3, st3⟩ := sr_val s1 r1 (setS_ok q).1
        exact ⟨_, F1, s3, st.trans (st1.trans st3), h⟩
theorem asg_run {i : Nat} {D : Ends} {σ : L2.St} {H : Hp} (h : TSd X.K ct E (asg i fe) D σ H) : tAsg (T X.K ct E fe) (gName i) D σ H := by
  obtain ⟨ρ, F, s, h⟩ := h
  have hG : RunG X.K ct E (fe ρ) ρ σ F H fun r ρ1 F1 H1 => SR X.K ρ1 σ F1 H1 ∧ Step ρ σ F H ρ1 σ F1 H1 ∧ RunW X.K ct E (bnd (sto i r) (fun _ => ret .nx) ρ1) ρ σ F H (SPd X.K D H) := by
    have h : RunW X.K ct E ((fe ρ).bind fun r => bnd (sto i r) fun _ => ret .nx) ρ σ F H (SPd X.K D H) := h
    cases q : fe ρ with
    | ok r ρ1 =>
      rw [q] at h
      exact fun F' H' s' t => ⟨s', t, h⟩
    | exn c d ρ1 =>
      rw [q] at h
      exact h
    | bad =>
      rw [q] at h
      exact h
  refine ⟨ρ, F, s, RunG.imp hG fun r ρ1 F1 H1 _ _ ⟨s1, st1, h1⟩ v rr => ?_⟩
  obtain ⟨ρ2, F2, s2, st2, h2⟩ := sto_run s1 st1 rr h1
  exact h2 _ F2 H1 s2 st2
theorem k_asg (i : Nat) {x : Str} {pos' : Pos} (hN : X.N.Nodup) (he : PE X e (T X.K ct E fe)) (hi : X.N[i]? = some x := by rfl) (hx : Loc X.env.scope x := by first | exact Or.inl rfl | exact Or.inr rfl) (hs : swapsWith e (some (.Name x pos')) pos.line X.env = pure false := by rfl)
    (hf : X.fn x = true ∨ X.env.scope.names.lookup x = some .local := by first | exact .inl rfl | exact .inr rfl | assumption) : PS X (.Assign [.Name x pos'] e pos) (TSd X.K ct E (asg i fe)) :=
  ps_weak (ps_set hN hi hx he hs hf) fun D σ H h => asg_run h
end
/-! ### targets -/
def gnm (i : Nat) : D → M Unit := fun d => setS i (.val d)
def gseq : List (D → M Unit) → List D → M Unit
  | [], [] => ret ()
  | b :: bs, d :: ds => bnd (b d) fun _ => gseq bs ds
  | _, _ => fun _ => .bad
def gtp (bs : List (D → M Unit)) : D → M Unit := fun d => match d with
  | .tup ds => gseq bs ds
  | _ => fun _ => .bad
/-- what a target does: no heap changes; slots of vs alone -/
def GS (K : PySem.W.Frag) (g : TG) (t : D → M Unit) (vs : List Nat) : Prop := ∀ (ρ : En) (σ : L2.St) (F H : Hp) (v : V) (d : D), SR K ρ σ F H → Rep K F v d →
  (t d ρ = .bad ∨ (∃ ρ' σ', t d ρ = .ok () ρ' ∧ SR K ρ' σ' F H ∧ Step ρ σ F H ρ' σ' F H ∧ wipe σ' vs = wipe σ vs ∧ ∀ Q : L2.St → Hp → Prop, Q σ' H → g v σ H Q))
def GSs (K : PySem.W.Frag) (g : TGs) (t : List D → M Unit) (vs : List Nat) (n : Nat) : Prop := ∀ (ρ : En) (σ : L2.St) (F H : Hp) (ws : List V) (ds : List D), SR K ρ σ F H → Reps K F ws ds →
  (t ds ρ = .bad ∨ (ws.length = n ∧ ∃ ρ' σ', t ds ρ = .ok () ρ' ∧ SR K ρ' σ' F H ∧ Step ρ σ F H ρ' σ' F H ∧ wipe σ' vs = wipe σ vs ∧ ∀ Q : L2.St → Hp → Prop, Q σ' H → g ws σ H Q))
theorem wipe_set {σ : L2.St} {i : Nat} {o : Option V} : ∀ {vs : List Nat}, i ∈ vs → wipe (σ.set i o) vs = wipe σ vs
  | [], h => by cases h
  | v :: vs, h => by
    unfold wipe
    by_cases z : i ∈ vs
    · rw [wipe_set z]
    · have e : i = v := by
        rcases List.mem_cons.mp h with e | e
        · exact e
        · exact absurd e z
      subst e
      have : ∀ (ws : List Nat), wipe (σ.set i o) ws = (wipe σ ws).set i o ∨ wipe (σ.set i o) ws = wipe σ ws := by
        intro ws
        induction ws with
        | nil => exact .inl rfl
        | cons w ws ih =>
          unfold wipe
          rcases ih with ih | ih
          · rw [ih]
            by_cases q : i = w
            · subst q
              right
              rw [List.set_set]
            · left
              rw [List.set_comm _ _ q]
          · right
            rw [ih]
      rcases this vs with q | q
      · rw [q, List.set_set]
      · rw [q]
section
variable {K : PySem.W.Frag}
theorem gs_name {i : Nat} {vs : List Nat} (h : i ∈ vs) : GS K (gName i) (gnm i) vs := fun ρ σ F H v d s r => by
  rcases setS_cases i (.val d) ρ with q | q
  · exact .inl q
  · obtain ⟨s1, st1⟩ := sr_val s r (setS_ok q).1
    exact .inr ⟨_, _, q, s1, st1, wipe_set h, fun Q k => k⟩
theorem gs_nil {vs : List Nat} : GSs K gNil (gseq []) vs 0 := fun ρ σ F H ws ds s r => by
  cases r with
  | nil => exact .inr ⟨rfl, ρ, σ, rfl, s, Step.refl .., rfl, fun Q k => ⟨rfl, k⟩⟩
  | cons a b => exact .inl rfl
theorem gs_cons {g : TG} {gs : TGs} {b : D → M Unit} {bs : List (D → M Unit)} {vs : List Nat} {n : Nat} (h : GS K g b vs) (hs : GSs K gs (gseq bs) vs n) : GSs K (gCons g gs) (gseq (b :: bs)) vs (n + 1) := fun ρ σ F H ws ds s r => by
  cases r with
  | nil => exact .inl rfl
  | @cons v d ws ds a r =>
    have e0 : ∀ {ρ1 : En}, b d ρ = .ok () ρ1 → gseq (b :: bs) (d :: ds) ρ = gseq bs ds ρ1 := fun {ρ1} q => by
      show bnd (b d) (fun _ => gseq bs ds) ρ = _
      simp only [bnd, q, Res.bind]
    rcases h ρ σ F H v d s a with q | ⟨ρ1, σ1, q, s1, st1, w1, k1⟩
    · refine .inl ?_
      show bnd (b d) (fun _ => gseq bs ds) ρ = .bad
      simp only [bnd, q, Res.bind]
    · rcases hs ρ1 σ1 F H ws ds s1 r with q2 | ⟨l, ρ2, σ2, q2, s2, st2, w2, k2⟩
      · exact .inl ((e0 q).trans q2)
      · exact .inr ⟨by simp [l], ρ2, σ2, (e0 q).trans q2, s2, st1.trans st2, w2.trans w1, fun Q k => ⟨v, ws, rfl, k1 _ (k2 Q k)⟩⟩
theorem gs_tup {gs : TGs} {bs : List (D → M Unit)} {vs : List Nat} {n : Nat} (h : GSs K gs (gseq bs) vs n) : GS K (gTup K n gs) (gtp bs) vs := fun ρ σ F H v d s r => by
  cases r with
  | @tup a ws ds hs r =>
    rcases h ρ σ F H ws ds s r with q | ⟨l, ρ1, σ1, q, s1, st1, w1, k1⟩
    · exact .inl q
    · exact .inr ⟨ρ1, σ1, q, s1, st1, w1, fun Q k => ⟨a, ws, rfl, s.sub.t hs, l, k1 Q k⟩⟩
  | non => exact .inl rfl
  | bl b => exact .inl rfl
  | int b => exact .inl rfl
  | str b _ => exact .inl rfl
  | lst _ _ => exact .inl rfl
  | scr _ => exact .inl rfl
end
section
variable {X : Cx} {ct : Nat → Addr × Str} {E : L2.St → XK}
/-- a target, its reading, its slots -/
structure PGd (X : Cx) (tg : Expr) (g : TG) (t : D → M Unit) (vs : List Nat) : Prop where
  pg : PG X tg g
  gs : GS X.K g t vs
structure PGsd (X : Cx) (tgs : List Expr) (g : TGs) (ts : List (D → M Unit)) (vs : List Nat) (n : Nat) : Prop where
  pg : PGs X tgs g
  gs : GSs X.K g (gseq ts) vs n
theorem k_gn (i : Nat) {x : Str} {pos : Pos} {vs : List Nat} (hN : X.N.Nodup) (hm : i ∈ vs := by decide) (hi : X.N[i]? = some x := by rfl) (hx : Loc X.env.scope x := by first | exact Or.inl rfl | exact Or.inr rfl) (hf : X.fn x = true ∨ X.env.scope.names.lookup x = some .local := by first | exact .inl rfl | exact .inr rfl) :
    PGd X (.Name x pos) (gName i) (gnm i) vs := ⟨pg_name hN hi hx hf, gs_name hm⟩
theorem k_gsnil {vs : List Nat} : PGsd X [] gNil [] vs 0 := ⟨pgs_nil, gs_nil⟩
theorem k_gscons {e : Expr} {es : List Expr} {g : TG} {gs : TGs} {t : D → M Unit} {ts : List (D → M Unit)} {vs : List Nat} {n : Nat} (h : PGd X e g t vs) (hs : PGsd X es gs ts vs n)
    (hh : (assignEach (e :: es) X.env).map (·.2) = assign e X.env :: (assignEach es X.env).map (·.2) := by rfl) : PGsd X (e :: es) (gCons g gs) (t :: ts) vs (n + 1) := ⟨pgs_cons h.pg hs.pg hh, gs_cons h.gs hs.gs⟩
theorem k_gtup {es : List Expr} {k : Nat} {pos : Pos} {gs : TGs} {ts : List (D → M Unit)} {vs : List Nat} {n : Nat} (hc : X.calm = true) (h : PGsd X es gs ts vs n)
    (hn : (assignEach es X.env).length = n := by rfl) (hst : (assignEach es X.env).findIdx? (·.1) = none := by rfl) : PGd X (.Tuple es k pos) (gTup X.K n gs) (gtp ts) vs := ⟨pg_tup hc h.pg hn hst, gs_tup h.gs⟩
/-- a, b = e -/
def asgT (t : D → M Unit) (fe : M R) : SM := bnd fe fun r => bnd (toV r) fun d => bnd (t d) fun _ => ret .nx
theorem gs_run {K : PySem.W.Frag} {g : TG} {t : D → M Unit} {vs : List Nat} (gs : GS K g t vs) {β : Type} {k : M β} {ρ0 ρ : En} {σ0 σ : L2.St} {F0 F H0 H : Hp} {v : V} {d : D} {P : β → En → L2.St → Hp → Hp → Prop} {Q : L2.St → Hp → Prop} (s : SR K ρ σ F H) (r : Rep K F v d)
    (h : RunW K ct E (bnd (t d) (fun _ => k) ρ) ρ0 σ0 F0 H0 P) (c : ∀ ρ' σ', SR K ρ' σ' F H → Step ρ σ F H ρ' σ' F H → wipe σ' vs = wipe σ vs → RunW K ct E (k ρ') ρ0 σ0 F0 H0 P → Q σ' H) : g v σ H Q := by
  rcases gs ρ σ F H v d s r with q | ⟨ρ1, σ1, q, s1, st1, w1, k1⟩
  · rw [show bnd (t d) (fun _ => k) ρ = .bad from by simp only [bnd, q, Res.bind]] at h
    exact h.elim
  · rw [show bnd (t d) (fun _ => k) ρ = k ρ1 from by simp only [bnd, q, Res.bind]] at h
    exact k1 Q (c ρ1 σ1 s1 st1 w1 h)
theorem k_asgT {e tg : Expr} {fe : M R} {g : TG} {t : D → M Unit} {vs : List Nat} {pos : Pos} (he : PE X e (T X.K ct E fe)) (hg : PGd X tg g t vs) (hs : swapsWithSole [tg] e pos.line X.env = pure false := by rfl) (hw : swappedStores [tg] e X.env = pure none := by rfl)
    (h1 : (assignEach [tg] X.env).map (·.2) = [assign tg X.env] := by rfl) : PS X (.Assign [tg] e pos) (TSd X.K ct E (asgT t fe)) := ps_weak (ps_asg he hg.pg hs hw h1) fun D σ H ⟨ρ, F, s, h⟩ => by
  obtain ⟨ρ0, F0, s0, h0⟩ := T_vW s h
  refine ⟨ρ0, F0, s0, RunG.imp h0 fun r1 ρ1 F1 H1 s1 st1 k v rr => ?_⟩
  obtain ⟨d, ρ2, F2, s2, ra, st2, h2⟩ := k v rr
  exact gs_run hg.gs s2 ra h2 fun ρ' σ' s3 st3 _ h3 => h3 σ' F2 H1 s3 st3
/-! ### what is walked -/
/-- an iterator gives these data -/
def Yields (K : PySem.W.Frag) (J : It) (ds : List D) (F0 : Hp) : Prop := ∀ (F H : Hp) (i : Nat), Sub F0 F → Sub F H → ((∀ d, ds[i]? = some d → J.go i H ∧ ∀ x H', J.yld i H x H' → ∃ F', Grow F H F' H' ∧ Rep K F' x d) ∧ (ds.length = i → J.stop i H))
def TId (K : PySem.W.Frag) (ct : Nat → Addr × Str) (E : L2.St → XK) (f : M (List D)) : TI := fun σ H R => ∃ ρ F, SR K ρ σ F H ∧ RunG K ct E (f ρ) ρ σ F H fun ds ρ' F' H' => ∀ J, Yields K J ds F' → R J H'
/-- a for's turns -/
def forL (t : D → M Unit) (body : SM) : List D → SM
  | [] => ret .nx
  | d :: ds => bnd (t d) fun _ => bnd body fun fl => match fl with
    | .nx => forL t body ds
    | .ct => forL t body ds
    | .bk => ret .nx
    | .ret r => ret (.ret r)
def sfor (it : M (List D)) (t : D → M Unit) (body : SM) : SM := bnd it fun ds => forL t body ds
theorem k_for {iter tg : Expr} {body : List Stmt} {it : M (List D)} {g : TG} {t : D → M Unit} {vs : List Nat} {fb : SM} {pos : Pos} (hp : PassesOwn (model X.prog X.w) X.A X.env X.xe) (hc : X.calm = true) (hi : PI X tg iter (TId X.K ct E it)) (hg : PGd X tg g t vs) (hb : PSs X body (TSd X.K ct E fb))
    (hs : ∀ x, foldedSetIterable iter X.env x = pure x := by intro _; rfl) : PS X (.For tg iter body [] pos) (TSd X.K ct E (sfor it t fb)) := ps_weak (ps_for hp hc hi hg.pg hb hs) fun D σ H ⟨ρ, F, s, h⟩ => by
  refine ⟨ρ, F, s, RunG.imp (RunW.toG h) fun ds ρ1 F1 H1 _ _ ⟨s1, st1, h1⟩ J hJ => ?_⟩
  refine ⟨fun i m σ' H' => m = ds.length - i ∧ i ≤ ds.length ∧ ∃ ρ' F', SR X.K ρ' σ' F' H' ∧ Sub F1 F' ∧ (∀ a, H' a = none → H a = none) ∧ RunW X.K ct E (forL t fb (ds.drop i) ρ') ρ' σ' F' H' (SPd X.K D H),
    ⟨_, rfl, Nat.zero_le _, ρ1, F1, s1, Sub.refl _, st1.dom, h1⟩, ?_⟩
  rintro i m σ2 H2 ⟨rfl, hi, ρ2, F2, s2, sub2, dom2, h2⟩
  by_cases hlt : i < ds.length
  · obtain ⟨go, yl⟩ := (hJ F2 H2 i sub2 s2.sub).1 ds[i] (List.getElem?_eq_getElem hlt)
    refine .inr ⟨go, fun σ' H' => ds.length - (i + 1) = ds.length - (i + 1) ∧ i + 1 ≤ ds.length ∧ ∃ ρ' F', SR X.K ρ' σ' F' H' ∧ Sub F1 F' ∧ (∀ a, H' a = none → H a = none) ∧ RunW X.K ct E (forL t fb (ds.drop (i + 1)) ρ') ρ' σ' F' H' (SPd X.K D H),
      fun σ' H' w => ⟨ds.length - (i + 1), by omega, w⟩, fun x H3 y => ?_⟩
    obtain ⟨F3, gr, rx⟩ := yl x H3 y
    rw [List.drop_eq_getElem_cons hlt] at h2
    have s3 := gr.sr s2
    refine gs_run (P := SPd X.K D H) hg.gs s3 rx (RunW.step h2 gr.step) fun ρ4 σ4 s4 st4 _ h4 => ?_
    have h5 := RunW.step h4 st4
    refine ⟨ρ4, F3, s4, RunW.imp (RunW.bind h5) fun fl ρ5 σ5 F5 H5 _ _ ⟨s5, st5, h6⟩ => ?_⟩
    have dom5 : ∀ a, H5 a = none → H a = none := fun a z => dom2 a (gr.dom (st5.dom a z))
    have sub5 : Sub F1 F5 := (sub2.trans gr.ff).trans st5.mono
    cases fl with
    | nx => exact ⟨rfl, hlt, ρ5, F5, s5, sub5, dom5, h6⟩
    | ct => exact ⟨rfl, hlt, ρ5, F5, s5, sub5, dom5, h6⟩
    | bk => exact h6 σ5 F5 H5 s5 (Step.refl ..)
    | ret r => exact fun v rr => h6 σ5 F5 H5 s5 (Step.refl ..) v (rr.back fun a z => gr.dom z |> dom2 a)
  · have e : i = ds.length := by omega
    subst e
    rw [List.drop_length] at h2
    exact .inl ⟨(hJ F2 H2 _ sub2 s2.sub).2 rfl, h2 σ2 F2 H2 s2 (Step.refl ..)⟩
/-! ### while -/
def whL (t : M Bool) (body : SM) : Nat → SM
  | 0 => fun _ => .bad
  | n + 1 => bnd t fun c => match c with
    | false => ret .nx
    | true => bnd body fun fl => match fl with
      | .nx => whL t body n
      | .ct => whL t body n
      | .bk => ret .nx
      | .ret r => ret (.ret r)
theorem k_while {c : Expr} {body : List Stmt} {ft : M Bool} {fb : SM} {pos : Pos} (n : Nat) (hp : PassesOwn (model X.prog X.w) X.A X.env X.xe) (hc : PT X c (Tt X.K ct E ft)) (hb : PSs X body (TSd X.K ct E fb)) : PS X (.While c body [] pos) (TSd X.K ct E (whL ft fb n)) :=
  ps_weak (ps_while hp hc hb) fun D σ H ⟨ρ, F, s, h⟩ => by
    refine ⟨fun m σ' H' => ∃ ρ' F', SR X.K ρ' σ' F' H' ∧ (∀ a, H' a = none → H a = none) ∧ RunW X.K ct E (whL ft fb m ρ') ρ' σ' F' H' (SPd X.K D H), ⟨n, ρ, F, s, fun _ z => z, h⟩, ?_⟩
    rintro m σ2 H2 ⟨ρ2, F2, s2, dom2, h2⟩
    cases m with
    | zero => exact h2.elim
    | succ m =>
      refine ⟨ρ2, F2, s2, RunG.imp (RunW.toG h2) fun c ρ3 F3 H3 _ _ ⟨s3, st3, h3⟩ => ?_⟩
      have dom3 : ∀ a, H3 a = none → H a = none := fun a z => dom2 a (st3.dom a z)
      cases c with
      | false => exact iteF (h3 σ2 F3 H3 s3 (Step.refl ..))
      | true =>
        refine iteT ⟨fun σ' H' => ∃ ρ' F', SR X.K ρ' σ' F' H' ∧ (∀ a, H' a = none → H a = none) ∧ RunW X.K ct E (whL ft fb m ρ') ρ' σ' F' H' (SPd X.K D H), fun σ' H' w => ⟨m, Nat.lt_succ_self m, w⟩, ?_⟩
        refine ⟨ρ3, F3, s3, RunW.imp (RunW.bind h3) fun fl ρ5 σ5 F5 H5 _ _ ⟨s5, st5, h6⟩ => ?_⟩
        have dom5 : ∀ a, H5 a = none → H a = none := fun a z => dom3 a (st5.dom a z)
        cases fl with
        | nx => exact ⟨ρ5, F5, s5, dom5, h6⟩
        | ct => exact ⟨ρ5, F5, s5, dom5, h6⟩
        | bk => exact h6 σ5 F5 H5 s5 (Step.refl ..)
        | ret r => exact fun v rr => h6 σ5 F5 H5 s5 (Step.refl ..) v (rr.back dom3)
end
end VL

set_option maxRecDepth 100000
/-! VL6: lists, tuples, ranges, zip, enumerate walked; comprehensions; own lists changed. -/
namespace VL
open PySem L2

section
variable {X : Cx} {ct : Nat → Addr × Str} {E : L2.St → XK} {e : Expr} {es : List Expr} {f : M R} {fs : List (M R)} {pos p : Pos}
theorem pi_or {tg it : Expr} {t u : TI} (h : PI X tg it t) (h' : PI X tg it u) : PI X tg it (fun σ H R => t σ H R ∨ u σ H R) := ⟨fun pins s σ H Q I q => q.elim (h.run pins s σ H Q I) (h'.run pins s σ H Q I)⟩
/-! ### what is walked -/
def asSeq (d : D) : M (List D) := match d with
  | .lst ds => ret ds
  | .tup ds => ret ds
  | _ => fun _ => .bad
def itSeq (f : M R) : M (List D) := bnd f fun r => bnd (toV r) asSeq
theorem yields_list {K : PySem.W.Frag} {a : Addr} {vs : List V} {ds : List D} {F0 : Hp} (h : F0 a = some (.lst vs)) (r : Reps K F0 vs ds) : Yields K (Itl K a) ds F0 := fun F H i s1 s2 => by
  have hq : SqL K H a vs := .of (s2 _ _ (s1 _ _ h))
  refine ⟨fun d e => ?_, fun e => ⟨vs, hq, by rw [r.length]; omega⟩⟩
  obtain ⟨v, e1, rv⟩ := r.get e
  refine ⟨⟨vs, v, hq, e1⟩, fun x H' y => ?_⟩
  obtain ⟨rfl, y⟩ := y
  have := y vs hq
  rw [e1] at this
  cases this
  exact ⟨F, Grow.refl s2, rv.mono s1⟩
theorem yields_tup {K : PySem.W.Frag} {a : Addr} {vs : List V} {ds : List D} {F0 : Hp} (h : SqT K F0 a vs) (r : Reps K F0 vs ds) : Yields K (Itt K a) ds F0 := fun F H i s1 s2 => by
  have hq : SqT K H a vs := (s1.trans s2).t h
  refine ⟨fun d e => ?_, fun e => ⟨vs, hq, by rw [r.length]; omega⟩⟩
  obtain ⟨v, e1, rv⟩ := r.get e
  refine ⟨⟨vs, v, hq, e1⟩, fun x H' y => ?_⟩
  obtain ⟨rfl, y⟩ := y
  have := y vs hq
  rw [e1] at this
  cases this
  exact ⟨F, Grow.refl s2, rv.mono s1⟩
def asL (d : D) : M (List D) := match d with
  | .lst ds => ret ds
  | _ => fun _ => .bad
def asU (d : D) : M (List D) := match d with
  | .tup ds => ret ds
  | _ => fun _ => .bad
theorem bnd_toV {β : Type} (f : M R) (k : D → M β) (ρ : En) : bnd f (fun r => bnd (toV r) k) ρ = (bnd f toV ρ).bind k := by
  show _ = bnd (bnd f toV) k ρ
  rw [bnd_assoc]
theorem itL_run {σ : L2.St} {H : Hp} {R : It → Hp → Prop} {ρ : En} {F : Hp} (s : SR X.K ρ σ F H) (h : RunG X.K ct E (bnd f (fun r => bnd (toV r) asL) ρ) ρ σ F H fun ds ρ' F' H' => ∀ J, Yields X.K J ds F' → R J H') : iList X.K (T X.K ct E f) σ H R := by
  obtain ⟨ρ0, F0, s0, h0⟩ := T_v s h
  refine ⟨ρ0, F0, s0, RunG.imp h0 fun r1 ρ1 F1 H1 s1 st1 k v rr => ?_⟩
  obtain ⟨d, ρ2, F2, s2, ra, st2, h2⟩ := k v rr
  cases ra with
  | lst hp r => exact ⟨_, rfl, ⟨_, .of (s2.sub _ _ hp)⟩, h2 F2 H1 s2 (Step.refl ..) _ (yields_list hp r)⟩
  | non => exact h2.elim
  | bl b => exact h2.elim
  | int b => exact h2.elim
  | str b _ => exact h2.elim
  | tup _ _ => exact h2.elim
  | scr _ => exact h2.elim
theorem itU_run {σ : L2.St} {H : Hp} {R : It → Hp → Prop} {ρ : En} {F : Hp} (s : SR X.K ρ σ F H) (h : RunG X.K ct E (bnd f (fun r => bnd (toV r) asU) ρ) ρ σ F H fun ds ρ' F' H' => ∀ J, Yields X.K J ds F' → R J H') : iTup X.K (T X.K ct E f) σ H R := by
  obtain ⟨ρ0, F0, s0, h0⟩ := T_v s h
  refine ⟨ρ0, F0, s0, RunG.imp h0 fun r1 ρ1 F1 H1 s1 st1 k v rr => ?_⟩
  obtain ⟨d, ρ2, F2, s2, ra, st2, h2⟩ := k v rr
  cases ra with
  | tup hp r => exact ⟨_, rfl, ⟨_, s2.sub.t hp⟩, h2 F2 H1 s2 (Step.refl ..) _ (yields_tup hp r)⟩
  | non => exact h2.elim
  | bl b => exact h2.elim
  | int b => exact h2.elim
  | str b _ => exact h2.elim
  | lst _ _ => exact h2.elim
  | scr _ => exact h2.elim
theorem k_iter {tg : Expr} (he : PE X e (T X.K ct E f)) : PI X tg e (TId X.K ct E (itSeq f)) := pi_weak (pi_or (pi_list he) (pi_tup he)) fun σ H R ⟨ρ, F, s, h⟩ => by
  have e1 : itSeq f ρ = (bnd f toV ρ).bind asSeq := bnd_toV f asSeq ρ
  have e2 : bnd f (fun r => bnd (toV r) asL) ρ = (bnd f toV ρ).bind asL := bnd_toV f asL ρ
  have e3 : bnd f (fun r => bnd (toV r) asU) ρ = (bnd f toV ρ).bind asU := bnd_toV f asU ρ
  cases q : bnd f toV ρ with
  | bad =>
    rw [e1, q] at h
    exact h.elim
  | exn c d ρ1 =>
    refine .inl (itL_run s ?_)
    rw [e2, q]
    rw [e1, q] at h
    exact h
  | ok d ρ1 =>
    cases d with
    | lst ds =>
      refine .inl (itL_run s ?_)
      rw [e2, q]
      rw [e1, q] at h
      exact h
    | tup ds =>
      refine .inr (itU_run s ?_)
      rw [e3, q]
      rw [e1, q] at h
      exact h
    | non =>
      rw [e1, q] at h
      exact h.elim
    | bl b =>
      rw [e1, q] at h
      exact h.elim
    | int b =>
      rw [e1, q] at h
      exact h.elim
    | str b =>
      rw [e1, q] at h
      exact h.elim
    | scr b =>
      rw [e1, q] at h
      exact h.elim
/-- ranges -/
def rngD (lo : Int) (n : Nat) : List D := (List.range n).map fun k => .int (lo + (k : Nat))
def rng1 : List Od → M (List D) := fun os ρ => match os with
  | [.val (.int j)] => if -(2 ^ 62) ≤ j ∧ j < 2 ^ 62 then .ok (rngD 0 j.toNat) ρ else .bad
  | _ => .bad
def rng2 : List Od → M (List D) := fun os ρ => match os with
  | [.val (.int i), .val (.int j)] => if -(2 ^ 62) ≤ i ∧ i < 2 ^ 62 ∧ -(2 ^ 62) ≤ j ∧ j < 2 ^ 62 then .ok (rngD i (j - i).toNat) ρ else .bad
  | _ => .bad
theorem yields_rng {K : PySem.W.Frag} {lo : Int} {n : Nat} {F0 : Hp} : Yields K (Itr lo n) (rngD lo n) F0 := fun F H i s1 s2 => by
  refine ⟨fun d e => ?_, fun e => by
    rw [rngD, List.length_map, List.length_range] at e
    exact Nat.le_of_eq e⟩
  rw [rngD, List.getElem?_map] at e
  by_cases hi : i < n
  · rw [List.getElem?_range hi] at e
    cases e
    refine ⟨hi, fun x H' y => ?_⟩
    obtain ⟨rfl, rfl⟩ := y
    exact ⟨F, Grow.refl s2, .int _⟩
  · rw [List.getElem?_eq_none (by simpa using hi)] at e
    cases e
theorem k_rng1 {tg a : Expr} (hg : Gl X "range") (hm : X.mg "range" = none) (ha : PA X [a] (TAo X.K ct E [f])) (hs : starEach [a] X.env = [(false, eval a X.env)] := by rfl) : PI X tg (.Call (.Name "range" p) [a] [] pos) (TId X.K ct E (bnd (evO [f]) rng1)) :=
  pi_weak (pi_range1 hg hm ha hs) fun σ H R ⟨ρ, F, s, h⟩ => by
    refine ⟨ρ, F, s, RunG.imp (RunG.bind h) fun os ρ1 F1 H1 z1 z2 z3 vs rv => ?_⟩
    obtain ⟨s1, st1, h1⟩ := z3
    unfold rng1 at h1
    split at h1
    · rename_i j
      split at h1
      · rename_i hb
        match vs, rv with
        | [v], ⟨r1, _⟩ =>
          have r1 : Rep X.K F1 v (.int j) := r1
          cases r1
          exact ⟨j, rfl, hb.1, hb.2, h1 F1 H1 s1 (Step.refl ..) _ yields_rng⟩
      · exact h1.elim
    · exact h1.elim
theorem k_rng2 {tg a b : Expr} {f2 : M R} (hg : Gl X "range") (hm : X.mg "range" = none) (ha : PA X [a, b] (TAo X.K ct E [f, f2])) (hs : starEach [a, b] X.env = [(false, eval a X.env), (false, eval b X.env)] := by rfl) (hs2 : starEach [b] X.env = [(false, eval b X.env)] := by rfl) : PI X tg (.Call (.Name "range" p) [a, b] [] pos) (TId X.K ct E (bnd (evO [f, f2]) rng2)) :=
  pi_weak (pi_range2 hg hm ha hs hs2) fun σ H R ⟨ρ, F, s, h⟩ => by
    refine ⟨ρ, F, s, RunG.imp (RunG.bind h) fun os ρ1 F1 H1 z1 z2 z3 vs rv => ?_⟩
    obtain ⟨s1, st1, h1⟩ := z3
    unfold rng2 at h1
    split at h1
    · rename_i i j
      split at h1
      · rename_i hb
        match vs, rv with
        | [v, w], ⟨r1, r2, _⟩ =>
          have r1 : Rep X.K F1 v (.int i) := r1
          have r2 : Rep X.K F1 w (.int j) := r2
          cases r1
          cases r2
          exact ⟨i, j, rfl, hb, h1 F1 H1 s1 (Step.refl ..) _ yields_rng⟩
      · exact h1.elim
    · exact h1.elim
/-- zip of two lists, enumerate of a list -/
def zipD : List D → List D → List D
  | a :: as, b :: bs => .tup [a, b] :: zipD as bs
  | _, _ => []
def enumD : Int → List D → List D
  | _, [] => []
  | i, a :: as => .tup [.int i, a] :: enumD (i + 1) as
def zip2 : List D → M (List D) := fun ds => match ds with
  | [.lst xs, .lst ys] => ret (zipD xs ys)
  | _ => fun _ => .bad
def enm : List D → M (List D) := fun ds => match ds with
  | [.lst xs] => ret (enumD 0 xs)
  | _ => fun _ => .bad
theorem zipD_get : ∀ {xs ys : List D} {i : Nat} {d : D}, (zipD xs ys)[i]? = some d → ∃ a b, xs[i]? = some a ∧ ys[i]? = some b ∧ d = .tup [a, b]
  | [], _, _, _, h => by simp [zipD] at h
  | _ :: _, [], _, _, h => by simp [zipD] at h
  | a :: as, b :: bs, 0, d, h => by
    simp [zipD] at h
    exact ⟨a, b, rfl, rfl, h.symm⟩
  | a :: as, b :: bs, i + 1, d, h => by
    simp only [zipD, List.getElem?_cons_succ] at h
    simpa using zipD_get h
theorem zipD_len : ∀ {xs ys : List D}, (zipD xs ys).length = min xs.length ys.length
  | [], _ => by simp [zipD]
  | _ :: _, [] => by simp [zipD]
  | a :: as, b :: bs => by
    simp only [zipD, List.length_cons, zipD_len]
    omega
theorem enumD_get : ∀ {xs : List D} {k : Int} {i : Nat} {d : D}, (enumD k xs)[i]? = some d → ∃ a, xs[i]? = some a ∧ d = .tup [.int (k + (i : Nat)), a]
  | [], _, _, _, h => by simp [enumD] at h
  | a :: as, k, 0, d, h => by
    simp [enumD] at h
    exact ⟨a, rfl, by rw [← h]; simp⟩
  | a :: as, k, i + 1, d, h => by
    simp only [enumD, List.getElem?_cons_succ] at h
    obtain ⟨b, h1, h2⟩ := enumD_get h
    refine ⟨b, by simpa using h1, ?_⟩
    rw [h2]
    congr 3
    push_cast
    omega
theorem enumD_len : ∀ {xs : List D} {k : Int}, (enumD k xs).length = xs.length
  | [], _ => rfl
  | a :: as, k => by simp only [enumD, List.length_cons, enumD_len]
theorem new_pair {K : PySem.W.Frag} {F H : Hp} {T : Addr} {x y : V} {a b : D} (s : Sub F H) (hT : H T = none) (rx : Rep K F x a) (ry : Rep K F y b) : Grow F H (upd F T (.tup [x, y])) (upd H T (.tup [x, y])) ∧ Rep K (upd F T (.tup [x, y])) (.ref T) (.tup [a, b]) := by
  have g : Grow F H (upd F T (.tup [x, y])) (upd H T (.tup [x, y])) := Grow.frz s hT
  exact ⟨g, .tup (.of upd_same) (.cons (rx.mono g.ff) (.cons (ry.mono g.ff) .nil))⟩
theorem yields_zip {K : PySem.W.Frag} {a b : Addr} {vs ws : List V} {ds es : List D} {F0 : Hp} (h : F0 a = some (.lst vs)) (h' : F0 b = some (.lst ws)) (r : Reps K F0 vs ds) (r' : Reps K F0 ws es) : Yields K (Itz K a b) (zipD ds es) F0 := fun F H i s1 s2 => by
  have hq : SqL K H a vs := .of (s2 _ _ (s1 _ _ h))
  have hq' : SqL K H b ws := .of (s2 _ _ (s1 _ _ h'))
  refine ⟨fun d e => ?_, fun e => ⟨vs, ws, hq, hq', by rw [r.length, r'.length]; rw [zipD_len] at e; omega⟩⟩
  obtain ⟨x, y, e1, e2, rfl⟩ := zipD_get e
  obtain ⟨v, v1, rv⟩ := r.get e1
  obtain ⟨w, w1, rw'⟩ := r'.get e2
  refine ⟨⟨vs, ws, v, w, hq, hq', v1, w1⟩, fun u H' q => ?_⟩
  obtain ⟨T, x', y', rfl, hT, rfl, q1, q2⟩ := q
  have z1 := q1 vs hq
  have z2 := q2 ws hq'
  rw [v1] at z1
  rw [w1] at z2
  cases z1
  cases z2
  exact ⟨_, new_pair s2 hT (rv.mono s1) (rw'.mono s1)⟩
theorem yields_enum {K : PySem.W.Frag} {a : Addr} {vs : List V} {ds : List D} {F0 : Hp} (h : F0 a = some (.lst vs)) (r : Reps K F0 vs ds) : Yields K (Ite K a) (enumD 0 ds) F0 := fun F H i s1 s2 => by
  have hq : SqL K H a vs := .of (s2 _ _ (s1 _ _ h))
  refine ⟨fun d e => ?_, fun e => ⟨vs, hq, by rw [r.length]; rw [enumD_len] at e; omega⟩⟩
  obtain ⟨x, e1, rfl⟩ := enumD_get e
  obtain ⟨v, v1, rv⟩ := r.get e1
  refine ⟨⟨vs, v, hq, v1⟩, fun u H' q => ?_⟩
  obtain ⟨T, x', rfl, hT, rfl, q1⟩ := q
  have z1 := q1 vs hq
  rw [v1] at z1
  cases z1
  rw [Int.zero_add]
  exact ⟨_, new_pair s2 hT (.int _) (rv.mono s1)⟩
theorem k_zip {e2 : Expr} {f2 : M R} {tpos : Pos} {elts : List Expr} {kk : Nat} (hg : Gl X "zip") (hm : X.mg "zip" = none) (ha : PA X [e, e2] (TAv X.K ct E [f, f2])) (hs : starEach [e, e2] X.env = (false, eval e X.env) :: starEach [e2] X.env := by rfl) (hpl : (backTo pos (starEach [e2] X.env)).any (·.1) = false := by rfl) :
    PI X (.Tuple elts kk tpos) (.Call (.Name "zip" p) [e, e2] [] pos) (TId X.K ct E (bnd (evV [f, f2]) zip2)) :=
  pi_weak (pi_zip hg hm ha hs hpl) fun σ H R ⟨ρ, F, s, h⟩ => by
    refine ⟨ρ, F, s, RunG.imp (RunG.bind h) fun ds ρ1 F1 H1 z1 z2 z3 vs rv => ?_⟩
    obtain ⟨s1, st1, h1⟩ := z3
    unfold zip2 at h1
    split at h1
    · rename_i xs ys
      cases rv with
      | cons r1 rv =>
        cases rv with
        | cons r2 rv =>
          cases rv
          cases r1 with
          | lst q1 r1 =>
            cases r2 with
            | lst q2 r2 => exact ⟨_, _, _, _, rfl, .of (s1.sub _ _ q1), .of (s1.sub _ _ q2), h1 F1 H1 s1 (Step.refl ..) _ (yields_zip q1 q2 r1 r2)⟩
    · exact h1.elim
theorem k_enum {tpos : Pos} {elts : List Expr} {kk : Nat} (hg : Gl X "enumerate") (hm : X.mg "enumerate" = none) (ha : PA X [e] (TAv X.K ct E [f])) (hs : starEach [e] X.env = [(false, eval e X.env)] := by rfl) :
    PI X (.Tuple elts kk tpos) (.Call (.Name "enumerate" p) [e] [] pos) (TId X.K ct E (bnd (evV [f]) enm)) :=
  pi_weak (pi_enum hg hm ha hs) fun σ H R ⟨ρ, F, s, h⟩ => by
    refine ⟨ρ, F, s, RunG.imp (RunG.bind h) fun ds ρ1 F1 H1 z1 z2 z3 vs rv => ?_⟩
    obtain ⟨s1, st1, h1⟩ := z3
    unfold enm at h1
    split at h1
    · rename_i xs
      cases rv with
      | cons r1 rv =>
        cases rv
        cases r1 with
        | lst q1 r1 => exact ⟨_, _, rfl, .of (s1.sub _ _ q1), h1 F1 H1 s1 (Step.refl ..) _ (yields_enum q1 r1)⟩
    · exact h1.elim
end
end VL

set_option maxRecDepth 100000
/-! VL7: comprehensions. -/
namespace VL
open PySem L2

abbrev E0s : L2.St → XK := fun _ _ _ _ => False
def noex {α : Type} (f : M α) : M α := fun ρ => match f ρ with
  | .ok a ρ' => .ok a ρ'
  | _ => .bad
def wip : List Nat → M Unit
  | [] => ret ()
  | i :: is => bnd (wip is) fun _ => setS i .un
def compL (vs : List Nat) (t : D → M Unit) (c : M Bool) (el : M R) : List D → List D → M (List D)
  | [], acc => ret acc
  | d :: ds, acc => bnd (wip vs) fun _ => bnd (t d) fun _ => bnd (noex c) fun b => match b with
    | true => bnd (noex el) fun r => bnd (toV r) fun x => compL vs t c el ds (acc ++ [x])
    | false => compL vs t c el ds acc
def lim (n : Nat) : M Unit := fun ρ => if n ≤ 16777216 then .ok () ρ else .bad
def lcd (it : M (List D)) (vs : List Nat) (t : D → M Unit) (c : M Bool) (el : M R) : M R := bnd it fun ds => bnd (lim ds.length) fun _ => bnd (compL vs t c el ds []) fun acc => bnd (wip vs) fun _ => ret (.fresh acc)
section
variable {K : PySem.W.Frag} {ct : Nat → Addr × Str} {E : L2.St → XK} {ρ ρ1 : En} {σ σ1 : L2.St} {F F1 H H1 : Hp}
theorem set_un_get {ρ : En} {i j : Nat} {x : Sl} (h : (ρ.set i .un)[j]? = some x) : (j = i ∧ x = .un) ∨ (j ≠ i ∧ ρ[j]? = some x) := by
  by_cases z : j = i
  · subst z
    by_cases hi : j < ρ.length
    · rw [List.getElem?_set_self hi] at h
      exact .inl ⟨rfl, (Option.some.inj h).symm⟩
    · rw [List.getElem?_eq_none (by simpa using hi)] at h
      cases h
  · rw [List.getElem?_set_ne (fun w => z w.symm)] at h
    exact .inr ⟨z, h⟩
theorem wip_run : ∀ (vs : List Nat) {ρ : En}, SR K ρ σ F H → (wip vs ρ = .bad ∨ ∃ ρ', wip vs ρ = .ok () ρ' ∧ SR K ρ' (wipe σ vs) F H ∧ Step ρ σ F H ρ' (wipe σ vs) F H ∧ ∀ i ∈ vs, ∀ x, ρ'[i]? = some x → x = .un)
  | [], ρ, s => .inr ⟨ρ, rfl, s, Step.refl .., fun i h => by cases h⟩
  | v :: vs, ρ, s => by
    rcases wip_run vs s with q | ⟨ρ1, q, s1, st1, u1⟩
    · refine .inl ?_
      show bnd (wip vs) (fun _ => setS v .un) ρ = .bad
      simp only [bnd, q, Res.bind]
    · have e : wip (v :: vs) ρ = setS v .un ρ1 := by
        show bnd (wip vs) (fun _ => setS v .un) ρ = _
        simp only [bnd, q, Res.bind]
      rcases setS_cases v .un ρ1 with q2 | q2
      · exact .inl (e.trans q2)
      · obtain ⟨s2, st2⟩ := sr_un (o := none) s1 (setS_ok q2).1
        refine .inr ⟨_, e.trans q2, s2, st1.trans st2, fun i h x hx => ?_⟩
        rcases set_un_get hx with ⟨_, z⟩ | ⟨z, hx⟩
        · exact z
        · rcases List.mem_cons.mp h with w | w
          · exact absurd w z
          · exact u1 i w x hx
theorem sr_sig {vs : List Nat} {σ' : L2.St} (s : SR K ρ σ F H) (l : σ'.length = σ.length) (o : ∀ i, i ∉ vs → σ'[i]? = σ[i]?) (u : ∀ i ∈ vs, ∀ x, ρ[i]? = some x → x = .un) : SR K ρ σ' F H ∧ Step ρ σ F H ρ σ' F H := by
  have out : ∀ (i : Nat) (x : Sl), ρ[i]? = some x → x ≠ .un → σ'[i]? = σ[i]? := fun i x h n => o i fun w => n (u i w x h)
  refine ⟨⟨s.len.trans l.symm, s.sub, fun i d h => ?_, fun i io ds h => ?_, fun i j io io' ds ds' p h1 h2 e1 e2 => ?_⟩, ⟨Sub.refl F, fun a o h n => ⟨h, rfl, fun ⟨i, io, ds, h1, h2⟩ => n ⟨i, io, ds, h1, by rw [out i _ h1 (by intro z; cases z)] at h2; exact h2⟩⟩, fun _ h => h, fun i ds h => ⟨out i _ h (by intro z; cases z), ds, h⟩, l⟩⟩
  · rw [out i _ h (by intro z; cases z)]
    exact s.val i d h
  · rw [out i _ h (by intro z; cases z)]
    exact s.own i io ds h
  · rw [out i _ h1 (by intro z; cases z)] at e1
    rw [out j _ h2 (by intro z; cases z)] at e2
    exact s.dis i j _ _ _ _ p h1 h2 e1 e2
/-- a new list beside the state grows -/
theorem sr_beside {p : Addr} {o : HO} (s : SR K ρ σ F H) (fp : F p = none) (no : ¬ OwnAt ρ σ p) : SR K ρ σ F (upd H p o) :=
  ⟨s.len, fun a u h => by
    have ne : a ≠ p := fun z => by
      rw [z, fp] at h
      cases h
    rw [upd_ne ne]
    exact s.sub a u h, s.val, fun i io ds h => by
    obtain ⟨p', vs, e, hp, fp', r⟩ := s.own i io ds h
    have ne : p' ≠ p := fun z => no ⟨i, io, ds, h, by rw [← z]; exact e⟩
    exact ⟨p', vs, e, by rw [upd_ne ne]; exact hp, fp', r⟩, s.dis⟩
theorem RunG.toW {α : Type} {r : Res α} {P : α → En → Hp → Hp → Prop} (h : RunG K ct E r ρ σ F H P) : RunW K ct E r ρ σ F H fun a ρ' σ' F' H' => σ' = σ → P a ρ' F' H' := by
  cases r with
  | ok a ρ' =>
    intro σ' F' H' s t e
    rw [e] at s t
    exact h F' H' s t
  | exn c d ρ' => exact h
  | bad => exact h
/-- at a state further on; the rest is told of the base -/
theorem RunW.at {α β : Type} {r : Res α} {k : α → M β} {P : β → En → L2.St → Hp → Hp → Prop} (h : RunW K ct E (r.bind k) ρ σ F H P) (st : Step ρ σ F H ρ1 σ1 F1 H1) :
    RunG K ct E r ρ1 σ1 F1 H1 fun a ρ2 F2 H2 => SR K ρ2 σ1 F2 H2 ∧ Step ρ1 σ1 F1 H1 ρ2 σ1 F2 H2 ∧ RunW K ct E (k a ρ2) ρ σ F H P := by
  cases r with
  | ok a ρ' => exact fun F' H' s t => ⟨s, t, h⟩
  | exn c d ρ' => exact ExP.stepW st h
  | bad => exact h
theorem wipe_wipe' {σ : L2.St} {vs : List Nat} : ∀ ws : List Nat, (∀ i ∈ ws, i ∈ vs) → wipe (wipe σ ws) vs = wipe σ vs
  | [], _ => rfl
  | w :: ws, h => by
    have e : wipe σ (w :: ws) = (wipe σ ws).set w none := rfl
    rw [e, wipe_set (h w (List.mem_cons_self ..))]
    exact wipe_wipe' ws fun i hi => h i (List.mem_cons_of_mem _ hi)
theorem wipe_wipe (σ : L2.St) (vs : List Nat) : wipe (wipe σ vs) vs = wipe σ vs := wipe_wipe' vs fun _ h => h
theorem Step.beside {D : Addr} {o : HO} (st : Step ρ σ F H ρ1 σ1 F1 H1) (h : H D = none) : Step ρ σ F H ρ1 σ1 F1 (upd H1 D o) :=
  ⟨st.mono, fun a u e n => by
    obtain ⟨k1, k2, k3⟩ := st.keep a u e n
    exact ⟨by rw [upd_ne (ne_of_none e h)]; exact k1, k2, k3⟩, fun a e => by
    by_cases q : a = D
    · rw [q, upd_same] at e
      cases e
    · rw [upd_ne q] at e
      exact st.dom a e, st.io, st.lenS⟩
theorem noex_run {α : Type} {f : M α} {P : α → En → Hp → Hp → Prop} (h : RunG K ct E (noex f ρ1) ρ σ F H P) : RunG K ct E0s (f ρ1) ρ σ F H P := by
  unfold noex at h
  cases q : f ρ1 with
  | ok a ρ' =>
    rw [q] at h
    exact h
  | exn c d ρ' =>
    rw [q] at h
    exact h.elim
  | bad =>
    rw [q] at h
    exact h
theorem noex_ok {α : Type} {f : M α} {a : α} {ρ0 ρ' : En} (h : noex f ρ0 = .ok a ρ') : f ρ0 = .ok a ρ' := by
  unfold noex at h
  cases q : f ρ0 with
  | ok b ρ'' =>
    rw [q] at h
    exact h
  | exn c d ρ'' =>
    rw [q] at h
    cases h
  | bad =>
    rw [q] at h
    cases h
theorem noex_exn {α : Type} {f : M α} {c : Nat} {d : D} {ρ0 ρ' : En} (h : noex f ρ0 = .exn c d ρ') : False := by
  unfold noex at h
  cases q : f ρ0 with
  | ok b ρ'' =>
    rw [q] at h
    cases h
  | exn c d ρ'' =>
    rw [q] at h
    cases h
  | bad =>
    rw [q] at h
    cases h
theorem toV_exn {r : R} {c : Nat} {d : D} {ρ0 ρ' : En} (h : toV r ρ0 = .exn c d ρ') : False := by
  cases r with
  | val d => cases h
  | fresh ds => cases h
  | slot i =>
    unfold toV at h
    dsimp only at h
    split at h <;> cases h
theorem T_vB {β : Type} {el : M R} {k : D → M β} {P : β → En → L2.St → Hp → Hp → Prop} (s : SR K ρ1 σ1 F1 H1) (h : RunW K ct E (bnd (noex el) (fun r => bnd (toV r) k) ρ1) ρ σ F H P) :
    T K ct E0s el σ1 H1 fun v H2 => ∃ d ρ2 F2, SR K ρ2 σ1 F2 H2 ∧ Rep K F2 v d ∧ Step ρ1 σ1 F1 H1 ρ2 σ1 F2 H2 ∧ RunW K ct E (k d ρ2) ρ σ F H P := by
  rw [bnd_toV] at h
  have key : RunG K ct E0s (bnd el (fun r => bnd (toV r) ret) ρ1) ρ1 σ1 F1 H1 fun d ρ2 F2 H2 => RunW K ct E (k d ρ2) ρ σ F H P := by
    rw [bnd_toV]
    cases q : noex el ρ1 with
    | bad =>
      rw [show bnd (noex el) toV ρ1 = .bad from by simp only [bnd, q, Res.bind]] at h
      exact h.elim
    | exn c d ρ2 => exact (noex_exn q).elim
    | ok r ρ2 =>
      have q1 := noex_ok q
      have e1 : bnd (noex el) toV ρ1 = toV r ρ2 := by simp only [bnd, q, Res.bind]
      have e2 : bnd el toV ρ1 = toV r ρ2 := by simp only [bnd, q1, Res.bind]
      rw [e1] at h
      rw [e2]
      cases q2 : toV r ρ2 with
      | bad =>
        rw [q2] at h
        exact h.elim
      | exn c d ρ3 => exact (toV_exn q2).elim
      | ok d ρ3 =>
        rw [q2] at h
        exact fun F' H' _ _ => h
  obtain ⟨ρ0, F0, s0, h0⟩ := T_v s key
  refine ⟨ρ0, F0, s0, RunG.imp h0 fun r1 ρ2 F2 H2 _ _ k2 v rr => ?_⟩
  obtain ⟨d, ρ3, F3, s3, ra, st3, h3⟩ := k2 v rr
  exact ⟨d, ρ3, F3, s3, ra, st3, h3 F3 H2 s3 (Step.refl ..)⟩
end
section
variable {X : Cx} {ct : Nat → Addr × Str} {E : L2.St → XK} {pos : Pos} {elt tg iter : Expr} {ifs : List Expr} {scope : Scope} {own : List (Str × Nat)} {it : M (List D)} {g : TG} {t : D → M Unit} {c : M Bool} {el : M R}
theorem ptsT {X : Cx} : PTs X [] (Tt X.K ct E0s (ret true)) := ⟨fun pins s σ H Q I ⟨ρ, F, sr, h⟩ => pts_nil.run pins s σ H Q I (h F H sr (Step.refl ..))⟩
/-- between two turns -/
structure CI (K : PySem.W.Frag) (ct : Nat → Addr × Str) (E : L2.St → XK) (vs : List Nat) (t : VL.D → M Unit) (c : M Bool) (el : M R) (ds : List VL.D) (ρ1 : En) (σ : L2.St) (F1 H1 : Hp) (D : Addr) (P : R → En → L2.St → Hp → Hp → Prop) (i : Nat) (H' : Hp) : Prop where
  ex : ∃ (ρ' : En) (σm : L2.St) (F' : Hp) (wvs : List V) (acc : List VL.D), wipe σm vs = wipe σ vs ∧ SR K ρ' σm F' H' ∧ Step ρ1 σ F1 H1 ρ' σm F' H' ∧ H' D = some (.lst wvs) ∧ F' D = none ∧ ¬ OwnAt ρ' σm D ∧ Reps K F' wvs acc ∧ acc.length ≤ i ∧
    RunW K ct E (bnd (compL vs t c el (ds.drop i) acc) (fun acc => bnd (wip vs) fun _ => ret (R.fresh acc)) ρ') ρ1 σ F1 H1 P
theorem lc_run {K : PySem.W.Frag} {vs : List Nat} {σ : L2.St} {H : Hp} {Q : VK} (gs : GS K g t vs) (h : T K ct E (lcd it vs t c el) σ H Q) : tLc (TId K ct E it) g (Tt K ct E0s c) (T K ct E0s el) vs σ H Q := by
  obtain ⟨ρ, F, s, h⟩ := h
  refine ⟨ρ, F, s, RunG.imp (RunG.bind h) fun ds ρ1 F1 H1 z1 z2 z3 J hJ D hD => ?_⟩
  obtain ⟨s1, st1, h1⟩ := z3
  have lenB : ds.length ≤ 16777216 := by
    by_cases q : ds.length ≤ 16777216
    · exact q
    · rw [show bnd (lim ds.length) _ ρ1 = .bad from by simp only [bnd, lim, if_neg q, Res.bind]] at h1
      exact h1.elim
  have e1 : bnd (lim ds.length) (fun _ => bnd (compL vs t c el ds []) fun acc => bnd (wip vs) fun _ => ret (R.fresh acc)) ρ1 = bnd (compL vs t c el ds []) (fun acc => bnd (wip vs) fun _ => ret (R.fresh acc)) ρ1 := by simp only [bnd, lim, if_pos lenB, Res.bind]
  rw [e1] at h1
  have hW := RunG.toW h1
  refine ⟨fun i m H' => m = ds.length - i ∧ i ≤ ds.length ∧ CI K ct E vs t c el ds ρ1 σ F1 H1 D (fun r ρ' σ' F' H' => σ' = σ → ∀ v, RepR K ρ' σ F' H' H v r → Q v H') i H', ⟨_, rfl, Nat.zero_le _, ?_⟩, ?_⟩
  · have f1 : F1 D = none := by
      cases q : F1 D with
      | none => rfl
      | some o =>
        rw [s1.sub D o q] at hD
        cases hD
    have no : ¬ OwnAt ρ1 σ D := fun ⟨i, io, es, q1, q2⟩ => by
      obtain ⟨p, vs', e, hp, _⟩ := s1.own i io es q1
      rw [e] at q2
      cases q2
      rw [hD] at hp
      cases hp
    exact ⟨ρ1, σ, F1, [], [], rfl, sr_beside s1 f1 no, (Step.refl ρ1 σ F1 H1).beside hD, upd_same, f1, no, .nil, Nat.le_refl _, hW⟩
  · rintro i m H2 ⟨rfl, hi, ⟨ρ2, σm, F2, wvs, acc, hw, s2, st2, hD2, fD2, no2, r2, la, h2⟩⟩
    by_cases hlt : i < ds.length
    · obtain ⟨go, yl⟩ := (hJ F2 H2 i st2.mono s2.sub).1 ds[i] (List.getElem?_eq_getElem hlt)
      refine .inr ⟨go, fun H' => CI K ct E vs t c el ds ρ1 σ F1 H1 D (fun r ρ' σ' F' H' => σ' = σ → ∀ v, RepR K ρ' σ F' H' H v r → Q v H') (i + 1) H', fun H' w => ⟨ds.length - (i + 1), by omega, rfl, hlt, w⟩, fun x H3 y => ?_⟩
      obtain ⟨F3, gr, rx⟩ := yl x H3 y
      have s3 := gr.sr s2
      have st3 : Step ρ1 σ F1 H1 ρ2 σm F3 H3 := st2.trans gr.step
      have hD3 := gr.hh D _ hD2
      have fD3 : F3 D = none := (gr.new D (by rw [hD2]; exact fun z => nomatch z)).trans fD2
      rw [List.drop_eq_getElem_cons hlt] at h2
      have e : bnd (compL vs t c el (ds[i] :: ds.drop (i + 1)) acc) (fun acc => bnd (wip vs) fun _ => ret (R.fresh acc)) = bnd (wip vs) (fun _ => bnd (t ds[i]) fun _ => bnd (noex c) fun b => bnd (match b with
          | true => bnd (noex el) fun r => bnd (toV r) fun x => compL vs t c el (ds.drop (i + 1)) (acc ++ [x])
          | false => compL vs t c el (ds.drop (i + 1)) acc) (fun acc => bnd (wip vs) fun _ => ret (R.fresh acc))) := by
        rw [compL, bnd_assoc]
        congr
        funext _
        rw [bnd_assoc]
        congr
        funext _
        rw [bnd_assoc]
      rw [e] at h2
      rcases wip_run vs s3 with q | ⟨ρ4, q, s4, st4, u4⟩
      · rw [show bnd (wip vs) _ ρ2 = .bad from by simp only [bnd, q, Res.bind]] at h2
        exact h2.elim
      · simp only [bnd, q, Res.bind] at h2
        have h4 : RunW K ct E (bnd (t ds[i]) (fun _ => bnd (noex c) fun b => bnd (match b with
          | true => bnd (noex el) fun r => bnd (toV r) fun x => compL vs t c el (ds.drop (i + 1)) (acc ++ [x])
          | false => compL vs t c el (ds.drop (i + 1)) acc) (fun acc => bnd (wip vs) fun _ => ret (R.fresh acc))) ρ4) ρ1 σ F1 H1 (fun r ρ' σ' F' H' => σ' = σ → ∀ v, RepR K ρ' σ F' H' H v r → Q v H') := h2
        rw [hw] at s4 st4
        have st4' := st3.trans st4
        have no3 : ¬ OwnAt ρ2 σm D := no2
        have no4 := (st4.keep D _ hD3 no3).2.2
        refine gs_run (ct := ct) (E := E) (P := fun (r : R) ρ' σ' F' H' => σ' = σ → ∀ v, RepR K ρ' σ F' H' H v r → Q v H') (ρ0 := ρ1) (σ0 := σ) (F0 := F1) (H0 := H1) gs s4 rx h4 fun ρ5 σ5 s5 st5 w5 h5 => ⟨w5.trans (wipe_wipe _ _), ?_⟩
        have st5' := st4'.trans st5
        have no5 := (st5.keep D _ hD3 no4).2.2
        refine ⟨ρ5, F3, s5, RunG.imp (noex_run (RunW.at h5 st5')) fun b ρ6 F6 H6 _ _ ⟨s6, st6, h6⟩ => ?_⟩
        obtain ⟨hD6, fD6, no6⟩ := st6.keep D _ hD3 no5
        rw [fD3] at fD6
        have st6' := st5'.trans st6
        have r6 : Reps K F6 wvs acc := r2.mono (gr.ff.trans st6.mono)
        cases b with
        | false => exact iteF ⟨ρ6, σ5, F6, wvs, acc, w5.trans (wipe_wipe _ _), s6, st6', hD6, fD6, no6, r6, by omega, h6⟩
        | true =>
          refine iteT ?_
          have e2 : bnd (bnd (noex el) fun r => bnd (toV r) fun x => compL vs t c el (ds.drop (i + 1)) (acc ++ [x])) (fun acc => bnd (wip vs) fun _ => ret (R.fresh acc)) = bnd (noex el) fun r => bnd (toV r) fun x => bnd (compL vs t c el (ds.drop (i + 1)) (acc ++ [x])) (fun acc => bnd (wip vs) fun _ => ret (R.fresh acc)) := by
            rw [bnd_assoc]
            congr
            funext _
            rw [bnd_assoc]
          have h6' : RunW K ct E (bnd (bnd (noex el) fun r => bnd (toV r) fun x => compL vs t c el (ds.drop (i + 1)) (acc ++ [x])) (fun acc => bnd (wip vs) fun _ => ret (R.fresh acc)) ρ6) ρ1 σ F1 H1 (fun r ρ' σ' F' H' => σ' = σ → ∀ v, RepR K ρ' σ F' H' H v r → Q v H') := h6
          rw [e2] at h6'
          obtain ⟨ρ7, F7, s7, h7⟩ := T_vB s6 h6'
          refine ⟨ρ7, F7, s7, RunG.imp h7 fun r8 ρ8 F8 H8 _ _ k8 y ry => ?_⟩
          obtain ⟨d, ρ9, F9, s9, rd, st9, h9⟩ := k8 y ry
          obtain ⟨hD9, fD9, no9⟩ := st9.keep D _ hD6 no6
          rw [fD6] at fD9
          refine ⟨wvs, hD9, ?_, ⟨ρ9, σ5, F9, wvs ++ [y], acc ++ [d], w5.trans (wipe_wipe _ _), sr_beside s9 fD9 no9, (st6'.trans st9).beside hD, upd_same, fD9, no9, (r6.mono st9.mono).append (.cons rd .nil), by rw [List.length_append, List.length_singleton]; omega, h9⟩⟩
          rw [r6.length, sizeLine_eq]
          omega
    · have e : i = ds.length := by omega
      subst e
      refine .inl ⟨(hJ F2 H2 _ st2.mono s2.sub).2 rfl, ?_⟩
      rw [List.drop_length] at h2
      rcases wip_run vs s2 with q | ⟨ρ4, q, s4, st4, u4⟩
      · rw [show bnd (compL vs t c el [] acc) _ ρ2 = .bad from by simp only [bnd, compL, ret, q, Res.bind]] at h2
        exact h2.elim
      · rw [show bnd (compL vs t c el [] acc) (fun acc => bnd (wip vs) fun _ => ret (R.fresh acc)) ρ2 = .ok (.fresh acc) ρ4 from by simp only [bnd, compL, ret, q, Res.bind]] at h2
        rw [hw] at s4 st4
        obtain ⟨s5, st5⟩ := sr_sig (σ' := σ) s4 (wipe_length σ vs).symm (fun i hi => (wipe_out hi).symm) u4
        have st5' := st4.trans st5
        obtain ⟨hD5, fD5, no5⟩ := st5'.keep D _ hD2 no2
        exact h2 σ F2 H2 s5 (st2.trans st5') rfl _ ⟨D, wvs, rfl, st1.dom D hD, hD2, fD2, no5, r2⟩
theorem k_lc (hc : X.calm = true) (hN : X.N.Nodup) (hi : PI X tg iter (TId X.K ct E it)) (ok : BlkOk X.N X.env.scope scope own)
    (hg : ∀ (s : Shared) (H : Hp) (C : Addr) (cl : List (Str × Addr)) (fp : List Addr), PGd (X.blk s H scope (compEnvC scope cl C X.env) fp) tg g t (own.map (·.2))) (ht : ∀ (s : Shared) (H : Hp) (C : Addr) (cl : List (Str × Addr)) (fp : List Addr), PTs (X.blk s H scope (compEnvC scope cl C X.env) fp) ifs (Tt X.K ct E0s c))
    (he : ∀ (s : Shared) (H : Hp) (C : Addr) (cl : List (Str × Addr)) (fp : List Addr), PE (X.blk s H scope (compEnvC scope cl C X.env) fp) elt (T X.K ct E0s el)) (hs : ∀ x, foldedSetIterable iter X.env x = pure x := by intro _; rfl) :
    PE X (.ListComp elt [⟨tg, iter, ifs, 0⟩] scope pos) (T X.K ct E (lcd it (own.map (·.2)) t c el)) :=
  pe_weak (pe_lc hc hN hi ok (fun s H C cl fp => (hg s H C cl fp).pg) ht he hs) fun σ H Q h => lc_run (hg {} H 0 [] []).gs h
end
end VL

set_option maxRecDepth 100000
/-! VL8: comprehensions given to a name, own lists changed, several names at once, defs and their calls. -/
namespace VL
open PySem L2

section
variable {X : Cx} {ct : Nat → Addr × Str} {E : L2.St → XK} {pos : Pos} {elt tg iter : Expr} {ifs : List Expr} {scope : Scope} {own : List (Str × Nat)} {it : M (List D)} {g : TG} {t : D → M Unit} {c : M Bool} {el fe : M R} {e o : Expr}
theorem k_asgLc (i : Nat) {y : Str} {py spos : Pos} (hc : X.calm = true) (hN : X.N.Nodup) (hi : PI X tg iter (TId X.K ct E it)) (ok : BlkOk X.N X.env.scope scope own)
    (hg : ∀ (s : Shared) (H : Hp) (C : Addr) (cl : List (Str × Addr)) (fp : List Addr), PGd (X.blk s H scope (compEnvC scope cl C X.env) fp) tg g t (own.map (·.2))) (ht : ∀ (s : Shared) (H : Hp) (C : Addr) (cl : List (Str × Addr)) (fp : List Addr), PTs (X.blk s H scope (compEnvC scope cl C X.env) fp) ifs (Tt X.K ct E0s c))
    (he : ∀ (s : Shared) (H : Hp) (C : Addr) (cl : List (Str × Addr)) (fp : List Addr), PE (X.blk s H scope (compEnvC scope cl C X.env) fp) elt (T X.K ct E0s el)) (hy : X.N[i]? = some y := by rfl) (hyl : X.env.scope.names.lookup y = some .local := by rfl)
    (hsw : swapsWith (.ListComp elt [⟨tg, iter, ifs, 0⟩] scope pos) (some (.Name y py)) spos.line X.env = pure true := by exact sw_true rfl rfl rfl (by decide +kernel)) (hs : ∀ x, foldedSetIterable iter X.env x = pure x := by intro _; rfl) :
    PS X (.Assign [.Name y py] (.ListComp elt [⟨tg, iter, ifs, 0⟩] scope pos) spos) (TSd X.K ct E (asg i (lcd it (own.map (·.2)) t c el))) :=
  ps_weak (ps_setLc hc hN hy hyl hsw hi ok (fun s H C cl fp => (hg s H C cl fp).pg) ht he hs) fun D σ H h => by
    have h2 := asg_run h
    exact lc_run (hg {} H 0 [] []).gs h2
/-! ### own lists changed -/
def metW (i : Nat) (gW : List D → List D → Option (D × List D)) (fs : List (M R)) : M R := bnd (var i) fun r => match r with
  | .slot j => if j = i then bnd (evV fs) fun es => fun ρ => match ρ[i]? with
      | some (.own io ds) => (match gW ds es with
        | some (d, ds') => .ok (.val d) (ρ.set i (.own io ds'))
        | none => .bad)
      | _ => .bad
    else fun _ => .bad
  | _ => fun _ => .bad
def MtW (K : PySem.W.Frag) (r : V → List V → Hp → VK → Prop) (gW : List D → List D → Option (D × List D)) : Prop := ∀ (F H : Hp) (p : Addr) (vs : List V) (ds : List D) (ws : List V) (es : List D) (d : D) (ds' : List D) (Q : VK), Sub F H → H p = some (.lst vs) → Reps K F vs ds → Reps K F ws es → gW ds es = some (d, ds') →
  (∀ v vs', Rep K F v d → Reps K F vs' ds' → Q v (upd H p (.lst vs'))) → r (.ref p) ws H Q
theorem metW_run {i : Nat} {r : V → List V → Hp → VK → Prop} {gW : List D → List D → Option (D × List D)} {fs : List (M R)} (w : MtW X.K r gW) (σ : L2.St) (H : Hp) (Q : VK) (h : T X.K ct E (metW i gW fs) σ H Q) : tBM X.K "list" r (T X.K ct E (var i)) (TAv X.K ct E fs) σ H Q := by
  obtain ⟨ρ, F, s, h⟩ := h
  refine ⟨ρ, F, s, RunG.imp (RunG.bind h) fun r1 ρ1 F1 H1 z1 z2 z3 v rr => ?_⟩
  obtain ⟨s1, st1, h1⟩ := z3
  cases r1 with
  | val d => exact h1.elim
  | fresh ds => exact h1.elim
  | slot j =>
    by_cases hj : j = i
    · subst hj
      simp only [if_true] at h1
      obtain ⟨e, io0, ds0, q0⟩ := rr
      obtain ⟨p0, vs0, e0, hp0, _⟩ := s1.own j io0 ds0 q0
      rw [e] at e0
      cases e0
      refine ⟨.inl ⟨rfl, _, .of hp0⟩, ρ1, F1, s1, RunG.imp (RunG.bind h1) fun es ρ2 F2 H2 z1 z2 z3 ws rw' => ?_⟩
      obtain ⟨s2, st2, h2⟩ := z3
      cases q : ρ2[j]? with
      | none =>
        simp only [q] at h2
        exact h2.elim
      | some sl =>
        cases sl with
        | un =>
          simp only [q] at h2
          exact h2.elim
        | val d =>
          simp only [q] at h2
          exact h2.elim
        | own io ds =>
          simp only [q] at h2
          cases q2 : gW ds es with
          | none =>
            simp only [q2] at h2
            exact h2.elim
          | some dd =>
            obtain ⟨d, ds'⟩ := dd
            simp only [q2] at h2
            obtain ⟨p, vs, e2, hp, fp, r⟩ := s2.own j io ds q
            rw [e] at e2
            cases e2
            refine w F2 H2 _ vs ds ws es d ds' Q s2.sub hp r rw' q2 fun u vs' ru rvs => ?_
            obtain ⟨s3, st3⟩ := sr_upd s2 q e rvs
            exact h2 F2 _ s3 st3 u ru
    · simp only [if_neg hj] at h1
      exact h1.elim
def appW : List D → List D → Option (D × List D) := fun ds es => match es with
  | [d] => if ds.length < 16777216 then some (.non, ds ++ [d]) else none
  | _ => none
theorem append_w {K : PySem.W.Frag} : MtW K rAppend appW := fun F H p vs ds ws es d ds' Q s hp r re e k => by
  unfold appW at e
  split at e
  · rename_i x
    split at e
    · rename_i hl
      cases e
      cases re with
      | cons r1 re =>
        cases re
        exact ⟨p, vs, _, rfl, rfl, hp, by rw [r.length, sizeLine_eq]; exact hl, k _ _ .non (r.append (.cons r1 .nil))⟩
    · cases e
  · cases e
theorem k_append (i : Nat) {apos cpos : Pos} {f : M R} (ho : PE X o (T X.K ct E (var i))) (ha : PA X [e] (TAv X.K ct E [f])) (hbase : attributeBase o "append" X.env (eval o X.env) = eval o X.env := by rfl)
    (hfew : ((backTo cpos (starEach [e] X.env)).all (fun x => !x.1) && (backToKw cpos (keywordEach [] X.env)).all (fun x => x.1.isSome)
      && decide ([e].length + ([] : List Keyword).length + (if ([] : List Keyword).isEmpty then 0 else 1) < 30)) = true := by rfl)
    (hline : (apos.endLine == cpos.line) = true := by rfl) (hs : starEach [e] X.env = (false, eval e X.env) :: starEach [] X.env := by rfl) (hplain : (backTo cpos (starEach [] X.env)).any (·.1) = false := by rfl) :
    PE X (.Call (.Attribute o "append" apos) [e] [] cpos) (T X.K ct E (metW i appW [f])) :=
  pe_weak (pe_bm PySem.F.plainAttrs_list PySem.F.slot_list_append PySem.F.type_list_append mt_append ho ha hbase hfew hline hs hplain) fun σ H Q h => metW_run append_w σ H Q h
/-- xs[k] = e -/
def setI (i : Nat) (fe fi : M R) : SM := bnd fe fun r => bnd (toV r) fun d => bnd (var i) fun r => match r with
  | .slot j => if j = i then bnd fi fun ri => match ri with
      | .val (.int k) => fun ρ => match ρ[i]? with
        | some (.own io ds) => (match ixN ds.length k with
          | some n => .ok .nx (ρ.set i (.own io (ds.set n d)))
          | none => .bad)
        | _ => .bad
      | _ => fun _ => .bad
    else fun _ => .bad
  | _ => fun _ => .bad
theorem k_setI (i : Nat) {eo ei : Expr} {fi : M R} {p2 : Pos} (he : PE X e (T X.K ct E fe)) (ho : PE X eo (T X.K ct E (var i))) (hi : PE X ei (T X.K ct E fi)) (hs : swapsWithSole [.Subscript eo ei p2] e pos.line X.env = pure false := by rfl) (hw : swappedStores [.Subscript eo ei p2] e X.env = pure none := by rfl)
    (h1 : (assignEach [.Subscript eo ei p2] X.env).map (·.2) = [assign (.Subscript eo ei p2) X.env] := by rfl)
    (ha : ∀ v, assign (.Subscript eo ei p2) X.env v = (do
      let ov ← holding [v] (eval eo X.env)
      let iv ← holding [v, ov] (eval ei X.env)
      standAt p2
      holding [v, ov, iv] (setItem ov iv v)
      release [v, ov, iv] []) := by intro _; rfl) : PS X (.Assign [.Subscript eo ei p2] e pos) (TSd X.K ct E (setI i fe fi)) := ps_weak (ps_asg he (pg_sub ho hi set_list ha) hs hw h1) fun Dn σ H ⟨ρ, F, s, h⟩ => by
  obtain ⟨ρ0, F0, s0, h0⟩ := T_vW s h
  refine ⟨ρ0, F0, s0, RunG.imp h0 fun r1 ρ1 F1 H1 z1 z2 k v rr => ?_⟩
  obtain ⟨d, ρ2, F2, s2, ra, st2, h2⟩ := k v rr
  refine ⟨ρ2, F2, s2, RunG.imp (RunW.toG h2) fun r3 ρ3 F3 H3 z1 z2 z3 ov ro => ?_⟩
  obtain ⟨s3, st3, h3⟩ := z3
  cases r3 with
  | val d => exact h3.elim
  | fresh ds => exact h3.elim
  | slot j =>
    by_cases hj : j = i
    · subst hj
      simp only [if_true] at h3
      obtain ⟨e, io0, ds0, q0⟩ := ro
      refine ⟨ρ3, F3, s3, RunG.imp (RunW.toG h3) fun r4 ρ4 F4 H4 z1 z2 z3 iv ri => ?_⟩
      obtain ⟨s4, st4, h4⟩ := z3
      cases r4 with
      | fresh ds => exact h4.elim
      | slot i => exact h4.elim
      | val d4 =>
        cases d4 with
        | int kk =>
          have ri : Rep X.K F4 iv (.int kk) := ri
          cases ri
          cases q : ρ4[j]? with
          | none =>
            simp only [q] at h4
            exact h4.elim
          | some sl =>
            cases sl with
            | un =>
              simp only [q] at h4
              exact h4.elim
            | val d =>
              simp only [q] at h4
              exact h4.elim
            | own io ds =>
              simp only [q] at h4
              cases q2 : ixN ds.length kk with
              | none =>
                simp only [q2] at h4
                exact h4.elim
              | some n =>
                simp only [q2] at h4
                obtain ⟨p, vs, e2, hp, fp, r⟩ := s4.own j io ds q
                rw [e] at e2
                cases e2
                refine ⟨p, vs, kk, n, rfl, rfl, hp, by rw [r.length]; exact q2, ?_⟩
                obtain ⟨s5, st5⟩ := sr_upd s4 q e (r.set (ra.mono (st3.mono.trans st4.mono)) n)
                exact h4 σ F4 _ s5 st5
        | non => exact h4.elim
        | bl i => exact h4.elim
        | str i => exact h4.elim
        | tup i => exact h4.elim
        | lst i => exact h4.elim
        | scr i => exact h4.elim
    · simp only [if_neg hj] at h3
      exact h3.elim
/-! ### several names at once -/
def evR : List (M R) → M (List R)
  | [] => ret []
  | f :: fs => bnd f fun r => match r with
    | .slot i => bnd (toV (.slot i)) fun d => bnd (evR fs) fun rs => ret (.val d :: rs)
    | r => bnd (evR fs) fun rs => ret (r :: rs)
end
end VL

set_option maxRecDepth 100000
/-! VL9: several names at once; defs and their calls. -/
namespace VL
open PySem L2

section
variable {X : Cx} {ct : Nat → Addr × Str} {E : L2.St → XK} {pos : Pos} {e o a b c : Expr} {es : List Expr} {f fe : M R} {fs : List (M R)}
/-- a, b = x, y; a, b, c = x, y, z (plain local names): values alone -/
def stoL : List Nat → List D → M Unit
  | [], [] => ret ()
  | i :: is, d :: ds => bnd (setS i (.val d)) fun _ => stoL is ds
  | _, _ => fun _ => .bad
def parV (is : List Nat) (fs : List (M R)) : SM := bnd (evV fs) fun ds => bnd (stoL is ds) fun _ => ret .nx
theorem stoL_run {K : PySem.W.Frag} {β : Type} {k : M β} {ρ0 : En} {σ0 : L2.St} {F0 F H0 H : Hp} {P : β → En → L2.St → Hp → Hp → Prop} : ∀ {is : List Nat} {vs : List V} {ds : List D} {ρ : En} {σ : L2.St}, SR K ρ σ F H → Step ρ0 σ0 F0 H0 ρ σ F H → Reps K F vs ds →
    RunW K ct E (bnd (stoL is ds) (fun _ => k) ρ) ρ0 σ0 F0 H0 P → is.length = vs.length ∧ ∃ ρ1, SR K ρ1 ((is.zip vs).foldl (fun σ p => σ.set p.1 (some p.2)) σ) F H ∧ Step ρ0 σ0 F0 H0 ρ1 ((is.zip vs).foldl (fun σ p => σ.set p.1 (some p.2)) σ) F H ∧ RunW K ct E (k ρ1) ρ0 σ0 F0 H0 P
  | [], _, _, ρ, σ, s, st, .nil, h => ⟨rfl, ρ, s, st, h⟩
  | [], _, _, ρ, σ, s, st, .cons _ _, h => h.elim
  | _ :: _, _, _, ρ, σ, s, st, .nil, h => h.elim
  | i :: is, _, _, ρ, σ, s, st, .cons (v := v) (d := d) (vs := vs) (ds := ds) r rs, h => by
    rcases setS_cases i (.val d) ρ with q | q
    · rw [show bnd (stoL (i :: is) (d :: ds)) (fun _ => k) ρ = .bad from by simp only [bnd, stoL, q, Res.bind]] at h
      exact h.elim
    · have e : bnd (stoL (i :: is) (d :: ds)) (fun _ => k) ρ = bnd (stoL is ds) (fun _ => k) (ρ.set i (.val d)) := by simp only [bnd, stoL, q, Res.bind]
      rw [e] at h
      obtain ⟨s1, st1⟩ := sr_val s r (setS_ok q).1
      obtain ⟨l, ρ1, h1⟩ := stoL_run s1 (st.trans st1) rs h
      exact ⟨by simp [l], ρ1, h1⟩
theorem parV_run {is : List Nat} {D : Ends} {σ : L2.St} {H : Hp} (h : TSd X.K ct E (parV is fs) D σ H) : TAv X.K ct E fs σ H fun vs H1 => is.length = vs.length ∧ D.nx ((is.zip vs).foldl (fun σ p => σ.set p.1 (some p.2)) σ) H1 := by
  obtain ⟨ρ, F, s, h⟩ := h
  have hG : RunG X.K ct E (evV fs ρ) ρ σ F H fun ds ρ1 F1 H1 => SR X.K ρ1 σ F1 H1 ∧ Step ρ σ F H ρ1 σ F1 H1 ∧ RunW X.K ct E (bnd (stoL is ds) (fun _ => ret .nx) ρ1) ρ σ F H (SPd X.K D H) := RunW.at (ρ1 := ρ) h (Step.refl ..)
  refine ⟨ρ, F, s, RunG.imp hG fun ds ρ1 F1 H1 z1 z2 z3 vs rv => ?_⟩
  obtain ⟨s1, st1, h1⟩ := z3
  obtain ⟨l, ρ2, s2, st2, h2⟩ := stoL_run s1 st1 rv h1
  exact ⟨l, h2 _ F1 H1 s2 st2⟩
theorem k_par2 (i j : Nat) {x y : Str} {f1 f2 : M R} {px py pt : Pos} {kt k2 pt2} (hc : X.calm = true) (hN : X.N.Nodup) (ha : PA X [a, b] (TAv X.K ct E [f1, f2])) (hi : X.N[i]? = some x := by rfl) (hj : X.N[j]? = some y := by rfl) (hij : i ≠ j := by decide)
    (hx : X.env.scope.names.lookup x = some .local := by rfl) (hy : X.env.scope.names.lookup y = some .local := by rfl)
    (hw : swappedStores [.Tuple [.Name x px, .Name y py] kt pt] (.Tuple [a, b] k2 pt2) X.env = pure (some [x, y]) := by rfl)
    (hs : swapsWithSole [.Tuple [.Name x px, .Name y py] kt pt] (.Tuple [a, b] k2 pt2) pos.line X.env = pure false := by rfl) :
    PS X (.Assign [.Tuple [.Name x px, .Name y py] kt pt] (.Tuple [a, b] k2 pt2) pos) (TSd X.K ct E (parV [i, j] [f1, f2])) := ps_weak (ps_par hc hN hi hj hij hx hy ha hw hs) fun D σ H h => by
  obtain ⟨ρ, F, s, h2⟩ := parV_run h
  refine ⟨ρ, F, s, RunG.imp h2 fun ds ρ1 F1 H1 _ _ k vs rv => ?_⟩
  obtain ⟨l, q⟩ := k vs rv
  match vs, l with
  | [v, w], _ => exact ⟨v, w, rfl, q⟩
theorem k_par3 (i j l : Nat) {x y z : Str} {f1 f2 f3 : M R} {px py pz pt : Pos} {kt k2 pt2} (hc : X.calm = true) (hN : X.N.Nodup) (ha : PA X [a, b, c] (TAv X.K ct E [f1, f2, f3])) (hi : X.N[i]? = some x := by rfl) (hj : X.N[j]? = some y := by rfl) (hl : X.N[l]? = some z := by rfl) (hij : i ≠ j := by decide) (hil : i ≠ l := by decide) (hjl : j ≠ l := by decide)
    (hx : X.env.scope.names.lookup x = some .local := by rfl) (hy : X.env.scope.names.lookup y = some .local := by rfl) (hz : X.env.scope.names.lookup z = some .local := by rfl)
    (hw : swappedStores [.Tuple [.Name x px, .Name y py, .Name z pz] kt pt] (.Tuple [a, b, c] k2 pt2) X.env = pure (some [x, y, z]) := by rfl)
    (hs : swapsWithSole [.Tuple [.Name x px, .Name y py, .Name z pz] kt pt] (.Tuple [a, b, c] k2 pt2) pos.line X.env = pure false := by rfl) :
    PS X (.Assign [.Tuple [.Name x px, .Name y py, .Name z pz] kt pt] (.Tuple [a, b, c] k2 pt2) pos) (TSd X.K ct E (parV [i, j, l] [f1, f2, f3])) := ps_weak (ps_par3 hc hN hi hj hl hij hil hjl hx hy hz ha hw hs) fun D σ H h => by
  obtain ⟨ρ, F, s, h2⟩ := parV_run h
  refine ⟨ρ, F, s, RunG.imp h2 fun ds ρ1 F1 H1 _ _ k vs rv => ?_⟩
  obtain ⟨l, q⟩ := k vs rv
  match vs, l with
  | [u, v, w], _ => exact ⟨u, v, w, rfl, q⟩
end

/-! ### a def -/
def ps1 : Sl → Sl → Sl
  | .own true _, .own true ds => .own true ds
  | _, _ => .un
/-- what is left of the parameters: the lent lists -/
def proj (ρ ρ' : En) : En := List.zipWith ps1 ρ ρ'
def noOwn (ρ : En) : Bool := ρ.all fun x => match x with
  | .own false _ => false
  | _ => true
def finF (ρ : En) (r : R) (ρ' : En) : Res R := match r with
  | .val d => .ok (.val d) (proj ρ ρ')
  | .fresh ds => .ok (.fresh ds) (proj ρ ρ')
  | .slot i => match ρ'[i]? with
    | some (.own false ds) => .ok (.fresh ds) (proj ρ ρ')
    | _ => .bad
/-- n parameters, m names in all -/
def runF (n m : Nat) (body : SM) : M R := fun ρ => if ρ.length = n ∧ noOwn ρ = true then (match body (ρ ++ List.replicate (m - n) .un) with
    | .ok fl ρ' => (match fl with
      | .ret r => finF ρ r ρ'
      | .nx => finF ρ (.val .non) ρ'
      | _ => .bad)
    | .exn c d ρ' => .exn c d (proj ρ ρ')
    | .bad => .bad)
  else .bad
/-- the promise of a def that does what m says -/
def spM (K : PySem.W.Frag) (ct : Nat → Addr × Str) (n : Nat) (m : M R) : Sp := fun vs H Q E => vs.length = n ∧ T K ct (fun _ => E) m (vs.map some) H Q
section
variable {K : PySem.W.Frag} {ct : Nat → Addr × Str} {ρ ρ' : En} {σ σ' : L2.St} {F F' H H' : Hp} {vs : List V} {n m : Nat}
theorem proj_get {i : Nat} {x : Sl} (h : (proj ρ ρ')[i]? = some x) : x = .un ∨ ∃ ds ds', x = .own true ds' ∧ ρ[i]? = some (.own true ds) ∧ ρ'[i]? = some (.own true ds') := by
  unfold proj at h
  rw [List.getElem?_zipWith] at h
  cases q : ρ[i]? with
  | none =>
    rw [q] at h
    cases h
  | some y =>
    cases q' : ρ'[i]? with
    | none =>
      rw [q, q'] at h
      cases h
    | some z =>
      rw [q, q'] at h
      have h : ps1 y z = x := Option.some.inj h
      unfold ps1 at h
      split at h
      · exact .inr ⟨_, _, h.symm, rfl, rfl⟩
      · exact .inl h.symm
theorem pad_get {i : Nat} {x : Sl} {k : Nat} (h : (ρ ++ List.replicate k Sl.un)[i]? = some x) : x = .un ∨ ρ[i]? = some x := by
  by_cases hi : i < ρ.length
  · rw [List.getElem?_append_left hi] at h
    exact .inr h
  · rw [List.getElem?_append_right (by omega), List.getElem?_replicate] at h
    split at h
    · exact .inl (Option.some.inj h).symm
    · cases h
theorem start_get {N : List Str} {i : Nat} (h : i < vs.length) : (L2.start N vs)[i]? = (vs.map some)[i]? := by
  unfold L2.start
  rw [List.getElem?_append_left (by simpa using h)]
/-- the state at a def's entry -/
theorem sr_start {N : List Str} (hN : vs.length ≤ N.length) (s : SR K ρ (vs.map some) F H) : SR K (ρ ++ List.replicate (N.length - vs.length) .un) (L2.start N vs) F H := by
  have lr : ρ.length = vs.length := by rw [s.len, List.length_map]
  have get : ∀ (i : Nat) (x : Sl), (ρ ++ List.replicate (N.length - vs.length) Sl.un)[i]? = some x → x ≠ .un → ρ[i]? = some x ∧ (L2.start N vs)[i]? = (vs.map some)[i]? := fun i x h n => by
    rcases pad_get h with z | z
    · exact absurd z n
    · exact ⟨z, start_get (by rw [← lr]; exact (List.getElem?_eq_some_iff.mp z).1)⟩
  refine ⟨?_, s.sub, fun i d h => ?_, fun i io ds h => ?_, fun i j io io' ds ds' p h1 h2 e1 e2 => ?_⟩
  · unfold L2.start
    simp [lr]
  · obtain ⟨q, e⟩ := get i _ h (by intro z; cases z)
    rw [e]
    exact s.val i d q
  · obtain ⟨q, e⟩ := get i _ h (by intro z; cases z)
    rw [e]
    exact s.own i io ds q
  · obtain ⟨q1, f1⟩ := get i _ h1 (by intro z; cases z)
    obtain ⟨q2, f2⟩ := get j _ h2 (by intro z; cases z)
    rw [f1] at e1
    rw [f2] at e2
    exact s.dis i j _ _ _ _ p q1 q2 e1 e2
theorem own_start {N : List Str} {a : Addr} {k : Nat} (lr : ρ.length = vs.length) (h : OwnAt (ρ ++ List.replicate k Sl.un) (L2.start N vs) a) : OwnAt ρ (vs.map some) a := by
  obtain ⟨i, io, ds, h1, h2⟩ := h
  rcases pad_get h1 with z | z
  · cases z
  · exact ⟨i, io, ds, z, by rw [← start_get (N := N) (by rw [← lr]; exact (List.getElem?_eq_some_iff.mp z).1)]; exact h2⟩
/-- the state at its end, told by the parameters -/
theorem sr_end {N : List Str} (hN : vs.length ≤ N.length) (s : SR K ρ (vs.map some) F H) (s' : SR K ρ' σ' F' H') (st : Step (ρ ++ List.replicate (N.length - vs.length) .un) (L2.start N vs) F H ρ' σ' F' H') :
    SR K (proj ρ ρ') (vs.map some) F' H' ∧ Step ρ (vs.map some) F H (proj ρ ρ') (vs.map some) F' H' ∧ ∀ (i : Nat) (ds : List D), ρ[i]? = some (Sl.own true ds) → σ'[i]? = (vs.map some)[i]? ∧ ∃ ds', ρ'[i]? = some (Sl.own true ds') := by
  have lr : ρ.length = vs.length := by rw [s.len, List.length_map]
  have lr' : ρ'.length = N.length := by
    rw [s'.len, st.lenS]
    unfold L2.start
    simp
    omega
  have hs : ∀ (i : Nat) (ds : List D), ρ[i]? = some (Sl.own true ds) → σ'[i]? = (vs.map some)[i]? ∧ ∃ ds', ρ'[i]? = some (Sl.own true ds') := fun i ds q => by
    have hi : i < ρ.length := (List.getElem?_eq_some_iff.mp q).1
    obtain ⟨e, ds', q'⟩ := st.io i ds (by rw [List.getElem?_append_left hi]; exact q)
    exact ⟨e.trans (start_get (by rw [← lr]; exact hi)), ds', q'⟩
  have own' : ∀ a, OwnAt (proj ρ ρ') (vs.map some) a → OwnAt ρ' σ' a := fun a ⟨i, io, ds, h1, h2⟩ => by
    rcases proj_get h1 with z | ⟨ds0, ds', z, q, q'⟩
    · cases z
    · cases z
      exact ⟨i, _, _, q', by rw [(hs i _ q).1]; exact h2⟩
  refine ⟨⟨?_, s'.sub, fun i d h => ?_, fun i io ds h => ?_, fun i j io io' ds ds' p h1 h2 e1 e2 => ?_⟩, ⟨st.mono, fun a o h n => ?_, st.dom, fun i ds h => ?_, rfl⟩, hs⟩
  · unfold proj
    simp [lr', lr]
    omega
  · rcases proj_get h with z | ⟨_, _, z, _⟩ <;> cases z
  · rcases proj_get h with z | ⟨ds0, ds', z, q, q'⟩
    · cases z
    · cases z
      rw [← (hs i _ q).1]
      exact s'.own i true _ q'
  · rcases proj_get h1 with z | ⟨_, ds1, z, q1, q1'⟩
    · cases z
    · rcases proj_get h2 with z2 | ⟨_, ds2, z2, q2, q2'⟩
      · cases z2
      · rw [← (hs i _ q1).1] at e1
        rw [← (hs j _ q2).1] at e2
        exact s'.dis i j _ _ _ _ p q1' q2' e1 e2
  · obtain ⟨k1, k2, k3⟩ := st.keep a o h fun w => n (own_start lr w)
    exact ⟨k1, k2, fun w => k3 (own' a w)⟩
  · obtain ⟨_, ds', q⟩ := hs i ds h
    refine ⟨rfl, ds', ?_⟩
    unfold proj
    rw [List.getElem?_zipWith, h, q]
    rfl
theorem noOwn_of {i : Nat} {ds : List D} (h : noOwn ρ = true) (q : ρ[i]? = some (Sl.own false ds)) : False := by
  have := List.all_eq_true.mp h _ (List.mem_of_getElem? q)
  cases this
/-- a def's body, run -/
theorem runF_run {E : XK} {N : List Str} {body : SM} {Q : VK} (hN : vs.length ≤ N.length) (h : T K ct (fun _ => E) (runF vs.length N.length body) (vs.map some) H Q) : TSd K ct (fun _ => E) body { nx := fun _ H' => Q .non H', rt := Q } (L2.start N vs) H := by
  obtain ⟨ρ, F, s, h⟩ := h
  have lr : ρ.length = vs.length := by rw [s.len, List.length_map]
  unfold runF at h
  by_cases no : noOwn ρ = true
  · rw [if_pos ⟨lr, no⟩] at h
    refine ⟨_, F, sr_start hN s, ?_⟩
    cases q : body (ρ ++ List.replicate (N.length - vs.length) Sl.un) with
    | bad =>
      rw [q] at h
      exact h
    | exn c d ρ' =>
      rw [q] at h
      exact fun σ' F' H' v dx s' st r n x => by
        obtain ⟨s1, st1, _⟩ := sr_end hN s s' st
        exact h _ F' H' v dx s1 st1 r n x
    | ok fl ρ' =>
      rw [q] at h
      intro σ' F' H' s' st
      obtain ⟨s1, st1, io1⟩ := sr_end hN s s' st
      cases fl with
      | nx => exact h F' H' s1 st1 .non .non
      | bk => exact h.elim
      | ct => exact h.elim
      | ret r =>
        intro v rr
        cases r with
        | val d => exact h F' H' s1 st1 v rr
        | fresh ds =>
          obtain ⟨p, ws, e, h0, hp, fp, no', r⟩ := rr
          refine h F' H' s1 st1 v ⟨p, ws, e, h0, hp, fp, fun ⟨i, io, es, q1, q2⟩ => ?_, r⟩
          rcases proj_get q1 with z | ⟨_, es', z, w, w'⟩
          · cases z
          · exact no' ⟨i, true, es', w', by rw [(io1 i _ w).1]; exact q2⟩
        | slot i =>
          obtain ⟨e, io, ds, q2⟩ := rr
          cases io with
          | true =>
            have h : RunG K ct (fun _ => E) (finF ρ (.slot i) ρ') ρ (vs.map some) F H fun r ρ' F' H' => ∀ v, RepR K ρ' (vs.map some) F' H' H v r → Q v H' := h
            unfold finF at h
            simp only [q2] at h
            exact h.elim
          | false =>
            have h : RunG K ct (fun _ => E) (finF ρ (.slot i) ρ') ρ (vs.map some) F H fun r ρ' F' H' => ∀ v, RepR K ρ' (vs.map some) F' H' H v r → Q v H' := h
            unfold finF at h
            simp only [q2] at h
            obtain ⟨p, ws, e1, hp, fp, r⟩ := s'.own i _ _ q2
            rw [e] at e1
            cases e1
            refine h F' H' s1 st1 _ ⟨p, ws, rfl, ?_, hp, fp, fun ⟨j, io, es, q3, q4⟩ => ?_, r⟩
            · cases z : H p with
              | none => rfl
              | some o =>
                exfalso
                by_cases w : OwnAt (ρ ++ List.replicate (N.length - vs.length) Sl.un) (L2.start N vs) p
                · obtain ⟨j, io, es, q3, q4⟩ := own_start lr w
                  cases io with
                  | false => exact noOwn_of no q3
                  | true =>
                    obtain ⟨f1, es', f2⟩ := io1 j es q3
                    have := s'.dis j i _ _ _ _ p f2 q2 (by rw [f1]; exact q4) e
                    subst this
                    rw [f2] at q2
                    cases q2
                · exact (st.keep p o z w).2.2 ⟨i, _, _, q2, e⟩
            · rcases proj_get q3 with z | ⟨_, es', z, w, w'⟩
              · cases z
              · have := s'.dis j i _ _ _ _ p w' q2 (by rw [(io1 j _ w).1]; exact q4) e
                subst this
                rw [w'] at q2
                cases q2
  · rw [if_neg fun z => no z.2] at h
    exact h.elim
end
section
variable {P : Program} {w : World} {K : PySem.W.Frag} {mg : Str → Option Value} {base : Heap} {ct : Nat → Addr × Str}
/-- as the layer's FnOk, known besides: no guard of a built-in (repr's) stands around -/
structure FnG (P : Program) (w : World) (K : PySem.W.Frag) (mg : Str → Option Value) (base : Heap) (k : Nat) (f : Addr) (fd : FuncData) (ps : List Str) (sp : Sp) : Prop where
  len : ∀ vs H Q E, sp vs H Q E → vs.length = ps.length
  run : ∀ (A : Around) (outer : List Env) (s : Shared) (H : Hp) (args : Args) (us : List Value) (vs : List V) (Q : VK) (E : XK), Room k A → A.guards = some [] → Env0 P w K mg base A outer s H → BindsTo s fd args (ps.zip us) → Vals vs us →
    sp vs H Q E → codeAny (model P w) A (.call (.ref f) args) (CR (L2.CX P w) outer P w H s Q E) s
/-- a def's body told by data (the layer's fn_of, the guards known) -/
theorem g_fun {x qual : Str} {params : Arguments} {body : List Stmt} {scope : Scope} {dvs : List V} {kws : List (Str × V)} {f : Addr} {fd : FuncData} {N ps : List Str} {k : Nat} {sp : Sp} (F : FunD K x qual params body scope dvs kws f fd) (S : FnScope N ps scope) (len : ∀ vs H Q E, sp vs H Q E → vs.length = ps.length)
    (hbody : ∀ (cdv : Value) (A : Around) (outer : List Env) (s : Shared) (H : Hp) (vs : List V) (Q : VK) (E : XK), Room k (A.deeper (PyProof.Rows.envOfC qual scope s.heap.objs.size f cdv)) → A.guards = some [] → sp vs H Q E →
      ∃ t, PSs (cxOf (L2.CX P w) P w K mg base N qual scope f cdv A outer s H E) body t ∧ t { nx := fun _ H' => Q .non H', rt := Q } (L2.start N vs) H) : FnG P w K mg base (k + 1) f fd ps sp := by
  obtain ⟨oc, od, dV, kV, doc, pm, an, cdv, ct, osl, rfl, lk, hcd, _, _⟩ := F.ex
  constructor
  · exact len
  · intro A outer s0 H args us vs Q E room gd en bd vals prom
    have inK : K.In s0.heap := en.mod.kin.keeps (fun b o q => (en.bs b o q).1)
    have kinds : ∀ y ∈ ps.zip us, scope.names.lookup y.1 = some .local ∨ (scope.names.lookup y.1 = some .cell ∧ ((cellsFrom (s0.heap.objs.size + 1) scope.names []).lookup y.1).isSome = true) := by
      rintro ⟨nm, u⟩ hy
      cases S.par nm (List.of_mem_zip hy).1 with
      | inl q => exact Or.inl q
      | inr q => exact Or.inr ⟨q, PySem.W.cellsFrom_some _ _ _ (Or.inl q)⟩
    apply codeAny_call_function room.depth (inK _ _ lk) rfl S.co S.gen rfl (PySem.W.codeRec_of inK hcd)
    apply bd
    refine wpAny_newFunctionEnv_cells S.kind kinds ?_
    intro env henv s1 laid
    subst henv
    constructor
    · exact (en.mod.nolimit.keeps (fun b o q => (en.bs b o q).1)).keeps laid.toInCall.keep
    · apply codeAny_func
      obtain ⟨t, walk, wish⟩ := hbody cdv A outer s0 H vs Q E (room.deeper _) gd prom
      have inv : Inv (cxOf (L2.CX P w) P w K mg base N qual scope f cdv A outer s0 H E) [] (L2.start N vs) H s1 := inv_start S room.hd en (len _ _ _ _ prom) vals laid
      apply wpAny_mono (walk.run [] s1 _ H _ inv wish)
      · intro fl s2 ends
        cases fl with
        | ret u =>
          obtain ⟨v, _, H2, J, rel, q⟩ := ends
          exact ⟨v, H2, J.os, J.bare, J.base, J.hok, rel, q⟩
        | next =>
          obtain ⟨_, H2, J, q⟩ := ends
          exact ⟨V.non, H2, J.os, J.bare, J.base, J.hok, rfl, q⟩
        | brk => exact (ends.choose_spec.choose_spec.2).elim
        | cont => exact (ends.choose_spec.choose_spec.2).elim
      · exact fun _ _ z => z
/-- THE RULE for a def -/
theorem k_fun {x qual : Str} {params : Arguments} {body : List Stmt} {scope : Scope} {dvs : List V} {kws : List (Str × V)} {f : Addr} {fd : FuncData} {N ps : List Str} {k : Nat} {b : SM} (F : FunD K x qual params body scope dvs kws f fd) (S : FnScope N ps scope)
    (hbody : ∀ (cdv : Value) (A : Around) (outer : List Env) (s : Shared) (H : Hp) (E : XK), Room k (A.deeper (PyProof.Rows.envOfC qual scope s.heap.objs.size f cdv)) → A.guards = some [] →
      PSs (cxOf (L2.CX P w) P w K mg base N qual scope f cdv A outer s H E) body (TSd K ct (fun _ => E) b)) : FnG P w K mg base (k + 1) f fd ps (spM K ct ps.length (runF ps.length N.length b)) := by
  refine g_fun F S (fun vs H Q E h => h.1) fun cdv A outer s H vs Q E hr hgd h => ⟨_, hbody cdv A outer s H E hr hgd, ?_⟩
  obtain ⟨l, h⟩ := h
  have hN : vs.length ≤ N.length := by
    rw [l, ← S.pre, List.length_take]
    exact Nat.min_le_right _ _
  rw [← l] at h
  exact runF_run hN h
end
section
variable {X : Cx} {k : Nat} {f : Addr} {fd : FuncData} {ps : List Str} {sp : Sp} {E : L2.St → XK} {x : Str} {p pos : Pos} {e : Expr} {es : List Expr} {t : TA}
theorem g_run {pins : List (Addr × Obj)} {σ : L2.St} {H : Hp} {s : Shared} {Q : VK} {us : List Value} {vs : List V} (G : FnG X.prog X.w X.K X.mg X.base k f fd ps sp) (hr : Room k X.A) (hgd : X.A.guards = some []) (hb : Binds X.K fd ps []) (hx : PassesAt (L2.CX X.prog X.w) X σ (E σ))
    (I : Inv X pins σ H s) (r : Vals vs us) (h : sp vs H Q (E σ)) : wpAny (model X.prog X.w) X.A (call (.ref f) us) (EP X pins σ Q) X.xe s := by
  have many : us.length = ps.length := by rw [← r.length, G.len _ _ _ _ h]
  have bound := hb s us I.kIn (by simpa using many)
  simp only [List.append_nil] at bound
  apply wpAny_call
  apply codeAny_mono (G.run X.A X.stack s H ⟨us, []⟩ us vs Q (E σ) hr hgd I.env0 bound r h)
  intro res s2 ended
  rcases res with e2 | fl
  · exact hx pins H s e2 s2 I ended
  · cases fl <;> first | exact I.after ended | exact ended.elim
theorem ge_call (G : FnG X.prog X.w X.K X.mg X.base k f fd ps sp) (hr : Room k X.A) (hgd : X.A.guards = some []) (hg : Gl X x) (hm : X.mg x = some (.ref f)) (hk : PySem.W.keepIn X.K (.ref f) = true) (hb : Binds X.K fd ps []) (hx : ∀ σ, PassesAt (L2.CX X.prog X.w) X σ (E σ))
    (ha : PA X (e :: es) t) (hdb : (x == ("__debug__" : Str)) = false) (he : starEach (e :: es) X.env = (false, eval e X.env) :: starEach es X.env) (hpl : (backTo pos (starEach es X.env)).any (·.1) = false) : PE X (.Call (.Name x p) (e :: es) [] pos) (tCallS sp E t) := by
  constructor
  intro pins s σ H Q I h
  apply wpAny_Call_Name_kw (ld_glob I hg hm ?_ hdb)
  apply PySem.W.callWith_K (h₀ := X.base) I.ok.mod.kin hk ?_ he hpl
  apply thn (ha.run pos pins s σ H _ I h)
  rintro us s1 ⟨vs, H1, I1, r, q⟩
  exact ⟨I1.kIn, g_run G hr hgd hb (hx σ) I1 r q⟩
end
end VL

set_option maxRecDepth 100000
/-! VL10: calls of defs. -/
namespace VL
open PySem L2

/-- an argument: a value, or an own list that is lent -/
inductive Ag where
  | e (f : M R) | io (f : M R)
def evA : List Ag → M (List (Sum D Nat))
  | [] => ret []
  | .e f :: fs => bnd f fun r => bnd (toV r) fun d => bnd (evA fs) fun as => ret (.inl d :: as)
  | .io f :: fs => bnd f fun r => match r with
    | .slot i => bnd (evA fs) fun as => ret (.inr i :: as)
    | _ => fun _ => .bad
def mkE : List (Sum D Nat) → En → Option En
  | [], _ => some []
  | .inl d :: as, ρ => (mkE as ρ).map fun r => .val d :: r
  | .inr i :: as, ρ => match ρ[i]?, mkE as ρ with
    | some (.own _ ds), some r => some (.own true ds :: r)
    | _, _ => none
def lentOf : List (Sum D Nat) → List Nat
  | [] => []
  | .inl _ :: as => lentOf as
  | .inr i :: as => i :: lentOf as
/-- the lent lists as they are behind -/
def wb1 (i : Nat) (x : Sl) (ρ : En) : En := match x with
  | .own true ds => (match ρ[i]? with
    | some (.own io _) => ρ.set i (.own io ds)
    | _ => ρ)
  | _ => ρ
def wbk : List (Sum D Nat) → En → En → En
  | [], _, ρ => ρ
  | _ :: _, [], ρ => ρ
  | .inl _ :: as, _ :: r, ρ => wbk as r ρ
  | .inr i :: as, x :: r, ρ => wbk as r (wb1 i x ρ)
def finC (m : M R) (as : List (Sum D Nat)) : M R := fun ρ => match mkE as ρ with
  | some ρc => if (lentOf as).Nodup then (match m ρc with
      | .ok r ρc' => (match r with
        | .val d => .ok (.val d) (wbk as ρc' ρ)
        | .fresh ds => .ok (.fresh ds) (wbk as ρc' ρ)
        | .slot _ => .bad)
      | .exn c d ρc' => .exn c d (wbk as ρc' ρ)
      | .bad => .bad)
    else .bad
  | none => .bad
def callM (m : M R) (ags : List Ag) : M R := bnd (evA ags) fun as => finC m as
def ArR (K : PySem.W.Frag) (σ : L2.St) (F : Hp) (v : V) : Sum D Nat → Prop
  | .inl d => Rep K F v d
  | .inr i => σ[i]? = some (some v)
def ArRs (K : PySem.W.Frag) (σ : L2.St) (F : Hp) : List V → List (Sum D Nat) → Prop
  | [], [] => True
  | v :: vs, a :: as => ArR K σ F v a ∧ ArRs K σ F vs as
  | _, _ => False
def TAa (K : PySem.W.Frag) (ct : Nat → Addr × Str) (E : L2.St → XK) (fs : List Ag) : TA := fun σ H Q => ∃ ρ F, SR K ρ σ F H ∧ RunG K ct E (evA fs ρ) ρ σ F H fun as ρ' F' H' => ∀ vs, ArRs K σ F' vs as → Q vs H'
section
variable {X : Cx} {ct : Nat → Addr × Str} {E : L2.St → XK} {pos p : Pos} {e : Expr} {es : List Expr} {f : M R} {fs : List Ag}
theorem ArR.mono {K : PySem.W.Frag} {σ : L2.St} {F F' : Hp} {v : V} {a : Sum D Nat} (e : Sub F F') (h : ArR K σ F v a) : ArR K σ F' v a := by
  cases a with
  | inl d => exact Rep.mono e h
  | inr i => exact h
theorem k_aa_nil : PA X [] (TAa X.K ct E []) := pa_weak pa_nil fun σ H Q ⟨ρ, F, s, h⟩ => h F H s (Step.refl ..) [] True.intro
theorem k_aa_e (he : PE X e (T X.K ct E f)) (hs : PA X es (TAa X.K ct E fs)) (hst : starEach (e :: es) X.env = (false, eval e X.env) :: starEach es X.env := by rfl) : PA X (e :: es) (TAa X.K ct E (.e f :: fs)) :=
  pa_weak (pa_cons he hs hst) fun σ H Q ⟨ρ, F, s, h⟩ => by
    have h : RunG X.K ct E (bnd f (fun r => bnd (toV r) fun d => bnd (evA fs) fun as => ret (.inl d :: as)) ρ) ρ σ F H _ := h
    obtain ⟨ρ0, F0, s0, h0⟩ := T_v s h
    refine ⟨ρ0, F0, s0, RunG.imp h0 fun r1 ρ1 F1 H1 s1 st1 k v rr => ?_⟩
    obtain ⟨oa, ρ2, F2, s2, ra, st2, h2⟩ := k v rr
    exact ⟨ρ2, F2, s2, RunG.imp (RunG.bind h2) fun os ρ3 F3 H3 _ _ ⟨s3, st3, h3⟩ vs rv => h3 F3 H3 s3 (Step.refl ..) _ ⟨Rep.mono st3.mono ra, rv⟩⟩
theorem k_aa_io (he : PE X e (T X.K ct E f)) (hs : PA X es (TAa X.K ct E fs)) (hst : starEach (e :: es) X.env = (false, eval e X.env) :: starEach es X.env := by rfl) : PA X (e :: es) (TAa X.K ct E (.io f :: fs)) :=
  pa_weak (pa_cons he hs hst) fun σ H Q ⟨ρ, F, s, h⟩ => by
    have h' : RunG X.K ct E ((f ρ).bind fun r => match r with
      | .slot i => bnd (evA fs) fun as => ret (.inr i :: as)
      | _ => fun _ => .bad) ρ σ F H fun as ρ' F' H' => ∀ vs, ArRs X.K σ F' vs as → Q vs H' := h
    refine ⟨ρ, F, s, RunG.imp (RunG.bind h') fun r1 ρ1 F1 H1 _ _ ⟨s1, st1, h1⟩ v rr => ?_⟩
    cases r1 with
    | val d => exact h1.elim
    | fresh ds => exact h1.elim
    | slot i => exact ⟨ρ1, F1, s1, RunG.imp (RunG.bind h1) fun os ρ3 F3 H3 _ _ ⟨s3, st3, h3⟩ vs rv => h3 F3 H3 s3 (Step.refl ..) _ ⟨rr.1, rv⟩⟩
end
section
variable {K : PySem.W.Frag} {ct : Nat → Addr × Str} {E : L2.St → XK} {σ : L2.St} {F F' H H' : Hp}
theorem mkE_len : ∀ {as : List (Sum D Nat)} {ρ ρc : En}, mkE as ρ = some ρc → ρc.length = as.length
  | [], ρ, ρc, h => by
    cases h
    rfl
  | .inl d :: as, ρ, ρc, h => by
    unfold mkE at h
    cases q : mkE as ρ with
    | none =>
      rw [q] at h
      cases h
    | some r =>
      rw [q] at h
      cases h
      simp [mkE_len q]
  | .inr i :: as, ρ, ρc, h => by
    unfold mkE at h
    split at h
    · rename_i ds r q1 q2
      cases h
      simp [mkE_len q2]
    · cases h
theorem ArRs.len : ∀ {vs : List V} {as : List (Sum D Nat)}, ArRs K σ F vs as → vs.length = as.length
  | [], [], _ => rfl
  | v :: vs, a :: as, h => by simp [ArRs.len h.2]
  | [], _ :: _, h => h.elim
  | _ :: _, [], h => h.elim
/-- place by place -/
theorem mkE_get : ∀ {as : List (Sum D Nat)} {ρ ρc : En} {vs : List V} {j : Nat} {x : Sl}, mkE as ρ = some ρc → ArRs K σ F vs as → ρc[j]? = some x → ∃ v, vs[j]? = some v ∧ ((∃ d, as[j]? = some (.inl d) ∧ x = .val d ∧ Rep K F v d) ∨ (∃ i io ds, as[j]? = some (.inr i) ∧ x = .own true ds ∧ ρ[i]? = some (.own io ds) ∧ σ[i]? = some (some v)))
  | [], ρ, ρc, vs, j, x, h, r, e => by
    cases h
    simp at e
  | .inl d :: as, ρ, ρc, vs, j, x, h, r, e => by
    cases vs with
    | nil => exact r.elim
    | cons v vs =>
      unfold mkE at h
      cases q : mkE as ρ with
      | none =>
        rw [q] at h
        cases h
      | some rc =>
        rw [q] at h
        cases h
        cases j with
        | zero =>
          simp at e
          exact ⟨v, rfl, .inl ⟨d, rfl, e.symm, r.1⟩⟩
        | succ j =>
          obtain ⟨u, h1, h2⟩ := mkE_get (j := j) (x := x) q r.2 (by simpa using e)
          exact ⟨u, by simpa using h1, by simpa using h2⟩
  | .inr i :: as, ρ, ρc, vs, j, x, h, r, e => by
    cases vs with
    | nil => exact r.elim
    | cons v vs =>
      unfold mkE at h
      split at h
      · rename_i io ds rc q1 q2
        cases h
        cases j with
        | zero =>
          simp at e
          exact ⟨v, rfl, .inr ⟨i, io, ds, rfl, e.symm, q1, r.1⟩⟩
        | succ j =>
          obtain ⟨u, h1, h2⟩ := mkE_get (j := j) (x := x) q2 r.2 (by simpa using e)
          exact ⟨u, by simpa using h1, by simpa using h2⟩
      · cases h
theorem lent_mem : ∀ {as : List (Sum D Nat)} {j i : Nat}, as[j]? = some (.inr i) → i ∈ lentOf as
  | [], j, i, h => by simp at h
  | .inl _ :: as, 0, i, h => by simp at h
  | .inr k :: as, 0, i, h => by
    simp at h
    subst h
    exact List.mem_cons_self ..
  | .inl _ :: as, j + 1, i, h => lent_mem (as := as) (j := j) (by simpa using h)
  | .inr k :: as, j + 1, i, h => List.mem_cons_of_mem _ (lent_mem (as := as) (j := j) (by simpa using h))
theorem lent_inj : ∀ {as : List (Sum D Nat)} {j k i : Nat}, (lentOf as).Nodup → as[j]? = some (.inr i) → as[k]? = some (.inr i) → j = k
  | [], j, k, i, _, h, _ => by simp at h
  | .inl _ :: as, 0, k, i, _, h, _ => by simp at h
  | .inl _ :: as, j + 1, 0, i, _, _, h => by simp at h
  | .inl _ :: as, j + 1, k + 1, i, n, h, h' => by rw [lent_inj (as := as) (j := j) (k := k) n (by simpa using h) (by simpa using h')]
  | .inr m :: as, 0, 0, i, _, _, _ => rfl
  | .inr m :: as, 0, k + 1, i, n, h, h' => by
    simp at h
    subst h
    exact absurd (lent_mem (as := as) (j := k) (by simpa using h')) (List.nodup_cons.mp n).1
  | .inr m :: as, j + 1, 0, i, n, h, h' => by
    simp at h'
    subst h'
    exact absurd (lent_mem (as := as) (j := j) (by simpa using h)) (List.nodup_cons.mp n).1
  | .inr m :: as, j + 1, k + 1, i, n, h, h' => by rw [lent_inj (as := as) (j := j) (k := k) (List.nodup_cons.mp n).2 (by simpa using h) (by simpa using h')]
/-- the callee's state at its entry -/
theorem sr_call {as : List (Sum D Nat)} {ρ ρc : En} {vs : List V} (s : SR K ρ σ F H) (h : mkE as ρ = some ρc) (r : ArRs K σ F vs as) (n : (lentOf as).Nodup) : SR K ρc (vs.map some) F H := by
  have inst : ∀ (j : Nat) (io : Bool) (ds : List D), ρc[j]? = some (Sl.own io ds) → ∃ v i io', vs[j]? = some v ∧ as[j]? = some (.inr i) ∧ io = true ∧ ρ[i]? = some (Sl.own io' ds) ∧ σ[i]? = some (some v) := fun j io ds q => by
    obtain ⟨v, e, z⟩ := mkE_get h r q
    rcases z with ⟨d, _, z, _⟩ | ⟨i, io', ds', q1, z, q2, q3⟩
    · cases z
    · cases z
      exact ⟨v, i, io', e, q1, rfl, q2, q3⟩
  refine ⟨by rw [List.length_map, mkE_len h, r.len], s.sub, fun j d q => ?_, fun j io ds q => ?_, fun j k io io' ds ds' p q1 q2 e1 e2 => ?_⟩
  · obtain ⟨v, e, z⟩ := mkE_get h r q
    rcases z with ⟨d', _, z, rv⟩ | ⟨_, _, _, _, z, _⟩
    · cases z
      exact ⟨v, by simp [e], rv⟩
    · cases z
  · obtain ⟨v, i, io', e, q1, _, q2, q3⟩ := inst j io ds q
    obtain ⟨p, ws, e1, hp, fp, rr⟩ := s.own i _ _ q2
    rw [q3] at e1
    cases e1
    exact ⟨p, ws, by simp [e], hp, fp, rr⟩
  · obtain ⟨v, i, io1, f1, a1, _, b1, c1⟩ := inst j io ds q1
    obtain ⟨w, i', io2, f2, a2, _, b2, c2⟩ := inst k io' ds' q2
    simp [f1] at e1
    simp [f2] at e2
    subst e1
    subst e2
    have := s.dis i i' _ _ _ _ p b1 b2 c1 c2
    subst this
    exact lent_inj n a1 a2
theorem own_call {as : List (Sum D Nat)} {ρ ρc : En} {vs : List V} {a : Addr} (h : mkE as ρ = some ρc) (r : ArRs K σ F vs as) (w : OwnAt ρc (vs.map some) a) : OwnAt ρ σ a := by
  obtain ⟨j, io, ds, q, e⟩ := w
  obtain ⟨v, e1, z⟩ := mkE_get h r q
  rcases z with ⟨d, _, z, _⟩ | ⟨i, io', ds', q1, z, q2, q3⟩
  · cases z
  · simp [e1] at e
    subst e
    exact ⟨i, io', ds', q2, q3⟩
/-- what is written back, slot by slot -/
theorem wb1_ne {i k : Nat} {x : Sl} {ρ : En} (h : i ≠ k) : (wb1 k x ρ)[i]? = ρ[i]? := by
  unfold wb1
  split
  · split
    · exact List.getElem?_set_ne (fun u => h u.symm)
    · rfl
  · rfl
theorem wb1_or (i k : Nat) (x : Sl) (ρ : En) : (wb1 k x ρ)[i]? = ρ[i]? ∨ ∃ io ds ds', ρ[i]? = some (Sl.own io ds) ∧ (wb1 k x ρ)[i]? = some (Sl.own io ds') := by
  by_cases h : i = k
  · subst h
    unfold wb1
    split
    · rename_i ds1
      split
      · rename_i io ds0 q
        exact .inr ⟨io, ds0, ds1, q, List.getElem?_set_self (List.getElem?_eq_some_iff.mp q).1⟩
      · exact .inl rfl
    · exact .inl rfl
  · exact .inl (wb1_ne h)
theorem wb1_at {i : Nat} {io : Bool} {ds ds' : List D} {ρ : En} (q : ρ[i]? = some (Sl.own io ds)) : (wb1 i (.own true ds') ρ)[i]? = some (Sl.own io ds') := by
  simp only [wb1, q]
  exact List.getElem?_set_self (List.getElem?_eq_some_iff.mp q).1
theorem wb1_len (k : Nat) (x : Sl) (ρ : En) : (wb1 k x ρ).length = ρ.length := by
  unfold wb1
  split
  · split
    · exact List.length_set
    · rfl
  · rfl
theorem wbk_len : ∀ (as : List (Sum D Nat)) (ρc' ρ : En), (wbk as ρc' ρ).length = ρ.length
  | [], _, ρ => rfl
  | _ :: _, [], ρ => by cases ‹Sum D Nat› <;> rfl
  | .inl _ :: as, x :: r, ρ => wbk_len as r ρ
  | .inr k :: as, x :: r, ρ => (wbk_len as r (wb1 k x ρ)).trans (wb1_len k x ρ)
theorem wbk_not : ∀ (as : List (Sum D Nat)) (ρc' ρ : En) {i : Nat}, i ∉ lentOf as → (wbk as ρc' ρ)[i]? = ρ[i]?
  | [], _, ρ, i, _ => rfl
  | a :: _, [], ρ, i, _ => by cases a <;> rfl
  | .inl _ :: as, x :: r, ρ, i, h => wbk_not as r ρ h
  | .inr k :: as, x :: r, ρ, i, h => by
    have h1 : i ≠ k := fun e => h (by rw [e]; exact List.mem_cons_self ..)
    have h2 : i ∉ lentOf as := fun e => h (List.mem_cons_of_mem _ e)
    exact (wbk_not as r (wb1 k x ρ) h2).trans (wb1_ne h1)
theorem wbk_or : ∀ (as : List (Sum D Nat)) (ρc' ρ : En) (i : Nat), (wbk as ρc' ρ)[i]? = ρ[i]? ∨ ∃ io ds ds', ρ[i]? = some (Sl.own io ds) ∧ (wbk as ρc' ρ)[i]? = some (Sl.own io ds')
  | [], _, ρ, i => .inl rfl
  | a :: _, [], ρ, i => by cases a <;> exact .inl rfl
  | .inl _ :: as, x :: r, ρ, i => wbk_or as r ρ i
  | .inr k :: as, x :: r, ρ, i => by
    rcases wbk_or as r (wb1 k x ρ) i with z | ⟨io, ds, ds', h1, h2⟩
    · rcases wb1_or i k x ρ with w | ⟨io, ds, ds', h1, h2⟩
      · exact .inl (z.trans w)
      · exact .inr ⟨io, ds, ds', h1, z.trans h2⟩
    · rcases wb1_or i k x ρ with w | ⟨io2, ds2, ds2', g1, g2⟩
      · exact .inr ⟨io, ds, ds', w.symm.trans h1, h2⟩
      · rw [h1] at g2
        cases g2
        exact .inr ⟨io, ds2, ds', g1, h2⟩
theorem wbk_at : ∀ (as : List (Sum D Nat)) (ρc' ρ : En) {i j : Nat} {io : Bool} {ds ds' : List D}, (lentOf as).Nodup → as[j]? = some (.inr i) → ρc'[j]? = some (Sl.own true ds') → ρ[i]? = some (Sl.own io ds) → (wbk as ρc' ρ)[i]? = some (Sl.own io ds')
  | [], _, ρ, i, j, io, ds, ds', _, h, _, _ => by simp at h
  | a :: _, [], ρ, i, j, io, ds, ds', _, _, h, _ => by simp at h
  | .inl _ :: as, x :: r, ρ, i, 0, io, ds, ds', n, h, h2, h3 => by simp at h
  | .inl _ :: as, x :: r, ρ, i, j + 1, io, ds, ds', n, h, h2, h3 => wbk_at as r ρ (j := j) n (by simpa using h) (by simpa using h2) h3
  | .inr k :: as, x :: r, ρ, i, 0, io, ds, ds', n, h, h2, h3 => by
    simp at h h2
    subst h
    subst h2
    exact (wbk_not as r _ (List.nodup_cons.mp n).1).trans (wb1_at h3)
  | .inr k :: as, x :: r, ρ, i, j + 1, io, ds, ds', n, h, h2, h3 => by
    have h' : as[j]? = some (.inr i) := by simpa using h
    have ne : i ≠ k := fun e => (List.nodup_cons.mp n).1 (by rw [← e]; exact lent_mem h')
    exact wbk_at as r (wb1 k x ρ) (j := j) (List.nodup_cons.mp n).2 h' (by simpa using h2) ((wb1_ne ne).trans h3)
/-- behind a call -/
theorem sr_back {as : List (Sum D Nat)} {ρ ρc ρc' : En} {vs : List V} {σc : L2.St} (s : SR K ρ σ F H) (h : mkE as ρ = some ρc) (r : ArRs K σ F vs as) (n : (lentOf as).Nodup) (s' : SR K ρc' σc F' H') (st : Step ρc (vs.map some) F H ρc' σc F' H') :
    SR K (wbk as ρc' ρ) σ F' H' ∧ Step ρ σ F H (wbk as ρc' ρ) σ F' H' := by
  have lc : ρc'.length = as.length := by rw [s'.len, st.lenS, List.length_map, r.len]
  have keepO : ∀ {i : Nat} {io : Bool} {ds : List D} {p : Addr}, ρ[i]? = some (Sl.own io ds) → σ[i]? = some (some (.ref p)) → (∀ j : Nat, as[j]? ≠ some (Sum.inr i)) → ¬ OwnAt ρc (vs.map some) p := fun {i io ds p} q e no ⟨j, io', ds', q1, e1⟩ => by
    obtain ⟨v, f, z⟩ := mkE_get h r q1
    rcases z with ⟨_, _, z, _⟩ | ⟨i', io1, ds1, a, z, q2, q3⟩
    · cases z
    · simp [f] at e1
      subst e1
      have := s.dis i i' _ _ _ _ p q q2 e q3
      subst this
      exact no j a
  have all : ∀ (i : Nat) (io : Bool) (ds : List D), (wbk as ρc' ρ)[i]? = some (Sl.own io ds) → ∃ io' ds', ρ[i]? = some (Sl.own io' ds') := fun i io ds q => by
    rcases wbk_or as ρc' ρ i with z | ⟨io', ds0, ds', h1, h2⟩
    · rw [z] at q
      exact ⟨io, ds, q⟩
    · exact ⟨io', ds0, h1⟩
  have own' : ∀ a, OwnAt (wbk as ρc' ρ) σ a → OwnAt ρ σ a := fun a ⟨i, io, ds, q, e⟩ => by
    obtain ⟨io', ds', z⟩ := all i io ds q
    exact ⟨i, io', ds', z, e⟩
  refine ⟨⟨by rw [wbk_len]; exact s.len, s'.sub, fun i d q => ?_, fun i io ds q => ?_, fun i k io io' ds ds' p q1 q2 e1 e2 => ?_⟩, ⟨st.mono, fun a o e w => ?_, st.dom, fun i ds q => ⟨rfl, ?_⟩, rfl⟩⟩
  · rcases wbk_or as ρc' ρ i with z | ⟨io', ds0, ds', h1, h2⟩
    · rw [z] at q
      obtain ⟨v, e, rv⟩ := s.val i d q
      exact ⟨v, e, rv.mono st.mono⟩
    · rw [h2] at q
      cases q
  · rcases Classical.em (∃ j : Nat, as[j]? = some (Sum.inr i)) with ⟨j, a⟩ | no
    · have hj : j < ρc.length := by
        rw [mkE_len h]
        exact (List.getElem?_eq_some_iff.mp a).1
      obtain ⟨v, f, z2⟩ := mkE_get h r (List.getElem?_eq_getElem hj)
      rcases z2 with ⟨_, a', _, _⟩ | ⟨i', io1, ds1, a', z2, q2, q3⟩
      · rw [a] at a'
        cases a'
      · rw [a] at a'
        cases a'
        obtain ⟨f1, ds2, f2⟩ := st.io j ds1 ((List.getElem?_eq_getElem hj).trans (congrArg some z2))
        have w := wbk_at as ρc' ρ n a f2 q2
        rw [q] at w
        cases w
        obtain ⟨p2, ws2, e2, hp2, fp2, rr2⟩ := s'.own j true ds f2
        rw [f1] at e2
        simp [f] at e2
        subst e2
        exact ⟨p2, ws2, q3, hp2, fp2, rr2⟩
    · have no' : ∀ j : Nat, as[j]? ≠ some (Sum.inr i) := fun j w => no ⟨j, w⟩
      have nm : i ∉ lentOf as := fun w => by
        have : ∀ (as : List (Sum D Nat)), i ∈ lentOf as → ∃ j : Nat, as[j]? = some (Sum.inr i) := by
          intro as
          induction as with
          | nil => intro h; cases h
          | cons a as ih =>
            intro h
            cases a with
            | inl d =>
              obtain ⟨j, e⟩ := ih h
              exact ⟨j + 1, by simpa using e⟩
            | inr k =>
              rcases List.mem_cons.mp h with e | h
              · exact ⟨0, by simp [e]⟩
              · obtain ⟨j, e⟩ := ih h
                exact ⟨j + 1, by simpa using e⟩
        obtain ⟨j, e⟩ := this as w
        exact no' j e
      rw [wbk_not as ρc' ρ nm] at q
      obtain ⟨p, ws, e, hp, fp, rr⟩ := s.own i io ds q
      obtain ⟨k1, k2, _⟩ := st.keep p _ hp (keepO q e no')
      exact ⟨p, ws, e, k1, k2.trans fp, rr.mono st.mono⟩
  · obtain ⟨_, _, g1⟩ := all i _ _ q1
    obtain ⟨_, _, g2⟩ := all k _ _ q2
    exact s.dis i k _ _ _ _ p g1 g2 e1 e2
  · obtain ⟨k1, k2, _⟩ := st.keep a o e fun z => w (own_call h r z)
    exact ⟨k1, k2, fun z => w (own' a z)⟩
  · rcases wbk_or as ρc' ρ i with z | ⟨io', ds0, ds', h1, h2⟩
    · exact ⟨ds, z.trans q⟩
    · rw [q] at h1
      cases h1
      exact ⟨ds', h2⟩
end
section
variable {X : Cx} {ct : Nat → Addr × Str} {E : L2.St → XK} {pos p : Pos} {e : Expr} {es : List Expr} {ags : List Ag} {m : M R} {n : Nat}
theorem finC_run {K : PySem.W.Frag} {as : List (Sum D Nat)} {ρ : En} {σ : L2.St} {F H H0 : Hp} {vs : List V} {Q : VK} (s : SR K ρ σ F H) (d : ∀ a, H a = none → H0 a = none) (r : ArRs K σ F vs as) (l : vs.length = n)
    (h : RunG K ct E (finC m as ρ) ρ σ F H fun r ρ' F' H' => ∀ v, RepR K ρ' σ F' H' H0 v r → Q v H') : spM K ct n m vs H Q (E σ) := by
  refine ⟨l, ?_⟩
  unfold finC at h
  split at h
  · rename_i ρc q
    split at h
    · rename_i nd
      refine ⟨ρc, F, sr_call s q r nd, ?_⟩
      cases q2 : m ρc with
      | bad =>
        rw [q2] at h
        exact h
      | exn c dd ρc' =>
        rw [q2] at h
        exact fun σ' F' H' v dx s' st rv n x => by
          obtain ⟨s1, st1⟩ := sr_back s q r nd s' st
          exact h σ F' H' v dx s1 st1 rv n x
      | ok rr ρc' =>
        rw [q2] at h
        intro F' H' s' st v rv
        obtain ⟨s1, st1⟩ := sr_back s q r nd s' st
        cases rr with
        | val dd => exact h F' H' s1 st1 v rv
        | slot i => exact h.elim
        | fresh ds =>
          obtain ⟨p, ws, e, h0, hp, fp, no, rs⟩ := rv
          refine h F' H' s1 st1 v ⟨p, ws, e, d p h0, hp, fp, fun ⟨i, io, es, q3, q4⟩ => ?_, rs⟩
          -- an own slot's object stood ahead
          have : ∃ io' ds', ρ[i]? = some (Sl.own io' ds') := by
            rcases wbk_or as ρc' ρ i with z | ⟨io', ds0, ds', h1, h2⟩
            · rw [z] at q3
              exact ⟨io, es, q3⟩
            · exact ⟨io', ds0, h1⟩
          obtain ⟨io', ds', q5⟩ := this
          obtain ⟨p', _, e', hp', _⟩ := s.own i _ _ q5
          rw [e'] at q4
          cases q4
          rw [h0] at hp'
          cases hp'
    · exact h.elim
  · exact h.elim
theorem callM_run {K : PySem.W.Frag} (σ : L2.St) (H : Hp) (Q : VK) (hn : ∀ ρ as ρ', evA ags ρ = .ok as ρ' → as.length = n) (h : T K ct E (callM m ags) σ H Q) : tCallS (spM K ct n m) E (TAa K ct E ags) σ H Q := by
  obtain ⟨ρ, F, s, h⟩ := h
  have hb := RunG.bind (r := evA ags ρ) (k := fun as => finC m as) h
  have hb2 : RunG K ct E (evA ags ρ) ρ σ F H fun as ρ1 F1 H1 => as.length = n ∧ SR K ρ1 σ F1 H1 ∧ Step ρ σ F H ρ1 σ F1 H1 ∧ RunG K ct E (finC m as ρ1) ρ1 σ F1 H1 fun r ρ' F' H' => ∀ v, RepR K ρ' σ F' H' H v r → Q v H' := by
    cases q : evA ags ρ with
    | ok as ρ1 =>
      rw [q] at hb
      exact fun F' H' s' t => ⟨hn ρ as ρ1 q, hb F' H' s' t⟩
    | exn c d ρ1 =>
      rw [q] at hb
      exact hb
    | bad =>
      rw [q] at hb
      exact hb
  exact ⟨ρ, F, s, RunG.imp hb2 fun as ρ1 F1 H1 _ _ ⟨l, s1, st1, h1⟩ vs rv => finC_run s1 st1.dom rv (rv.len.trans l) h1⟩
theorem bnd_ok {α β : Type} {f : M α} {k : α → M β} {ρ ρ' : En} {b : β} (h : bnd f k ρ = .ok b ρ') : ∃ a ρ1, f ρ = .ok a ρ1 ∧ k a ρ1 = .ok b ρ' := by
  unfold bnd at h
  cases q : f ρ with
  | ok a ρ1 =>
    rw [q] at h
    exact ⟨a, ρ1, rfl, h⟩
  | exn c d ρ1 =>
    rw [q] at h
    cases h
  | bad =>
    rw [q] at h
    cases h
theorem evA_len : ∀ (ags : List Ag) (ρ : En) (as : List (Sum D Nat)) (ρ' : En), evA ags ρ = .ok as ρ' → as.length = ags.length
  | [], ρ, as, ρ', h => by
    cases h
    rfl
  | .e f :: fs, ρ, as, ρ', h => by
    obtain ⟨r, ρ1, _, h⟩ := bnd_ok h
    obtain ⟨d, ρ2, _, h⟩ := bnd_ok h
    obtain ⟨as', ρ3, q3, h⟩ := bnd_ok h
    cases h
    simp [evA_len fs ρ2 as' _ q3]
  | .io f :: fs, ρ, as, ρ', h => by
    obtain ⟨r, ρ1, _, h⟩ := bnd_ok h
    cases r with
    | val d => cases h
    | fresh d => cases h
    | slot i =>
      obtain ⟨as', ρ3, q3, h⟩ := bnd_ok h
      cases h
      simp [evA_len fs ρ1 as' _ q3]
/-- THE RULE for a call -/
theorem k_call {k : Nat} {fa : Addr} {fd : FuncData} {ps : List Str} {x : Str} (G : FnG X.prog X.w X.K X.mg X.base k fa fd ps (spM X.K ct n m)) (hr : Room k X.A) (hgd : X.A.guards = some []) (hg : Gl X x) (hm : X.mg x = some (.ref fa)) (hk : PySem.W.keepIn X.K (.ref fa) = true) (hb : Binds X.K fd ps []) (hx : ∀ σ, PassesAt (L2.CX X.prog X.w) X σ (E σ))
    (ha : PA X (e :: es) (TAa X.K ct E ags)) (hn : ags.length = n := by rfl) (hdb : (x == ("__debug__" : Str)) = false := by decide) (he : starEach (e :: es) X.env = (false, eval e X.env) :: starEach es X.env := by rfl) (hpl : (backTo pos (starEach es X.env)).any (·.1) = false := by rfl) :
    PE X (.Call (.Name x p) (e :: es) [] pos) (T X.K ct E (callM m ags)) :=
  pe_weak (ge_call G hr hgd hg hm hk hb hx ha hdb he hpl) fun σ H Q h => callM_run σ H Q (fun ρ as ρ' q => (evA_len ags ρ as ρ' q).trans hn) h
end
end VL

set_option maxRecDepth 100000
/-! VL11: the operations, by functions of data. -/
namespace VL
open PySem L2

abbrev lineN : Nat := 16777216
theorem ofLine {n : Nat} (h : n ≤ lineN) : n ≤ sizeLine := by rw [sizeLine_eq]; exact h
theorem toLine {n : Nat} (h : n ≤ sizeLine) : n ≤ lineN := by rw [sizeLine_eq] at h; exact h
section
variable {K : PySem.W.Frag} {F H : Hp} {v : V}
theorem sh_int {i : Int} (h : ShR K F H v (.int i)) : v = .int i := by
  have h : Rep K F v (.int i) := h
  cases h
  rfl
theorem sh_bl {i : Bool} (h : ShR K F H v (.bl i)) : v = .bl i := by
  have h : Rep K F v (.bl i) := h
  cases h
  rfl
theorem sh_str {i : Str} (h : ShR K F H v (.str i)) : v = .str i ∧ i.length ≤ sizeLine := by
  have h : Rep K F v (.str i) := h
  cases h with
  | str _ q => exact ⟨rfl, q⟩
theorem sh_non (h : ShR K F H v .non) : v = .non := by
  have h : Rep K F v .non := h
  cases h
  rfl
theorem sh_tup {ds : List D} (h : ShR K F H v (.tup ds)) : ∃ a vs, v = .ref a ∧ SqT K F a vs ∧ Reps K F vs ds := by
  have h : Rep K F v (.tup ds) := h
  cases h with
  | tup q r => exact ⟨_, _, rfl, q, r⟩
theorem sh_scr {ns : List Int} (h : ShR K F H v (.scr ns)) : ∃ a, v = .ref a ∧ SqL K F a (ns.map V.int) := by
  have h : Rep K F v (.scr ns) := h
  cases h with
  | scr q => exact ⟨_, rfl, q⟩
end

/-! ### ints -/
def iop (g : Int → Int → Int) : D → D → Option R
  | .int i, .int j => some (.val (.int (g i j)))
  | _, _ => none
def iopC (c : Int → Int → Bool) (g : Int → Int → Int) : D → D → Option R
  | .int i, .int j => if c i j = true then some (.val (.int (g i j))) else none
  | _, _ => none
def icmp (g : Int → Int → Bool) : D → D → Option R
  | .int i, .int j => some (.val (.bl (g i j)))
  | _, _ => none
section
variable {K : PySem.W.Frag}
theorem iop_ok {g : Int → Int → Int} : Op2 K (rI0 fun i j => .int (g i j)) (iop g) := fun F H vx vy x y res Q s sx sy e k => by
  unfold iop at e
  split at e
  · cases e
    cases sh_int sx
    cases sh_int sy
    exact ⟨_, _, rfl, rfl, k _ F H (Grow.refl s) (.int _)⟩
  · cases e
theorem iopC_ok {C : Int → Int → Prop} {c : Int → Int → Bool} {g : Int → Int → Int} (hc : ∀ i j, c i j = true → C i j) : Op2 K (rI C fun i j => .int (g i j)) (iopC c g) := fun F H vx vy x y res Q s sx sy e k => by
  unfold iopC at e
  split at e
  · split at e
    · rename_i i j hh
      cases e
      cases sh_int sx
      cases sh_int sy
      exact ⟨_, _, rfl, rfl, hc _ _ hh, k _ F H (Grow.refl s) (.int _)⟩
    · cases e
  · cases e
theorem icmp_ok {g : Int → Int → Bool} : Op2 K (rI0 fun i j => .bl (g i j)) (icmp g) := fun F H vx vy x y res Q s sx sy e k => by
  unfold icmp at e
  split at e
  · cases e
    cases sh_int sx
    cases sh_int sy
    exact ⟨_, _, rfl, rfl, k _ F H (Grow.refl s) (.bl _)⟩
  · cases e
def isub := iop (fun i j => i - j)
def imul := iopC (fun i j => decide (i.natAbs.log2 + j.natAbs.log2 < 1000000)) (fun i j => i * j)
def idiv := iopC (fun _ j => decide (0 < j ∧ j.natAbs.log2 < 9000)) (fun i j => i / j)
def imod := iopC (fun _ j => decide (0 < j)) (fun i j => i % j)
def ipow := iopC (fun i j => decide (0 ≤ j ∧ j ≤ 1000000 ∧ i.natAbs < 2 ^ 64)) (fun i j => i ^ j.toNat)
def ilt := icmp (fun i j => decide (i < j))
def ile := icmp (fun i j => decide (i ≤ j))
def igt := icmp (fun i j => decide (j < i))
def ige := icmp (fun i j => decide (j ≤ i))
theorem isub_ok : Op2 K (rI0 fun i j => .int (i - j)) isub := iop_ok
theorem imul_ok : Op2 K (rI CMulW fun i j => .int (i * j)) imul := iopC_ok fun i j h => of_decide_eq_true (p := i.natAbs.log2 + j.natAbs.log2 < 1000000) h
theorem idiv_ok : Op2 K (rI CDivW fun i j => .int (i / j)) idiv := iopC_ok fun i j h => of_decide_eq_true (p := 0 < j ∧ j.natAbs.log2 < 9000) h
theorem imod_ok : Op2 K (rI (fun _ j => 0 < j) fun i j => .int (i % j)) imod := iopC_ok fun i j h => of_decide_eq_true h
theorem ipow_ok : Op2 K (rI CPow fun i j => .int (i ^ j.toNat)) ipow := iopC_ok fun i j h => of_decide_eq_true (p := 0 ≤ j ∧ j ≤ 1000000 ∧ i.natAbs < 2 ^ 64) h
theorem ilt_ok : Op2 K (rI0 fun i j => .bl (decide (i < j))) ilt := icmp_ok
theorem ile_ok : Op2 K (rI0 fun i j => .bl (decide (i ≤ j))) ile := icmp_ok
theorem igt_ok : Op2 K (rI0 fun i j => .bl (decide (j < i))) igt := icmp_ok
theorem ige_ok : Op2 K (rI0 fun i j => .bl (decide (j ≤ i))) ige := icmp_ok
/-! ### + -/
def sadd : D → D → Option R
  | .str i, .str j => if i.length + j.length ≤ lineN then some (.val (.str (i ++ j))) else none
  | _, _ => none
def ladd : D → D → Option R
  | .lst i, .lst j => if i.length + j.length ≤ lineN then some (.fresh (i ++ j)) else none
  | _, _ => none
theorem str_len (i j : Str) : (i ++ j).length = i.length + j.length := by simp [TL.len_tl, TL.tl_append]
theorem sadd_ok : Op2 K (fun x y H Q => ∃ i j, x = .str i ∧ y = .str j ∧ i.length + j.length ≤ sizeLine ∧ Q (.str (i ++ j)) H) sadd := fun F H vx vy x y res Q s sx sy e k => by
  unfold sadd at e
  split at e
  · split at e
    · rename_i i j hh
      cases e
      obtain ⟨rfl, l1⟩ := sh_str sx
      obtain ⟨rfl, l2⟩ := sh_str sy
      exact ⟨_, _, rfl, rfl, ofLine hh, k _ F H (Grow.refl s) (.str _ (by rw [str_len]; exact ofLine hh))⟩
    · cases e
  · cases e
/-- a new list of an operation -/
theorem rs_fresh {F H : Hp} {p : Addr} {vs : List V} {ds : List D} (s : Sub F H) (hp : H p = none) (r : Reps K F vs ds) : Grow F H F (upd H p (.lst vs)) ∧ RsP K F (upd H p (.lst vs)) H (.ref p) (.fresh ds) := by
  refine ⟨Grow.opn s hp, p, vs, rfl, hp, upd_same, ?_, r⟩
  cases q : F p with
  | none => rfl
  | some u =>
    rw [s p u q] at hp
    cases hp
theorem rs_tup {F H : Hp} {p : Addr} {vs : List V} {ds : List D} (s : Sub F H) (hp : H p = none) (r : Reps K F vs ds) : Grow F H (upd F p (.tup vs)) (upd H p (.tup vs)) ∧ RsP K (upd F p (.tup vs)) (upd H p (.tup vs)) H (.ref p) (.val (.tup ds)) :=
  ⟨Grow.frz s hp, .tup (.of upd_same) (r.mono (Grow.frz s hp).ff)⟩
theorem ladd_ok : Op2 K rCat ladd := fun F H vx vy x y res Q s sx sy e k => by
  unfold ladd at e
  split at e
  · split at e
    · rename_i i j hh
      cases e
      obtain ⟨a, vs, rfl, ha, ra⟩ := sx
      obtain ⟨b, ws, rfl, hb, rb⟩ := sy
      refine ⟨a, b, vs, ws, rfl, rfl, ha, hb, by rw [ra.length, rb.length]; exact ofLine hh, fun p hp => ?_⟩
      obtain ⟨g, rs⟩ := rs_fresh s hp (ra.append rb)
      exact k _ _ _ g rs
    · cases e
  · cases e
def addG (x y : D) : Option R := (iop (fun i j => i + j) x y).or ((sadd x y).or (ladd x y))
theorem op_addG {X : Cx} : OpR X (binaryOp .Add) (fun x y H Q => rI0 (fun i j => .int (i + j)) x y H Q ∨ (∃ i j, x = .str i ∧ y = .str j ∧ i.length + j.length ≤ sizeLine ∧ Q (.str (i ++ j)) H) ∨ rCat x y H Q) := op_add.or (op_add_str.or op_cat)
theorem addG_ok : Op2 K (fun x y H Q => rI0 (fun i j => .int (i + j)) x y H Q ∨ (∃ i j, x = .str i ∧ y = .str j ∧ i.length + j.length ≤ sizeLine ∧ Q (.str (i ++ j)) H) ∨ rCat x y H Q) addG := iop_ok.or (sadd_ok.or ladd_ok)
/-! ### == of data -/
mutual
def toP : D → PyData
  | .non => .none
  | .bl b => .bool b
  | .int i => .int i
  | .str s => .str s
  | .tup ds => .tuple (toPs ds)
  | .lst ds => .list (toPs ds)
  | .scr _ => .none
def toPs : List D → List PyData
  | [] => []
  | d :: ds => toP d :: toPs ds
end
mutual
def noScr : D → Bool
  | .tup ds => noScrs ds
  | .lst ds => noScrs ds
  | .scr _ => false
  | _ => true
def noScrs : List D → Bool
  | [] => true
  | d :: ds => noScr d && noScrs ds
end
mutual
theorem Rep.dp {H : Hp} : ∀ {v : V} {d : D}, Rep K H v d → noScr d = true → Dp K H v (toP d)
  | _, _, .non, _ => .non
  | _, _, .bl b, _ => .bl b
  | _, _, .int i, _ => .int i
  | _, _, .str s _, _ => .str s
  | _, _, .tup h r, n => by
    rw [toP]
    exact .tup h (Reps.dp r (by simpa [noScr] using n))
  | _, _, .lst h r, n => by
    rw [toP]
    exact .lst (.of h) (Reps.dp r (by simpa [noScr] using n))
  | _, _, .scr h, n => by simp [noScr] at n
theorem Reps.dp {H : Hp} : ∀ {vs : List V} {ds : List D}, Reps K H vs ds → noScrs ds = true → DpAll K H vs (toPs ds)
  | _, _, .nil, _ => by
    rw [toPs]
    exact .nil
  | _, _, .cons h r, n => by
    rw [toPs]
    simp only [noScrs, Bool.and_eq_true] at n
    exact .cons (Rep.dp h n.1) (Reps.dp r n.2)
end
def okP (d : D) : Bool := noScr d && SeqAt.shaped (toP d)
def eqG (x y : D) : Option R := if okP x = true ∧ okP y = true then some (.val (.bl (PyData.eqv (toP x) (toP y)))) else none
def neG (x y : D) : Option R := if okP x = true ∧ okP y = true then some (.val (.bl (!PyData.eqv (toP x) (toP y)))) else none
theorem eqG_ok : Op2 K (rEqD K) eqG := fun F H vx vy x y res Q s sx sy e k => by
  unfold eqG at e
  split at e
  · rename_i h
    cases e
    obtain ⟨h1, h2⟩ := h
    unfold okP at h1 h2
    rw [Bool.and_eq_true] at h1 h2
    exact ⟨_, _, (sx.rep s).dp h1.1, (sy.rep s).dp h2.1, h1.2, h2.2, k _ F H (Grow.refl s) (.bl _)⟩
  · cases e
theorem neG_ok : Op2 K (rNeD K) neG := fun F H vx vy x y res Q s sx sy e k => by
  unfold neG at e
  split at e
  · rename_i h
    cases e
    obtain ⟨h1, h2⟩ := h
    unfold okP at h1 h2
    rw [Bool.and_eq_true] at h1 h2
    exact ⟨_, _, (sx.rep s).dp h1.1, (sy.rep s).dp h2.1, h1.2, h2.2, k _ F H (Grow.refl s) (.bl _)⟩
  · cases e
/-! ### is -/
def isN : D → D → Option R
  | x, .non => some (.val (.bl (match x with | .non => true | _ => false)))
  | _, _ => none
def isnN : D → D → Option R
  | x, .non => some (.val (.bl (match x with | .non => false | _ => true)))
  | _, _ => none
theorem isN_ok : Op2 K (fun x y H Q => y = .non ∧ Q (.bl (decide (x = .non))) H) isN := fun F H vx vy x y res Q s sx sy e k => by
  unfold isN at e
  split at e
  · cases e
    cases sh_non sy
    refine ⟨rfl, ?_⟩
    cases sx.rep s <;> exact k _ F H (Grow.refl s) (.bl _)
  · cases e
theorem isnN_ok : Op2 K (fun x y H Q => y = .non ∧ Q (.bl (!decide (x = .non))) H) isnN := fun F H vx vy x y res Q s sx sy e k => by
  unfold isnN at e
  split at e
  · cases e
    cases sh_non sy
    refine ⟨rfl, ?_⟩
    cases sx.rep s <;> exact k _ F H (Grow.refl s) (.bl _)
  · cases e
/-- x is True, x is not False: whatever x is -/
theorem op_isB {X : Cx} : OpR X (compareOp .Is) (fun x y H Q => ∃ b, y = .bl b ∧ Q (.bl (decide (x = .bl b))) H) := by
  intro pins s σ H x y v u Q I rx ry h
  obtain ⟨b, rfl, q⟩ := h
  cases (show u = Value.bool b from ry)
  by_cases e : v = Value.bool b
  · subst e
    have : x = .bl b := RelV.inj rx rfl
    subst this
    exact wpAny_is_self rfl ⟨.bl true, H, I, rfl, by simpa using q⟩
  · have ne : x ≠ .bl b := fun z => by
      subst z
      exact e rx
    have hp : plainIs v (Value.bool b) = true := by
      cases x with
      | non => cases (show v = Value.none from rx); rfl
      | bl c => cases (show v = Value.bool c from rx); rfl
      | int i => obtain ⟨t, rfl⟩ := rx; rfl
      | str i => obtain ⟨t, rfl⟩ := rx; rfl
      | byt i => obtain ⟨t, rfl⟩ := rx; rfl
      | flt i => obtain ⟨t, rfl⟩ := rx; rfl
      | ref a => cases (show v = Value.ref a from rx); rfl
      | ty n => cases (show v = Value.type n from rx); rfl
    exact wpAny_is_other hp e ⟨.bl false, H, I, rfl, by simpa [ne] using q⟩
theorem op_isnB {X : Cx} : OpR X (compareOp .IsNot) (fun x y H Q => ∃ b, y = .bl b ∧ Q (.bl (!decide (x = .bl b))) H) := by
  intro pins s σ H x y v u Q I rx ry h
  obtain ⟨b, rfl, q⟩ := h
  cases (show u = Value.bool b from ry)
  by_cases e : v = Value.bool b
  · subst e
    have : x = .bl b := RelV.inj rx rfl
    subst this
    exact wpAny_isNot_self rfl ⟨.bl false, H, I, rfl, by simpa using q⟩
  · have ne : x ≠ .bl b := fun z => by
      subst z
      exact e rx
    have hp : plainIs v (Value.bool b) = true := by
      cases x with
      | non => cases (show v = Value.none from rx); rfl
      | bl c => cases (show v = Value.bool c from rx); rfl
      | int i => obtain ⟨t, rfl⟩ := rx; rfl
      | str i => obtain ⟨t, rfl⟩ := rx; rfl
      | byt i => obtain ⟨t, rfl⟩ := rx; rfl
      | flt i => obtain ⟨t, rfl⟩ := rx; rfl
      | ref a => cases (show v = Value.ref a from rx); rfl
      | ty n => cases (show v = Value.type n from rx); rfl
    exact wpAny_isNot_other hp e ⟨.bl true, H, I, rfl, by simpa [ne] using q⟩
def isB : D → D → Option R
  | x, .bl b => some (.val (.bl (match x with | .bl c => c == b | _ => false)))
  | _, _ => none
def isnB : D → D → Option R
  | x, .bl b => some (.val (.bl (match x with | .bl c => !(c == b) | _ => true)))
  | _, _ => none
theorem isB_ok : Op2 K (fun x y H Q => ∃ b, y = .bl b ∧ Q (.bl (decide (x = .bl b))) H) isB := fun F H vx vy x y res Q s sx sy e k => by
  unfold isB at e
  split at e
  · rename_i b
    cases e
    cases sh_bl sy
    refine ⟨b, rfl, ?_⟩
    cases sx.rep s with
    | bl c =>
      have : decide (V.bl c = V.bl b) = (c == b) := dec_bl
      rw [this]
      exact k _ F H (Grow.refl s) (.bl _)
    | non => exact k _ F H (Grow.refl s) (.bl _)
    | int i => exact k _ F H (Grow.refl s) (.bl _)
    | str i _ => exact k _ F H (Grow.refl s) (.bl _)
    | tup _ _ => exact k _ F H (Grow.refl s) (.bl _)
    | lst _ _ => exact k _ F H (Grow.refl s) (.bl _)
    | scr _ => exact k _ F H (Grow.refl s) (.bl _)
  · cases e
theorem isnB_ok : Op2 K (fun x y H Q => ∃ b, y = .bl b ∧ Q (.bl (!decide (x = .bl b))) H) isnB := fun F H vx vy x y res Q s sx sy e k => by
  unfold isnB at e
  split at e
  · rename_i b
    cases e
    cases sh_bl sy
    refine ⟨b, rfl, ?_⟩
    cases sx.rep s with
    | bl c =>
      have : decide (V.bl c = V.bl b) = (c == b) := dec_bl
      rw [this]
      exact k _ F H (Grow.refl s) (.bl _)
    | non => exact k _ F H (Grow.refl s) (.bl _)
    | int i => exact k _ F H (Grow.refl s) (.bl _)
    | str i _ => exact k _ F H (Grow.refl s) (.bl _)
    | tup _ _ => exact k _ F H (Grow.refl s) (.bl _)
    | lst _ _ => exact k _ F H (Grow.refl s) (.bl _)
    | scr _ => exact k _ F H (Grow.refl s) (.bl _)
  · cases e
/-! ### in -/
def sgnIn (neg : Bool) : D → D → Option R
  | .str c, .str z => (match c.cps.toList with
    | [n] => some (.val (.bl (if neg then !decide (n ∈ z.cps.toList) else decide (n ∈ z.cps.toList))))
    | _ => none)
  | _, _ => none
theorem sgn_eq {c : Str} {n : Nat} (h : c.cps.toList = [n]) : c = ⟨#[n]⟩ := TL.ext_tl h
theorem sgnIn_ok : Op2 K (fun x y H Q => ∃ (c : Nat) (z : Str), x = .str ⟨#[c]⟩ ∧ y = .str z ∧ Q (.bl (decide (c ∈ z.cps.toList))) H) (sgnIn false) := fun F H vx vy x y res Q s sx sy e k => by
  unfold sgnIn at e
  split at e
  · split at e
    · rename_i n h
      cases e
      obtain ⟨rfl, l1⟩ := sh_str sx
      obtain ⟨rfl, l2⟩ := sh_str sy
      exact ⟨n, _, by rw [sgn_eq h], rfl, k _ F H (Grow.refl s) (.bl _)⟩
    · cases e
  · cases e
/-- a flat thing in a list or tuple of flat things -/
def flatD : D → Bool
  | .non => true
  | .bl _ => true
  | .int _ => true
  | .str _ => true
  | _ => false
def vOf : D → V
  | .bl b => .bl b
  | .int i => .int i
  | .str s => .str s
  | _ => .non
theorem flat_v {F : Hp} {v : V} {d : D} (r : Rep K F v d) (h : flatD d = true) : v = vOf d ∧ flatV v = true := by
  cases r <;> first | exact ⟨rfl, rfl⟩ | cases h
theorem flat_vs {F : Hp} : ∀ {vs : List V} {ds : List D}, Reps K F vs ds → ds.all flatD = true → vs = ds.map vOf ∧ vs.all flatV = true
  | _, _, .nil, _ => ⟨rfl, rfl⟩
  | _, _, .cons h r, n => by
    rw [List.all_cons, Bool.and_eq_true] at n
    obtain ⟨e1, f1⟩ := flat_v h n.1
    obtain ⟨e2, f2⟩ := flat_vs r n.2
    exact ⟨by rw [List.map_cons, ← e1, ← e2], by rw [List.all_cons, f1, f2]; rfl⟩
def inSeq (neg : Bool) : D → D → Option R := fun x y => match y with
  | .lst ds => if flatD x = true ∧ ds.all flatD = true then some (.val (.bl (if neg then !inV (vOf x) (ds.map vOf) else inV (vOf x) (ds.map vOf)))) else none
  | .tup ds => if flatD x = true ∧ ds.all flatD = true then some (.val (.bl (if neg then !inV (vOf x) (ds.map vOf) else inV (vOf x) (ds.map vOf)))) else none
  | _ => none
theorem inSeq_ok {neg : Bool} : Op2 K (rIn K neg) (inSeq neg) := fun F H vx vy x y res Q s sx sy e k => by
  unfold inSeq at e
  split at e
  · split at e
    · rename_i ds h
      cases e
      obtain ⟨a, vs, rfl, ha, ra⟩ := sy
      obtain ⟨e1, f1⟩ := flat_v (sx.rep s) h.1
      obtain ⟨e2, f2⟩ := flat_vs ra h.2
      refine ⟨a, vs, rfl, .inl (.of ha), f1, f2, ?_⟩
      rw [e1, e2]
      exact k _ F H (Grow.refl s) (.bl _)
    · cases e
  · split at e
    · rename_i ds h
      cases e
      obtain ⟨a, vs, rfl, ha, ra⟩ := sh_tup sy
      obtain ⟨e1, f1⟩ := flat_v (sx.rep s) h.1
      obtain ⟨e2, f2⟩ := flat_vs ra h.2
      refine ⟨a, vs, rfl, .inr (s.t ha), f1, f2, ?_⟩
      rw [e1, e2]
      exact k _ F H (Grow.refl s) (.bl _)
    · cases e
  · cases e
/-! ### items -/
def ixG : D → D → Option R
  | .lst ds, .int i => (atI ds i).map .val
  | .tup ds, .int i => (atI ds i).map .val
  | .str s, .int i => (atI s.cps.toList i).map fun c => .val (.str ⟨#[c]⟩)
  | .scr ns, .int i => (atI ns i).map fun n => .val (.int n)
  | _, _ => none
theorem atI_rep {F : Hp} {vs : List V} {ds : List D} {i : Int} {d : D} (r : Reps K F vs ds) (h : atI ds i = some d) : ∃ v, atI vs i = some v ∧ Rep K F v d := by
  unfold atI at h ⊢
  rw [r.length]
  cases q : ixN ds.length i with
  | none =>
    rw [q] at h
    cases h
  | some j =>
    rw [q] at h
    exact r.get h
theorem sgl_len (c : Nat) : (⟨#[c]⟩ : Str).length ≤ sizeLine := by
  rw [sizeLine_eq]
  exact (by decide : (1 : Nat) ≤ 16777216)
theorem ixG_ok : Op2 K (rIx K) ixG := fun F H vx vy x y res Q s sx sy e k => by
  unfold ixG at e
  split at e
  · rename_i ds i
    cases q : atI ds i with
    | none =>
      rw [q] at e
      cases e
    | some d =>
      rw [q] at e
      cases e
      obtain ⟨a, vs, rfl, ha, ra⟩ := sx
      cases sh_int sy
      obtain ⟨v, h1, h2⟩ := atI_rep ra q
      exact .inl ⟨a, vs, i, v, rfl, rfl, .of ha, h1, k _ F H (Grow.refl s) h2⟩
  · rename_i ds i
    cases q : atI ds i with
    | none =>
      rw [q] at e
      cases e
    | some d =>
      rw [q] at e
      cases e
      obtain ⟨a, vs, rfl, ha, ra⟩ := sh_tup sx
      cases sh_int sy
      obtain ⟨v, h1, h2⟩ := atI_rep ra q
      exact .inr (.inl ⟨a, vs, i, v, rfl, rfl, s.t ha, h1, k _ F H (Grow.refl s) h2⟩)
  · rename_i z i
    cases q : atI z.cps.toList i with
    | none =>
      rw [q] at e
      cases e
    | some d =>
      rw [q] at e
      cases e
      obtain ⟨rfl, l1⟩ := sh_str sx
      cases sh_int sy
      exact .inr (.inr ⟨z, i, d, rfl, rfl, l1, q, k _ F H (Grow.refl s) (.str _ (sgl_len d))⟩)
  · rename_i ns i
    cases q : atI ns i with
    | none =>
      rw [q] at e
      cases e
    | some d =>
      rw [q] at e
      cases e
      obtain ⟨a, rfl, ha⟩ := sh_scr sx
      cases sh_int sy
      refine .inl ⟨a, _, i, .int d, rfl, rfl, s.l ha, ?_, k _ F H (Grow.refl s) (.int _)⟩
      unfold atI at q ⊢
      rw [List.length_map]
      cases q2 : ixN ns.length i with
      | none =>
        rw [q2] at q
        cases q
      | some j =>
        rw [q2] at q
        have q : ns[j]? = some d := q
        show (ns.map V.int)[j]? = _
        rw [List.getElem?_map, q]
        rfl
  · cases e
/-! ### slices -/
def cutD {α : Type} (xs : List α) (lo hi : Option Int) : List α := (xs.drop (HT.sIx xs.length 0 lo)).take (HT.sIx xs.length xs.length hi - HT.sIx xs.length 0 lo)
def slL : D → Option Int → Option Int → Option R
  | .lst ds, l, u => some (.fresh (cutD ds l u))
  | _, _, _ => none
def slS : D → Option Int → Option Int → Option R
  | .str s, l, u => some (.val (.str (cutS s l u)))
  | _, _, _ => none
theorem slL_ok : SlS K (rSlL K) slL := fun F H v d l u res Q s sx e k => by
  unfold slL at e
  split at e
  · rename_i ds
    cases e
    obtain ⟨a, vs, rfl, ha, ra⟩ := sx
    refine ⟨a, vs, rfl, .of ha, fun p hp => ?_⟩
    have r2 : Reps K F (cutV vs l u) (cutD ds l u) := by
      unfold cutV cutD
      rw [ra.length]
      exact (ra.drop _).take _
    obtain ⟨g, rs⟩ := rs_fresh s hp r2
    exact k _ _ _ g rs
  · cases e
theorem slS_ok : SlS K rSlS slS := fun F H v d l u res Q s sx e k => by
  unfold slS at e
  split at e
  · rename_i z
    cases e
    obtain ⟨rfl, l1⟩ := sh_str sx
    exact ⟨z, rfl, l1, k _ F H (Grow.refl s) (.str _ (Nat.le_trans (cutS_length z l u) l1))⟩
  · cases e
def slG (d : D) (l u : Option Int) : Option R := (slL d l u).or (slS d l u)
theorem slG_ok : SlS K (fun v l u H Q => rSlL K v l u H Q ∨ rSlS v l u H Q) slG := slL_ok.or slS_ok
theorem sl_G {X : Cx} : SlR X (fun v l u H Q => rSlL X.K v l u H Q ∨ rSlS v l u H Q) := sl_list.or sl_str
end
end VL

set_option maxRecDepth 100000
/-! VL12: built-ins by functions of data; tables of the module; f-strings. -/
namespace VL
open PySem L2

section
variable {K : PySem.W.Frag}
theorem shs1 {F H : Hp} {vs : List V} {d : D} (h : ShRs K F H vs [d]) : ∃ v, vs = [v] ∧ ShR K F H v d := by
  match vs, h with
  | [v], ⟨h, _⟩ => exact ⟨v, rfl, h⟩
theorem shs2 {F H : Hp} {vs : List V} {d e : D} (h : ShRs K F H vs [d, e]) : ∃ v w, vs = [v, w] ∧ ShR K F H v d ∧ ShR K F H w e := by
  match vs, h with
  | [v, w], ⟨h, h', _⟩ => exact ⟨v, w, rfl, h, h'⟩
/-- a built-in of one value -/
def c1 (g : D → Option R) : List D → Option R
  | [d] => g d
  | _ => none
theorem c1_ok {r : List V → Hp → VK → Prop} {g : D → Option R} (h : ∀ (F H : Hp) (v : V) (d : D) (res : R) (Q : VK), Sub F H → ShR K F H v d → g d = some res → (∀ v F' H', Grow F H F' H' → RsP K F' H' H v res → Q v H') → r [v] H Q) : CallS K r (c1 g) := fun F H vs ds res Q s sh e k => by
  unfold c1 at e
  split at e
  · obtain ⟨v, rfl, q⟩ := shs1 sh
    exact h F H v _ res Q s q e k
  · cases e
/-! ### len -/
def lenG : D → Option R
  | .str s => some (.val (.int s.length))
  | .lst ds => some (.val (.int ds.length))
  | .tup ds => some (.val (.int ds.length))
  | .scr ns => some (.val (.int ns.length))
  | _ => none
theorem lenG_ok : CallS K (fun xs H Q => ∃ x n, xs = [x] ∧ LenV K x H n ∧ Q (.int n) H) (c1 lenG) := c1_ok fun F H v d res Q s sh e k => by
  unfold lenG at e
  split at e
  · cases e
    obtain ⟨rfl, l⟩ := sh_str sh
    exact ⟨_, _, rfl, ⟨l, rfl⟩, k _ F H (Grow.refl s) (.int _)⟩
  · cases e
    obtain ⟨a, vs, rfl, ha, ra⟩ := sh
    exact ⟨_, _, rfl, .inl ⟨vs, .of ha, rfl⟩, k _ F H (Grow.refl s) (by rw [ra.length]; exact Rep.int _)⟩
  · cases e
    obtain ⟨a, vs, rfl, ha, ra⟩ := sh_tup sh
    exact ⟨_, _, rfl, .inr ⟨vs, s.t ha, rfl⟩, k _ F H (Grow.refl s) (by rw [ra.length]; exact Rep.int _)⟩
  · cases e
    obtain ⟨a, rfl, ha⟩ := sh_scr sh
    exact ⟨_, _, rfl, .inl ⟨_, s.l ha, rfl⟩, k _ F H (Grow.refl s) (by rw [List.length_map]; exact Rep.int _)⟩
  · cases e
/-! ### isinstance -/
def isiD (ty : String) : D → Option R
  | .non => some (.val (.bl false))
  | .bl _ => some (.val (.bl (ty == "bool" || ty == "int")))
  | .int _ => some (.val (.bl (ty == "int")))
  | .str _ => some (.val (.bl (ty == "str")))
  | .tup _ => some (.val (.bl (ty == "tuple")))
  | .lst _ => some (.val (.bl (ty == "list")))
  | .scr _ => none
def tyOk (ty : String) : Prop := kitB "NoneType" ty = some false ∧ kitB "bool" ty = some (ty == "bool" || ty == "int") ∧ kitB "int" ty = some (ty == "int") ∧ kitB "str" ty = some (ty == "str") ∧ kitB "tuple" ty = some (ty == "tuple") ∧ kitB "list" ty = some (ty == "list")
theorem tyOk_int : tyOk "int" := by unfold tyOk; decide +kernel
theorem tyOk_bool : tyOk "bool" := by unfold tyOk; decide +kernel
theorem tyOk_str : tyOk "str" := by unfold tyOk; decide +kernel
theorem tyOk_tuple : tyOk "tuple" := by unfold tyOk; decide +kernel
theorem tyOk_list : tyOk "list" := by unfold tyOk; decide +kernel
end
section
variable {X : Cx} {ct : Nat → Addr × Str} {E : L2.St → XK} {e : Expr} {f : M R} {pos p : Pos}
theorem SqT.tyx {H : Hp} {a : Addr} {xs : List V} (h : SqT X.K H a xs) : TyX X.K H (.ref a) (.type "tuple") := by
  rcases h with (h | ⟨o, h⟩) | ⟨o, its, n, h1, h2, h3, _⟩
  · exact .base (.tup h)
  · exact .fTuple h
  · exact .kTuple h1 h2
theorem k_isi {ty : String} {x : Str} {p2 : Pos} (ho : tyOk ty) (hg : Gl X "isinstance") (hm : X.mg "isinstance" = none) (hg2 : Gl X x) (hm2 : X.mg x = none) (hv2 : bootBuiltins x = some (.type ty)) (he : PE X e (T X.K ct E f)) (hn : x ≠ "__name__" := by decide) (hdb : (x == ("__debug__" : Str)) = false := by decide)
    (hs1 : starEach [e, .Name x p2] X.env = (false, eval e X.env) :: starEach [.Name x p2] X.env := by rfl) (hpl : (backTo pos (starEach [.Name x p2] X.env)).any (·.1) = false := by rfl) :
    PE X (.Call (.Name "isinstance" p) [e, .Name x p2] [] pos) (T X.K ct E (op1 (isiD ty) f)) :=
  pe_weak (pe_callB call_isi hg hm (by decide +kernel) (pa_cons he (pa_cons (pe_bltn hg2 hm2 hv2 (v := .ty ty) rfl hn hdb) pa_nil (by rfl)) hs1) (by decide) (by decide) hs1 hpl) fun σ H Q h => by
    have h2 := op1_run (X := X) (r := fun v H Q => rIsi X.K [v, .ty ty] H Q) (fun F H v d res Q s sh e k => by
      obtain ⟨k1, k2, k3, k4, k5, k6⟩ := ho
      unfold isiD at e
      split at e
      · cases e
        cases sh_non sh
        exact ⟨_, _, _, _, _, rfl, .ty ty, .base .non, kit_ty k1, k _ F H (Grow.refl s) (.bl _)⟩
      · cases e
        cases sh_bl sh
        exact ⟨_, _, _, _, _, rfl, .ty ty, .base (.bl _), kit_ty k2, k _ F H (Grow.refl s) (.bl _)⟩
      · cases e
        cases sh_int sh
        exact ⟨_, _, _, _, _, rfl, .ty ty, .base (.int _), kit_ty k3, k _ F H (Grow.refl s) (.bl _)⟩
      · cases e
        obtain ⟨rfl, _⟩ := sh_str sh
        exact ⟨_, _, _, _, _, rfl, .ty ty, .base (.str _), kit_ty k4, k _ F H (Grow.refl s) (.bl _)⟩
      · cases e
        obtain ⟨a, vs, rfl, ha, ra⟩ := sh_tup sh
        exact ⟨_, _, _, _, _, rfl, .ty ty, SqT.tyx (s.t ha), kit_ty k5, k _ F H (Grow.refl s) (.bl _)⟩
      · cases e
        obtain ⟨a, vs, rfl, ha, ra⟩ := sh
        exact ⟨_, _, _, _, _, rfl, .ty ty, .base (.lst ha), kit_ty k6, k _ F H (Grow.refl s) (.bl _)⟩
      · cases e) σ H Q h
    exact h2
end
section
variable {K : PySem.W.Frag}
/-! ### str, int, abs, min, max -/
def strG : D → Option R
  | .int i => if i.natAbs.log2 < 1920 then some (.val (.str (toString i))) else none
  | .str s => some (.val (.str s))
  | _ => none
theorem num_len {i : Int} (h : i.natAbs.log2 < 1920) : (Str.ofString (toString i)).length ≤ sizeLine := int_text_fits h
theorem strG_ok : CallS K (fun xs H Q => (∃ i, xs = [.int i] ∧ i.natAbs.log2 < 1920 ∧ Q (.str (toString i)) H) ∨ ∃ a, xs = [.str a] ∧ Q (.str a) H) (c1 strG) := c1_ok fun F H v d res Q s sh e k => by
  unfold strG at e
  split at e
  · split at e
    · rename_i hb
      cases e
      cases sh_int sh
      exact .inl ⟨_, rfl, hb, k _ F H (Grow.refl s) (.str _ (num_len hb))⟩
    · cases e
  · cases e
    obtain ⟨rfl, l⟩ := sh_str sh
    exact .inr ⟨_, rfl, k _ F H (Grow.refl s) (.str _ l)⟩
  · cases e
theorem call_strG {X : Cx} : CallR X (.type "str") (fun xs H Q => (∃ i, xs = [.int i] ∧ i.natAbs.log2 < 1920 ∧ Q (.str (toString i)) H) ∨ ∃ a, xs = [.str a] ∧ Q (.str a) H) := call_str_int.or SkE.call_str_str
def intG : D → Option R
  | .str s => if s.length ≤ 640 then (PySem.intText? s).map fun n => .val (.int n) else none
  | .bl b => some (.val (.int (if b then 1 else 0)))
  | .int i => some (.val (.int i))
  | _ => none
theorem intG_ok : CallS K (fun xs H Q => (∃ a n, xs = [.str a] ∧ PySem.intText? a = some n ∧ a.length ≤ 640 ∧ Q (.int n) H) ∨ ((∃ i, xs = [.int i] ∧ Q (.int i) H) ∨ ∃ k, xs = [.bl k] ∧ Q (.int (if k then 1 else 0)) H)) (c1 intG) := c1_ok fun F H v d res Q s sh e k => by
  unfold intG at e
  split at e
  · split at e
    · rename_i z hb
      cases q : PySem.intText? z with
      | none =>
        rw [q] at e
        cases e
      | some n =>
        rw [q] at e
        cases e
        obtain ⟨rfl, l⟩ := sh_str sh
        exact .inl ⟨_, _, rfl, q, hb, k _ F H (Grow.refl s) (.int _)⟩
    · cases e
  · cases e
    cases sh_bl sh
    exact .inr (.inr ⟨_, rfl, k _ F H (Grow.refl s) (.int _)⟩)
  · cases e
    cases sh_int sh
    exact .inr (.inl ⟨_, rfl, k _ F H (Grow.refl s) (.int _)⟩)
  · cases e
theorem call_intG {X : Cx} : CallR X (.type "int") (fun xs H Q => (∃ a n, xs = [.str a] ∧ PySem.intText? a = some n ∧ a.length ≤ 640 ∧ Q (.int n) H) ∨ ((∃ i, xs = [.int i] ∧ Q (.int i) H) ∨ ∃ k, xs = [.bl k] ∧ Q (.int (if k then 1 else 0)) H)) := call_int_str.or call_int1
def absG : D → Option R
  | .int i => some (.val (.int (if i < 0 then -i else i)))
  | _ => none
theorem absG_ok : CallS K (fun xs H Q => ∃ i, xs = [.int i] ∧ Q (.int (if i < 0 then -i else i)) H) (c1 absG) := c1_ok fun F H v d res Q s sh e k => by
  unfold absG at e
  split at e
  · cases e
    cases sh_int sh
    exact ⟨_, rfl, k _ F H (Grow.refl s) (.int _)⟩
  · cases e
def maxG : List D → Option R
  | [.int i, .int j] => some (.val (.int (if j > i then j else i)))
  | _ => none
def minG : List D → Option R
  | [.int i, .int j] => some (.val (.int (if j < i then j else i)))
  | _ => none
theorem maxG_ok : CallS K (fun xs H Q => ∃ i j, xs = [.int i, .int j] ∧ Q (.int (if j > i then j else i)) H) maxG := fun F H vs ds res Q s sh e k => by
  unfold maxG at e
  split at e
  · cases e
    obtain ⟨v, w, rfl, h1, h2⟩ := shs2 sh
    cases sh_int h1
    cases sh_int h2
    exact ⟨_, _, rfl, k _ F H (Grow.refl s) (.int _)⟩
  · cases e
theorem minG_ok : CallS K (fun xs H Q => ∃ i j, xs = [.int i, .int j] ∧ Q (.int (if j < i then j else i)) H) minG := fun F H vs ds res Q s sh e k => by
  unfold minG at e
  split at e
  · cases e
    obtain ⟨v, w, rfl, h1, h2⟩ := shs2 sh
    cases sh_int h1
    cases sh_int h2
    exact ⟨_, _, rfl, k _ F H (Grow.refl s) (.int _)⟩
  · cases e
/-! ### all, any of truths -/
def bools : List D → Option (List Bool)
  | [] => some []
  | .bl b :: ds => (bools ds).map (b :: ·)
  | _ => none
theorem bools_v {F : Hp} : ∀ {vs : List V} {ds : List D} {bs : List Bool}, Reps K F vs ds → bools ds = some bs → vs = bs.map V.bl
  | _, _, bs, .nil, e => by
    cases e
    rfl
  | _, _, bs, .cons (ds := ds') h r, e => by
    cases h with
    | bl b =>
      unfold bools at e
      cases q : bools ds' with
      | none =>
        rw [q] at e
        cases e
      | some bs' =>
        rw [q] at e
        cases e
        rw [bools_v r q]
        rfl
    | _ =>
      unfold bools at e
      cases e
def allG : D → Option R
  | .lst ds => (bools ds).map fun bs => .val (.bl (bs.all id))
  | _ => none
def anyG : D → Option R
  | .lst ds => (bools ds).map fun bs => .val (.bl (bs.any id))
  | _ => none
theorem allG_ok : CallS K (rAll K) (c1 allG) := c1_ok fun F H v d res Q s sh e k => by
  unfold allG at e
  split at e
  · rename_i ds
    cases q : bools ds with
    | none =>
      rw [q] at e
      cases e
    | some bs =>
      rw [q] at e
      cases e
      obtain ⟨a, vs, rfl, ha, ra⟩ := sh
      have := bools_v ra q
      subst this
      exact ⟨a, bs, rfl, .of ha, k _ F H (Grow.refl s) (.bl _)⟩
  · cases e
theorem anyG_ok : CallS K (rAny K) (c1 anyG) := c1_ok fun F H v d res Q s sh e k => by
  unfold anyG at e
  split at e
  · rename_i ds
    cases q : bools ds with
    | none =>
      rw [q] at e
      cases e
    | some bs =>
      rw [q] at e
      cases e
      obtain ⟨a, vs, rfl, ha, ra⟩ := sh
      have := bools_v ra q
      subst this
      exact ⟨a, bs, rfl, .of ha, k _ F H (Grow.refl s) (.bl _)⟩
  · cases e
/-! ### list, tuple -/
def listG : D → Option R
  | .lst ds => some (.fresh ds)
  | .tup ds => some (.fresh ds)
  | _ => none
theorem listG_ok : CallS K (fun xs H Q => ∃ p ys, xs = [.ref p] ∧ (SqL K H p ys ∨ SqT K H p ys) ∧ ∀ l, H l = none → Q (.ref l) (upd H l (.lst ys))) (c1 listG) := c1_ok fun F H v d res Q s sh e k => by
  unfold listG at e
  split at e
  · cases e
    obtain ⟨a, vs, rfl, ha, ra⟩ := sh
    refine ⟨a, vs, rfl, .inl (.of ha), fun l hl => ?_⟩
    obtain ⟨g, rs⟩ := rs_fresh s hl ra
    exact k _ _ _ g rs
  · cases e
    obtain ⟨a, vs, rfl, ha, ra⟩ := sh_tup sh
    refine ⟨a, vs, rfl, .inr (s.t ha), fun l hl => ?_⟩
    obtain ⟨g, rs⟩ := rs_fresh s hl ra
    exact k _ _ _ g rs
  · cases e
def tupG : D → Option R
  | .lst ds => some (.val (.tup ds))
  | .tup ds => some (.val (.tup ds))
  | _ => none
theorem tupG_ok : CallS K (fun xs H Q => ∃ p ys, xs = [.ref p] ∧ ((SqL K H p ys ∧ ∀ l, H l = none → Q (.ref l) (upd H l (.tup ys))) ∨ (SqT K H p ys ∧ Q (.ref p) H))) (c1 tupG) := c1_ok fun F H v d res Q s sh e k => by
  unfold tupG at e
  split at e
  · cases e
    obtain ⟨a, vs, rfl, ha, ra⟩ := sh
    refine ⟨a, vs, rfl, .inl ⟨.of ha, fun l hl => ?_⟩⟩
    obtain ⟨g, rs⟩ := rs_tup s hl ra
    exact k _ _ _ g rs
  · cases e
    obtain ⟨a, vs, rfl, ha, ra⟩ := sh_tup sh
    exact ⟨a, vs, rfl, .inr ⟨s.t ha, k _ F H (Grow.refl s) (.tup ha ra)⟩⟩
  · cases e
/-! ### sorted of ints -/
def intsOf : List D → Option (List Int)
  | [] => some []
  | .int b :: ds => (intsOf ds).map (b :: ·)
  | _ => none
theorem intsOf_v {F : Hp} : ∀ {vs : List V} {ds : List D} {bs : List Int}, Reps K F vs ds → intsOf ds = some bs → vs = bs.map V.int
  | _, _, bs, .nil, e => by
    cases e
    rfl
  | _, _, bs, .cons (ds := ds') h r, e => by
    cases h with
    | int b =>
      unfold intsOf at e
      cases q : intsOf ds' with
      | none =>
        rw [q] at e
        cases e
      | some bs' =>
        rw [q] at e
        cases e
        rw [intsOf_v r q]
        rfl
    | _ =>
      unfold intsOf at e
      cases e
theorem intsOf_r {F : Hp} : ∀ (ns : List Int), Reps K F (ns.map V.int) (ns.map D.int)
  | [] => .nil
  | i :: ns => .cons (.int i) (intsOf_r ns)
def isort (ns : List Int) : List Int := ns.mergeSort fun a b => decide (a ≤ b)
def sortI : D → Option R
  | .lst ds => (intsOf ds).bind fun ns => if ns.length < 64 then some (.fresh ((isort ns).map D.int)) else none
  | _ => none
theorem isort_unique {ns ms : List Int} (h : ms.Perm ns) (o : ms.Pairwise fun a b => a ≤ b) : ms = isort ns := by
  have h2 : (isort ns).Perm ns := List.mergeSort_perm _ _
  have o2 : (isort ns).Pairwise fun a b => a ≤ b := by
    have := List.pairwise_mergeSort (le := fun a b : Int => decide (a ≤ b)) (fun a b c h1 h2 => by simp at *; omega) (fun a b => by simp; omega) ns
    exact this.imp fun h => by simpa using h
  exact List.Perm.eq_of_pairwise (le := fun a b : Int => a ≤ b) (fun a b _ _ h1 h2 => Int.le_antisymm h1 h2) o o2 (h.trans h2.symm)
end
end VL

set_option maxRecDepth 100000
/-! VL13: texts, slices and sums of tuples, sorted, repr, f-strings. -/
namespace VL
open PySem L2 PyProof.Rows

section
variable {K : PySem.W.Frag}
def strsOf : List D → Option (List Str)
  | [] => some []
  | .str b :: ds => (strsOf ds).map (b :: ·)
  | _ => none
theorem strsOf_v {F : Hp} : ∀ {vs : List V} {ds : List D} {bs : List Str}, Reps K F vs ds → strsOf ds = some bs → vs = bs.map V.str
  | _, _, bs, .nil, e => by
    cases e
    rfl
  | _, _, bs, .cons (ds := ds') h r, e => by
    cases h with
    | str b =>
      unfold strsOf at e
      cases q : strsOf ds' with
      | none =>
        rw [q] at e
        cases e
      | some bs' =>
        rw [q] at e
        cases e
        rw [strsOf_v r q]
        rfl
    | _ =>
      unfold strsOf at e
      cases e
theorem strsOf_map : ∀ (ys : List Str), strsOf (ys.map D.str) = some ys
  | [] => rfl
  | y :: ys => by
    show (strsOf (ys.map D.str)).map (y :: ·) = _
    rw [strsOf_map ys]
    rfl
theorem intsOf_map : ∀ (ys : List Int), intsOf (ys.map D.int) = some ys
  | [] => rfl
  | y :: ys => by
    show (intsOf (ys.map D.int)).map (y :: ·) = _
    rw [intsOf_map ys]
    rfl
theorem bools_map : ∀ (ys : List Bool), bools (ys.map D.bl) = some ys
  | [] => rfl
  | y :: ys => by
    show (bools (ys.map D.bl)).map (y :: ·) = _
    rw [bools_map ys]
    rfl
theorem strs_rep {F : Hp} : ∀ {ys : List Str}, (∀ y ∈ ys, y.length ≤ sizeLine) → Reps K F (ys.map V.str) (ys.map D.str)
  | [], _ => .nil
  | y :: ys, h => .cons (.str y (h y (List.mem_cons_self ..))) (strs_rep fun z hz => h z (List.mem_cons_of_mem _ hz))
/-! ### join, split, partition -/
def joinD (a : Str) (ds : List D) : Option R := (strsOf ds).bind fun ys => if (ys.map (·.length)).sum + ys.length * a.length ≤ 16777216 ∧ (Txt.join a ys).length ≤ lineN then some (.val (.str (Txt.join a ys))) else none
def joinG : List D → Option R
  | [.str a, .lst ds] => joinD a ds
  | [.str a, .tup ds] => joinD a ds
  | _ => none
theorem joinD_out {a : Str} {ds : List D} {res : R} (e : joinD a ds = some res) : ∃ ys, strsOf ds = some ys ∧ (ys.map (·.length)).sum + ys.length * a.length ≤ 16777216 ∧ (Txt.join a ys).length ≤ lineN ∧ res = .val (.str (Txt.join a ys)) := by
  unfold joinD at e
  cases q : strsOf ds with
  | none =>
    rw [q] at e
    cases e
  | some ys =>
    rw [q] at e
    replace e : (if (ys.map (·.length)).sum + ys.length * a.length ≤ 16777216 ∧ (Txt.join a ys).length ≤ lineN then some (R.val (.str (Txt.join a ys))) else none) = some res := e
    split at e
    · rename_i h
      cases e
      exact ⟨ys, rfl, h.1, h.2, rfl⟩
    · cases e
theorem joinG_ok : MtS K (fun x xs H Q => ∃ a p, ∃ ys : List Str, x = .str a ∧ xs = [.ref p] ∧ (SqL K H p (ys.map V.str) ∨ SqT K H p (ys.map V.str)) ∧
    (ys.map (·.length)).sum + ys.length * a.length ≤ 16777216 ∧ Q (.str (Txt.join a ys)) H) joinG := fun F H v vs d ds res Q s sh shs e k => by
  unfold joinG at e
  split at e
  · rename_i a ds' hq
    cases hq
    obtain ⟨ys, q, h1, h2, rfl⟩ := joinD_out e
    obtain ⟨rfl, _⟩ := sh_str sh
    obtain ⟨w, rfl, hw⟩ := shs1 shs
    obtain ⟨p, ws, rfl, hp, rp⟩ := hw
    have := strsOf_v rp q
    subst this
    exact ⟨a, p, ys, rfl, rfl, .inl (.of hp), h1, k _ F H (Grow.refl s) (.str _ (ofLine h2))⟩
  · rename_i a ds' hq
    cases hq
    obtain ⟨ys, q, h1, h2, rfl⟩ := joinD_out e
    obtain ⟨rfl, _⟩ := sh_str sh
    obtain ⟨w, rfl, hw⟩ := shs1 shs
    obtain ⟨p, ws, rfl, hp, rp⟩ := sh_tup hw
    have := strsOf_v rp q
    subst this
    exact ⟨a, p, ys, rfl, rfl, .inr (s.t hp), h1, k _ F H (Grow.refl s) (.str _ (ofLine h2))⟩
  · cases e
def splitG : List D → Option R
  | [.str a, .str b] => if (b.length == 0) = false ∧ a.length + 2 ≤ lineN ∧ (Txt.split a b).all (fun y => y.length ≤ lineN) = true then some (.fresh ((Txt.split a b).map D.str)) else none
  | _ => none
theorem splitG_ok : MtS K (fun x xs H Q => ∃ a b, x = .str a ∧ xs = [.str b] ∧ (b.length == 0) = false ∧ a.length + 2 ≤ sizeLine ∧ rNewStrs (Txt.split a b) H Q) splitG := fun F H v vs d ds res Q s sh shs e k => by
  unfold splitG at e
  split at e
  · rename_i a b hq
    cases hq
    split at e
    · rename_i hc
      cases e
      obtain ⟨rfl, _⟩ := sh_str sh
      obtain ⟨w, rfl, hw⟩ := shs1 shs
      obtain ⟨rfl, _⟩ := sh_str hw
      refine ⟨a, b, rfl, rfl, hc.1, ofLine hc.2.1, fun p hp => ?_⟩
      obtain ⟨g, rs⟩ := rs_fresh (K := K) s hp (strs_rep (ys := Txt.split a b) fun y hy => ofLine (by have := List.all_eq_true.mp hc.2.2 y hy; simpa using this))
      exact k _ _ _ g rs
    · cases e
  · cases e
def partG : List D → Option R
  | [.str a, .str b] => if (b.length == 0) = false ∧ (Txt.partition a b).1.length ≤ lineN ∧ (Txt.partition a b).2.1.length ≤ lineN ∧ (Txt.partition a b).2.2.length ≤ lineN then some (.val (.tup [.str (Txt.partition a b).1, .str (Txt.partition a b).2.1, .str (Txt.partition a b).2.2])) else none
  | _ => none
theorem partG_ok : MtS K (fun x xs H Q => ∃ a b, x = .str a ∧ xs = [.str b] ∧ (b.length == 0) = false ∧ a.length ≤ sizeLine ∧
    ∀ p, H p = none → Q (.ref p) (upd H p (.tup [.str (Txt.partition a b).1, .str (Txt.partition a b).2.1, .str (Txt.partition a b).2.2]))) partG := fun F H v vs d ds res Q s sh shs e k => by
  unfold partG at e
  split at e
  · rename_i a b hq
    cases hq
    split at e
    · rename_i hc
      cases e
      obtain ⟨rfl, l⟩ := sh_str sh
      obtain ⟨w, rfl, hw⟩ := shs1 shs
      obtain ⟨rfl, _⟩ := sh_str hw
      refine ⟨a, b, rfl, rfl, hc.1, l, fun p hp => ?_⟩
      obtain ⟨g, rs⟩ := rs_tup (K := K) s hp (.cons (.str _ (ofLine hc.2.1)) (.cons (.str _ (ofLine hc.2.2.1)) (.cons (.str _ (ofLine hc.2.2.2)) .nil)))
      exact k _ _ _ g rs
    · cases e
  · cases e
/-! ### slices and sums with tuples -/
def slT : D → Option Int → Option Int → Option R
  | .tup ds, l, u => some (.val (.tup (cutD ds l u)))
  | _, _, _ => none
theorem cutD_all {α : Type} {xs : List α} {l u : Option Int} (h : HT.sIx xs.length 0 l = 0 ∧ HT.sIx xs.length xs.length u = xs.length) : cutD xs l u = xs := by
  unfold cutD
  rw [h.1, h.2]
  simp
theorem slT_ok : SlS K (rSlA K) slT := fun F H v d l u res Q s sh e k => by
  unfold slT at e
  split at e
  · rename_i ds
    cases e
    obtain ⟨a, vs, rfl, ha, ra⟩ := sh_tup sh
    refine ⟨a, vs, rfl, s.t ha, fun hw => ?_, fun hw p hp => ?_⟩
    · rw [ra.length] at hw
      rw [cutD_all hw] at k
      exact k _ F H (Grow.refl s) (.tup ha ra)
    · have r2 : Reps K F (cutV vs l u) (cutD ds l u) := by
        unfold cutV cutD
        rw [ra.length]
        exact (ra.drop _).take _
      obtain ⟨g, rs⟩ := rs_tup s hp r2
      exact k _ _ _ g rs
  · cases e
def slH (d : D) (l u : Option Int) : Option R := (slG d l u).or (slT d l u)
theorem slH_ok : SlS K (fun v l u H Q => (rSlL K v l u H Q ∨ rSlS v l u H Q) ∨ rSlA K v l u H Q) slH := slG_ok.or slT_ok
theorem sl_H {X : Cx} : SlR X (fun v l u H Q => (rSlL X.K v l u H Q ∨ rSlS v l u H Q) ∨ rSlA X.K v l u H Q) := sl_G.or sl_tupA
def tadd : D → D → Option R
  | .tup xs, .tup ys => if xs.length + ys.length ≤ lineN then some (.val (.tup (xs ++ ys))) else none
  | _, _ => none
theorem tadd_ok : Op2 K (rCatA K) tadd := fun F H vx vy x y res Q s sx sy e k => by
  unfold tadd at e
  split at e
  · rename_i xs ys
    split at e
    · rename_i hc
      cases e
      obtain ⟨a, vs, rfl, ha, ra⟩ := sh_tup sx
      obtain ⟨b, ws, rfl, hb, rb⟩ := sh_tup sy
      refine ⟨a, b, vs, ws, rfl, rfl, s.t ha, s.t hb, by rw [ra.length, rb.length]; exact ofLine hc, fun h1 => ?_, fun h1 h2 => ?_, fun h1 h2 p hp => ?_⟩
      · subst h1
        cases ra
        exact k _ F H (Grow.refl s) (.tup hb rb)
      · subst h2
        cases rb
        rw [List.append_nil] at k
        exact k _ F H (Grow.refl s) (.tup ha ra)
      · obtain ⟨g, rs⟩ := rs_tup s hp (ra.append rb)
        exact k _ _ _ g rs
    · cases e
  · cases e
def addH (x y : D) : Option R := (addG x y).or (tadd x y)
theorem addH_ok : Op2 K (fun x y H Q => (rI0 (fun i j => .int (i + j)) x y H Q ∨ (∃ i j, x = .str i ∧ y = .str j ∧ i.length + j.length ≤ sizeLine ∧ Q (.str (i ++ j)) H) ∨ rCat x y H Q) ∨ rCatA K x y H Q) addH := addG_ok.or tadd_ok
theorem op_addH {X : Cx} : OpR X (binaryOp .Add) (fun x y H Q => (rI0 (fun i j => .int (i + j)) x y H Q ∨ (∃ i j, x = .str i ∧ y = .str j ∧ i.length + j.length ≤ sizeLine ∧ Q (.str (i ++ j)) H) ∨ rCat x y H Q) ∨ rCatA X.K x y H Q) := op_addG.or op_catA
/-! ### sorted -/
theorem sortI_ok : CallS K (rSorted K) (c1 sortI) := c1_ok fun F H v d res Q s sh e k => by
  unfold sortI at e
  split at e
  · rename_i ds
    cases q : intsOf ds with
    | none =>
      rw [q] at e
      cases e
    | some ns =>
      rw [q] at e
      replace e : (if ns.length < 64 then some (R.fresh ((isort ns).map D.int)) else none) = some res := e
      split at e
      · rename_i hl
        cases e
        obtain ⟨a, vs, rfl, ha, ra⟩ := sh
        have := intsOf_v ra q
        subst this
        refine ⟨a, ns, rfl, .of ha, hl, fun ms p h1 h2 hp => ?_⟩
        have := isort_unique h1 h2
        subst this
        obtain ⟨g, rs⟩ := rs_fresh (K := K) s hp (intsOf_r (isort ns))
        exact k _ _ _ g rs
      · cases e
  · cases e
/-! ### repr -/
def reprG : D → Option R := fun d => match d with
  | .tup _ => if noScr d = true ∧ (toP d).showable = true ∧ (toP d).hasDict = false ∧ (toP d).depth ≤ 64 ∧ (toP d).shown.length ≤ lineN then some (.val (.str (toP d).shown)) else none
  | .lst _ => if noScr d = true ∧ (toP d).showable = true ∧ (toP d).hasDict = false ∧ (toP d).depth ≤ 64 ∧ (toP d).shown.length ≤ lineN then some (.val (.str (toP d).shown)) else none
  | _ => none
def rRepr (K : PySem.W.Frag) : List V → Hp → VK → Prop := fun xs H Q => ∃ (a : Addr) (p : PyData), xs = [V.ref a] ∧ Dp K H (V.ref a) p ∧ p.showable = true ∧ p.hasDict = false ∧ p.depth ≤ 64 ∧ p.shown.length ≤ lineN ∧ Q (.str p.shown) H
theorem call_repr {X : Cx} (hgd : X.A.guards = some []) (hu : X.A.units + 65 < cLine) : CallR X (.builtin "repr") (rRepr X.K) := by
  intro pins s σ H xs us Q I r h
  obtain ⟨a, p, rfl, hd, h1, h2, h3, h4, q⟩ := h
  rw [Vals.ref1 r]
  obtain ⟨as, rd⟩ := Dp.reads I p (V.ref a) (.ref a) hd rfl
  refine repr_of_reads' rd h1 (fun h => by rw [h2] at h; cases h) hgd (by omega) (fun b o e => e) (fun h' u tk hk => ?_) (ofLine h4)
  exact ⟨.str p.shown, H, I.kept hk, ⟨u, rfl⟩, q⟩
theorem reprG_ok : CallS K (rRepr K) (c1 reprG) := c1_ok fun F H v d res Q s sh e k => by
  unfold reprG at e
  split at e
  · split at e
    · rename_i h
      cases e
      have h0 := sh.rep s
      obtain ⟨a, vs, rfl, ha, ra⟩ := sh_tup sh
      exact ⟨a, _, rfl, h0.dp h.1, h.2.1, h.2.2.1, h.2.2.2.1, h.2.2.2.2, k _ F H (Grow.refl s) (.str _ (ofLine h.2.2.2.2))⟩
    · cases e
  · split at e
    · rename_i h
      cases e
      have h0 := sh.rep s
      obtain ⟨a, vs, rfl, ha, ra⟩ := id sh
      exact ⟨a, _, rfl, h0.dp h.1, h.2.1, h.2.2.1, h.2.2.2.1, h.2.2.2.2, k _ F H (Grow.refl s) (.str _ (ofLine h.2.2.2.2))⟩
    · cases e
  · cases e
end
section
variable {X : Cx} {ct : Nat → Addr × Str} {E : L2.St → XK} {e : Expr} {f : M R} {pos p : Pos}
/-! ### f-strings -/
def fjoin : List (M R) → Str → M R
  | [], acc => ret (.val (.str acc))
  | f :: fs, acc => bnd f fun r => match r with
    | .val (.str y) => fun ρ => if (acc ++ y).length ≤ lineN then fjoin fs (acc ++ y) ρ else .bad
    | _ => fun _ => .bad
theorem k_fmt (he : PE X e (T X.K ct E f)) : PE X (.FormattedValue e (-1) none pos) (T X.K ct E (op1 strG f)) := pe_weak (pe_fmt he) fun σ H Q h => by
  have h2 := op1_run (X := X) (r := fun v H Q => (∃ y : Str, v = .str y ∧ y.length ≤ sizeLine ∧ Q (.str y) H) ∨ ∃ i : Int, v = .int i ∧ i.natAbs.log2 < 1920 ∧ Q (.str (toString i)) H) (fun F H v d res Q s sh e k => by
    unfold strG at e
    split at e
    · split at e
      · rename_i hb
        cases e
        cases sh_int sh
        exact .inr ⟨_, rfl, hb, k _ F H (Grow.refl s) (.str _ (num_len hb))⟩
      · cases e
    · cases e
      obtain ⟨rfl, l⟩ := sh_str sh
      exact .inl ⟨_, rfl, l, k _ F H (Grow.refl s) (.str _ l)⟩
    · cases e) σ H Q h
  exact h2
inductive FJ (X : Cx) (ct : Nat → Addr × Str) (E : L2.St → XK) : List Expr → List (M R) → Prop
  | nil : FJ X ct E [] []
  | cons {e : Expr} {f : M R} {es : List Expr} {fs : List (M R)} : PE X e (T X.K ct E f) → FJ X ct E es fs → FJ X ct E (e :: es) (f :: fs)
theorem FJ.pj {es : List Expr} {fs : List (M R)} (h : FJ X ct E es fs) : PJ X es (fs.map (T X.K ct E)) := by
  induction h with
  | nil => exact .nil
  | cons h _ ih => exact .cons h ih
theorem fjoin_run {K : PySem.W.Frag} : ∀ (fs : List (M R)) (acc : Str) (σ : L2.St) (H : Hp) (Q : VK), acc.length ≤ sizeLine → T K ct E (fjoin fs acc) σ H Q → tJs (fs.map (T K ct E)) acc σ H (fun out H1 => Q (.str out) H1)
  | [], acc, σ, H, Q, l, ⟨ρ, F, s, h⟩ => h F H s (Step.refl ..) _ (.str acc l)
  | f :: fs, acc, σ, H, Q, l, ⟨ρ, F, s, h⟩ => by
    refine ⟨ρ, F, s, ?_⟩
    refine RunG.imp (RunG.bind h) fun r ρ1 F1 H1 s1 st1 h1 v rv => ?_
    replace h1 := h1.2.2
    match r, h1 with
    | .val (.str y), h1 =>
      dsimp only at h1
      split at h1
      · rename_i hl
        cases rv
        exact ⟨y, rfl, ofLine hl, fjoin_run fs (acc ++ y) σ H1 Q (ofLine hl) (RunG_T s1 (fun a z => st1.dom a z) h1)⟩
      · exact h1.elim
    | .val .non, h1 => exact h1.elim
    | .val (.bl _), h1 => exact h1.elim
    | .val (.int _), h1 => exact h1.elim
    | .val (.tup _), h1 => exact h1.elim
    | .val (.lst _), h1 => exact h1.elim
    | .val (.scr _), h1 => exact h1.elim
    | .fresh _, h1 => exact h1.elim
    | .slot _, h1 => exact h1.elim
theorem k_joined {e2 : Expr} {rest : List Expr} {fs : List (M R)} (h : FJ X ct E (e :: e2 :: rest) fs) : PE X (.JoinedStr (e :: e2 :: rest) pos) (T X.K ct E (fjoin fs Str.empty)) :=
  pe_weak (pe_joined h.pj) fun σ H Q q => fjoin_run fs Str.empty σ H Q (Nat.zero_le _) q
end
end VL

set_option maxRecDepth 100000
/-! VL14: targets with a star. -/
namespace VL
open PySem L2 PyProof.Rows PySem.Spec

section
variable {prog : Program} {w : World} {A : Around} {E : Value → Shared → Prop} {s : Shared}
theorem star_tup {l : Addr} {its : List Value} {n i : Nat} {Q : List Value → Shared → Prop} (hl : IsTup s.heap l its.toArray) (hh : A.handled = none) (hi : i < n) (hn : n ≤ its.length + 1) (hz : its.length ≤ sizeLine)
    (h : ∀ (h' : Heap) (tk : Nat), (∀ b o, s.heap.get? b = some o → h'.get? b = some o) → Q (its.take i ++ [.ref h'.objs.size] ++ (its.drop i).drop (its.length + 1 - n)) { s with heap := h'.push { cls := .type "list", data := .seq ((its.drop i).take (its.length + 1 - n)).toArray }, toks := tk }) :
    wpAny (model prog w) A (unpackItems (.ref l) n (some i)) Q E s := by
  have hsz : its.toArray.size = its.length := by simp
  have hlt : l ≠ s.heap.objs.size := by obtain ⟨o, ho, _⟩ := hl; exact Nat.ne_of_lt (Heap.lt_size ho)
  unfold unpackItems
  refine wpAny_bind ?_
  unfold notIterableAtAll
  refine wpAny_bind (wpAny_specialOf hl.typeIs slot_tuple_iter.lookup ?_)
  refine wpAny_pure ?_
  simp only [Bool.false_eq_true, if_false]
  refine wpAny_bind (wpAny_holding (iter_tuple hl ?_))
  refine wpAny_bind (wpAny_holding (draw_tuple hlt i 0 _ _ ⟨_, Heap.get?_push_size _ rfl, rfl, rfl⟩ (hl.push _) (by omega) fun h1 hit hs1 => ?_))
  have hl1 : IsTup h1 l its.toArray := (hl.push _).extBut hs1.extBut hlt
  rw [Nat.zero_add] at hit
  obtain ⟨oi, hoi, _⟩ := id hit
  obtain ⟨ol, hol, _⟩ := id hl1
  rw [List.drop_zero]
  have htl : its.toArray.toList = its := rfl
  have hfl : (its.take i).length = i := by rw [List.length_take]; omega
  rw [htl, if_neg (show ¬ ((its.take i).length < i) by rw [hfl]; omega)]
  refine wpAny_bind (wpAny_holding (PySem.W.kun_collect (s := { s with heap := h1 }) (T := "tuple_iterator") (.inr (.inr (.inr rfl))) (Walks.tuple (A := A.in1) hh s.heap.objs.size l hlt its.toArray) (fun j u st => st.1.typeIs) (k := i) (by rw [hsz]; omega) ⟨hit, hl1⟩ (Heap.lt_size hoi) (Heap.lt_size hol) (fun h2 tk hk => ?_) (by rw [hsz]; exact hz)))
  rw [htl]
  have hrl : (its.drop i).length = its.length - i := List.length_drop
  have hmid : (its.drop i).length - (n - 1 - i) = its.length + 1 - n := by rw [hrl]; omega
  show wpAny _ _ (if (its.drop i).length < n - 1 - i then _ else _) _ _ _
  rw [if_neg (by rw [hrl]; omega)]
  show wpAny _ _ (newList ((its.drop i).take ((its.drop i).length - (n - 1 - i))) >>= fun d => pure (its.take i ++ [d] ++ (its.drop i).drop ((its.drop i).length - (n - 1 - i)))) _ _ _
  rw [hmid]
  have he : ∀ b o, s.heap.get? b = some o → h2.get? b = some o := fun b o e => hk b o (Nat.ne_of_lt (Heap.lt_size e)) (hs1.extBut b o (Nat.ne_of_lt (Heap.lt_size e)) (Heap.get?_push_of_some _ e))
  exact wpAny_bind (wpAny_newList (s := { s with heap := h2, toks := tk }) (wpAny_pure (h h2 tk he)) (by rw [List.length_take, hrl]; omega))
end
section
variable {X : Cx} {pos : Pos}
def gStar (K : PySem.W.Frag) (n i : Nat) (t : TGs) : TG := fun v σ H Q => ∃ a xs, v = .ref a ∧ SqT K H a xs ∧ i < n ∧ n ≤ xs.length + 1 ∧
  ∀ p, H p = none → t (xs.take i ++ [.ref p] ++ (xs.drop i).drop (xs.length + 1 - n)) σ (upd H p (.lst ((xs.drop i).take (xs.length + 1 - n)))) Q
theorem vals_append {xs ys : List V} {us ws : List Value} (h : Vals xs us) (h' : Vals ys ws) : Vals (xs ++ ys) (us ++ ws) := by
  induction h with
  | nil => exact h'
  | cons a _ ih => exact .cons a ih
theorem pg_star {es : List Expr} {k : Nat} {t : TGs} {n i : Nat} (hc : X.calm = true) (h : PGs X es t)
    (hn : (assignEach es X.env).length = n := by rfl) (hst : (assignEach es X.env).findIdx? (·.1) = some i := by rfl) : PG X (.Tuple es k pos) (gStar X.K n i t) := by
  refine ⟨fun pins s σ H v u Q I r hw => ?_⟩
  obtain ⟨a, xs, e1, hq, hi, hl, hw⟩ := hw
  subst e1
  cases r
  obtain ⟨its, rv, ht, hz⟩ := I.tuple hq
  have hlen : xs.length = its.length := rv.length
  rw [assign_Tuple]
  refine wpAny_bind (wpAny_standAt ?_)
  unfold unpack
  rw [hn, hst]
  refine wpAny_bind (wpAny_holding (star_tup ht (I.ok.hd hc) hi (by omega) (by omega) fun h' tk hk => ?_))
  have I0 : Inv X pins σ H { s with heap := h', toks := tk } := I.kept (t' := tk) hk
  have hp := I0.hok.fresh (Nat.le_refl _)
  have I1 : Inv X pins σ (upd H h'.objs.size (.lst ((xs.drop i).take (xs.length + 1 - n)))) { s with heap := h'.push { cls := .type "list", data := .seq ((its.drop i).take (its.length + 1 - n)).toArray }, toks := tk } := by
    refine I0.laid (t' := tk) (fun b u q => Heap.get?_push_of_some _ q) (Nat.le_refl _) ⟨by rw [List.length_take, List.length_drop]; omega, _, _, ?_, Heap.get?_push_size _ rfl⟩
    rw [hlen]
    exact (rv.drop i).take _
  refine h.run pins _ σ _ _ _ Q I1 ?_ (hw _ hp)
  rw [hlen]
  exact vals_append (vals_append (rv.take i) (.cons rfl .nil)) ((rv.drop i).drop _)
theorem pgs_starred {e : Expr} {es : List Expr} {t : TG} {u : TGs} (h1 : PG X e t) (h2 : PGs X es u)
    (hs : (assignEach (.Starred e pos :: es) X.env).map (·.2) = assign e X.env :: (assignEach es X.env).map (·.2) := by rfl) : PGs X (.Starred e pos :: es) (gCons t u) := by
  refine ⟨fun pins s σ H vs us Q I r h => ?_⟩
  obtain ⟨v, vr, e1, h⟩ := h
  subst e1
  cases r with
  | cons r rr =>
    rw [hs]
    refine assignInOrder_cons (thn (h1.run pins s σ H _ _ _ I r h) fun _ s1 ⟨σ1, H1, I1, q1⟩ => ?_)
    exact h2.run pins s1 σ1 H1 _ _ Q I1 rr q1
end
section
variable {X : Cx} {ct : Nat → Addr × Str} {E : L2.St → XK} {pos : Pos}
theorem k_gstar {e : Expr} {es : List Expr} {p : Pos} {g : TG} {gs : TGs} {t : D → M Unit} {ts : List (D → M Unit)} {vs : List Nat} {n : Nat} (h : PGd X e g t vs) (hs : PGsd X es gs ts vs n)
    (hh : (assignEach (.Starred e p :: es) X.env).map (·.2) = assign e X.env :: (assignEach es X.env).map (·.2) := by rfl) : PGsd X (.Starred e p :: es) (gCons g gs) (t :: ts) vs (n + 1) := ⟨pgs_starred h.pg hs.pg hh, gs_cons h.gs hs.gs⟩
def starD (n i : Nat) : D → M (List D) := fun d ρ => match d with
  | .tup ds => if i < n ∧ n ≤ ds.length + 1 then .ok (ds.take i ++ [.lst ((ds.drop i).take (ds.length + 1 - n))] ++ (ds.drop i).drop (ds.length + 1 - n)) ρ else .bad
  | _ => .bad
/-- a, *b = e -/
def asgStar (n i : Nat) (ts : List (D → M Unit)) (fe : M R) : SM := bnd fe fun r => bnd (toV r) fun d => bnd (starD n i d) fun ds => bnd (gseq ts ds) fun _ => ret .nx
theorem k_asgStar {e : Expr} {es : List Expr} {kk : Nat} {tpos : Pos} {fe : M R} {gs : TGs} {ts : List (D → M Unit)} {vs : List Nat} {m n i : Nat} (hc : X.calm = true) (he : PE X e (T X.K ct E fe)) (hg : PGsd X es gs ts vs m)
    (hn : (assignEach es X.env).length = n := by rfl) (hst : (assignEach es X.env).findIdx? (·.1) = some i := by rfl)
    (hs : swapsWithSole [.Tuple es kk tpos] e pos.line X.env = pure false := by rfl) (hw : swappedStores [.Tuple es kk tpos] e X.env = pure none := by rfl)
    (h1 : (assignEach [.Tuple es kk tpos] X.env).map (·.2) = [assign (.Tuple es kk tpos) X.env] := by rfl) : PS X (.Assign [.Tuple es kk tpos] e pos) (TSd X.K ct E (asgStar n i ts fe)) := ps_weak (ps_asg he (pg_star hc hg.pg hn hst) hs hw h1) fun Dn σ H ⟨ρ, F, s, h⟩ => by
  obtain ⟨ρ0, F0, s0, h0⟩ := T_vW s h
  refine ⟨ρ0, F0, s0, RunG.imp h0 fun r1 ρ1 F1 H1 s1 st1 k v rr => ?_⟩
  obtain ⟨d, ρ2, F2, s2, ra, st2, h2⟩ := k v rr
  match d, ra, h2 with
  | .tup ds, ra, h2 =>
    unfold starD at h2
    simp only [bnd] at h2
    split at h2
    · rename_i hc
      cases ra with
      | @tup a ws _ ha ra =>
        have hl := ra.length
        refine ⟨a, ws, rfl, s2.sub.t ha, hc.1, by rw [hl]; exact hc.2, fun p hp => ?_⟩
        have rm : Reps X.K F2 ((ws.drop i).take (ws.length + 1 - n)) ((ds.drop i).take (ds.length + 1 - n)) := by
          rw [hl]
          exact (ra.drop i).take _
        have g := Grow.frz (o := .lst ((ws.drop i).take (ws.length + 1 - n))) s2.sub hp
        have s3 := g.sr s2
        have rl : Rep X.K (upd F2 p (.lst ((ws.drop i).take (ws.length + 1 - n)))) (.ref p) (.lst ((ds.drop i).take (ds.length + 1 - n))) := .lst (upd_same) (rm.mono g.ff)
        have rall : Reps X.K (upd F2 p (.lst ((ws.drop i).take (ws.length + 1 - n)))) (ws.take i ++ [.ref p] ++ (ws.drop i).drop (ws.length + 1 - n)) (ds.take i ++ [.lst ((ds.drop i).take (ds.length + 1 - n))] ++ (ds.drop i).drop (ds.length + 1 - n)) := by
          refine Reps.append (Reps.append ((ra.mono g.ff).take i) (.cons rl .nil)) ?_
          have e0 := ((ra.mono g.ff).drop i).drop (ds.length + 1 - n)
          have e1 : (ws.drop i).drop (ws.length + 1 - n) = (ws.drop i).drop (ds.length + 1 - n) := by rw [hl]
          rw [e1]
          exact e0
        rcases hg.gs ρ2 σ _ _ _ _ s3 rall with q | ⟨_, ρ3, σ3, q, s4, st4, _, k4⟩
        · rw [show Res.bind (Res.ok _ ρ2) _ = bnd (gseq ts (ds.take i ++ [.lst ((ds.drop i).take (ds.length + 1 - n))] ++ (ds.drop i).drop (ds.length + 1 - n))) (fun _ => ret .nx) ρ2 from rfl] at h2
          simp only [bnd, q, Res.bind] at h2
          exact h2.elim
        · rw [show Res.bind (Res.ok _ ρ2) _ = bnd (gseq ts (ds.take i ++ [.lst ((ds.drop i).take (ds.length + 1 - n))] ++ (ds.drop i).drop (ds.length + 1 - n))) (fun _ => ret .nx) ρ2 from rfl] at h2
          simp only [bnd, q, Res.bind, ret] at h2
          exact k4 _ (h2 σ3 _ _ s4 (g.step.trans st4))
    · exact h2.elim
  | .non, ra, h2 => exact h2.elim
  | .bl _, ra, h2 => exact h2.elim
  | .int _, ra, h2 => exact h2.elim
  | .str _, ra, h2 => exact h2.elim
  | .lst _, ra, h2 => exact h2.elim
  | .scr _, ra, h2 => exact h2.elim
end
end VL

set_option maxRecDepth 100000
/-! VL15: enumerate from a number; calls with keywords; module constants and tables. -/
namespace VL
open PySem L2 PyProof.Rows PySem.Spec

/-! ### enumerate(list, start=k) -/
/-- the list at a, each item in a new pair, counted from k -/
def IteN (K : PySem.W.Frag) (a : Addr) (k : Int) : It where
  go := fun i H => ∃ (zs : List V) (z : V), SqL K H a zs ∧ zs[i]? = some z
  yld := fun i H v G => ∃ P z, v = .ref P ∧ H P = none ∧ G = upd H P (.tup [.int (k + (i : Nat)), z]) ∧ ∀ zs, SqL K H a zs → zs[i]? = some z
  stop := fun i H => ∃ zs : List V, SqL K H a zs ∧ zs.length = i
theorem turn_enumN {P : Program} {w : World} {K : PySem.W.Frag} {elts : List Expr} {kk : Nat} {tpos : Pos} {k : Int} (a e it : Addr) :
    Turn P w K (.Tuple elts kk tpos) (IteN K a k) [e, it] e (fun i h => (∃ old, IsEnum h e it (k + (i : Nat)) old) ∧ h.IsListIter it a i ∧ e ≠ it) where
  mem := List.mem_cons_self ..
  obj := fun i h st b hb => by
    obtain ⟨⟨old, q1⟩, ⟨o, q2, _, q3⟩, _⟩ := st
    rcases List.mem_cons.mp hb with z | z
    · subst z
      exact ⟨_, q1, fun v q => nomatch q⟩
    · rw [List.mem_singleton.mp z]
      exact ⟨o, q2, fun v q => by rw [q3] at q; cases q⟩
  keep := fun i h g st same => by
    obtain ⟨⟨old, q1⟩, q2, q3⟩ := st
    exact ⟨⟨old, same e (List.mem_cons_self ..) _ q1⟩, q2.at fun o q => same it (List.mem_cons_of_mem _ (List.mem_cons_self ..)) o q, q3⟩
  item := by
    intro X e1 e2 e3 calm i pins s σ H E I fp st ready
    subst e1 e2 e3
    obtain ⟨⟨old, q1⟩, q2, q3⟩ := st
    obtain ⟨zs, z, qz, ez⟩ := ready
    obtain ⟨us, rv, lay, room⟩ := I.list qz
    obtain ⟨u, hu, ru⟩ := rv.get ez
    have small : i < us.toArray.size := by
      have := (List.getElem?_eq_some_iff.mp hu).1
      simpa using this
    have le : e < s.heap.objs.size := Heap.lt_size q1
    have li : it < s.heap.objs.size := by
      obtain ⟨_, q, _⟩ := id q2
      exact Heap.lt_size q
    have la : a < s.heap.objs.size := by
      obtain ⟨_, q, _⟩ := lay.isList
      exact Heap.lt_size q
    have nia : a ≠ it := fun z => by
      obtain ⟨o1, f1, f2, f3⟩ := id q2
      obtain ⟨o2, g1, g2, g3⟩ := lay.isList
      subst z
      rw [f1] at g1
      cases g1
      rw [f2] at g2
      exact absurd (Value.type.inj g2) (by decide)
    have nea : e ≠ a := fun z => by
      obtain ⟨o2, g1, g2, g3⟩ := lay.isList
      subst z
      have f1 := q1
      unfold IsEnum at f1
      rw [f1] at g1
      cases g1
      exact absurd (Value.type.inj g2) (by decide)
    have calm1 : (X.A.in1).handled = none := I.ok.hd calm
    refine wpAny_pyNext_enum_itemC (Draws.list calm1 it a nia us.toArray) q1 ⟨q2, lay.isList⟩ small q3 (by intro z; rcases List.mem_cons.mp z with z | z; exact q3 z; exact nea (List.mem_singleton.mp z)) fun x h1 tk ex out st2 pair size same => ?_
    refine ⟨_, rfl, wpAny_letOwnedTupleGo_enum (s := { s with heap := h1, toks := tk + 1 }) out fun h2 back sb => ?_⟩
    have eu : x = u := by
      have ex' : us[i]? = some x := by simpa using ex
      rw [hu] at ex'
      exact (Option.some.inj ex').symm
    subst eu
    have pair2 : h2.get? s.heap.objs.size = some { cls := .type "tuple", data := .seq #[.int (k + (i : Nat)) tk, x] } := (sb.2 _ (Nat.ne_of_gt le)).trans pair
    have fresh := I.hok.fresh (Nat.le_refl s.heap.objs.size)
    have made : ObjOk X.prog X.w (upd H s.heap.objs.size (.tup [.int (k + (i : Nat)), z])) h2 s.heap.objs.size (.tup [.int (k + (i : Nat)), z]) := by
      refine ⟨?_, [.int (k + (i : Nat)) tk, x], .cons ⟨tk, rfl⟩ (.cons ru .nil), ⟨_, pair2, rfl, _, rfl⟩⟩
      show 2 ≤ sizeLine
      decide
    have J : Inv X pins σ (upd H s.heap.objs.size (.tup [.int (k + (i : Nat)), z])) { s with heap := h2, toks := tk + 1 } := by
      refine I.turnedNew (ch := [e, it]) (fun b ob nb q => ?_) fp (Nat.le_refl _) made
      have n1 : b ≠ e := fun z => nb (by rw [z]; exact List.mem_cons_self ..)
      have n2 : b ≠ it := fun z => nb (by rw [z]; exact List.mem_cons_of_mem _ (List.mem_cons_self ..))
      exact (sb.2 b n1).trans (same b ob n1 n2 q)
    refine ⟨.ref s.heap.objs.size, _, J, rfl, ⟨s.heap.objs.size, z, rfl, fresh, rfl, fun ys hy => ?_⟩, ⟨⟨x, ?_⟩, ?_, q3⟩, fun b hb => ?_⟩
    · rw [I.list_inj hy qz]
      exact ez
    · have e1 : k + ((i + 1 : Nat) : Int) = k + (i : Nat) + 1 := by omega
      rw [e1]
      exact back
    · exact st2.1.at fun o q => (sb.2 it (Ne.symm q3)).trans q
    · have low : b < s.heap.objs.size := by
        rcases List.mem_cons.mp hb with z | z
        · rw [z]
          exact le
        · rw [List.mem_singleton.mp z]
          exact li
      rw [upd_ne (Nat.ne_of_lt low)]
      exact (fp b hb).1
  done := by
    intro X e1 e2 e3 calm i pins s σ H E I fp st over
    subst e1 e2 e3
    obtain ⟨⟨old, q1⟩, q2, q3⟩ := st
    obtain ⟨zs, qz, lz⟩ := over
    obtain ⟨us, rv, lay, room⟩ := I.list qz
    obtain ⟨f0, f1, f2, f3, f4, f5⟩ := fp it (List.mem_cons_of_mem _ (List.mem_cons_self ..))
    have hl := rv.length
    have nia : a ≠ it := fun z => by
      obtain ⟨o1, p1, p2, p3⟩ := id q2
      obtain ⟨o2, g1, g2, g3⟩ := lay.isList
      subst z
      rw [p1] at g1
      cases g1
      rw [p2] at g2
      exact absurd (Value.type.inj g2) (by decide)
    have calm1 : (X.A.in1).handled = none := I.ok.hd calm
    have size : i = us.toArray.size := by
      have : us.toArray.size = us.length := List.size_toArray ..
      omega
    subst size
    refine wpAny_pyNext_enum_endD (Draws.list calm1 it a nia us.toArray) q1 ⟨q2, lay.isList⟩ fun h1 eb => ⟨rfl, ?_⟩
    exact I.turned (t' := s.toks) (fun b o nb q => eb b o nb q) f0 f1 f3 f4 f5
  self := fun A i s Q E st h => by
    obtain ⟨⟨old, q1⟩, _⟩ := st
    exact wpAny_pyIter_enum q1 h
theorem begun {M : Model} {A : Around} {E : Value → Shared → Prop} {s : Shared} {env : Env} {pos : Pos} {ty : String} {e : Expr} {kws : List Keyword} {Q : Value → Shared → Prop}
    (h : wpAny M A (spliced (backTo pos (starEach [e] env))) (fun vs s1 => wpAny M A (evalAll ((backToKw pos (keywordEach kws env)).map (·.2)))
      (fun ws s2 => wpAny M A (call (.type ty) vs (((backToKw pos (keywordEach kws env)).filterMap (·.1)).zip ws)) Q E s2) E s1) E s)
    (he : backTo pos (starEach [e] env) = [(false, eval e env)]) (hall : (backToKw pos (keywordEach kws env)).all (·.1.isSome) = true) (hkw : (backToKw pos (keywordEach kws env)).any (·.1.isNone) = false) :
    wpAny M A (callWith pos (.type ty) [] (backTo pos (starEach [e] env)) (backToKw pos (keywordEach kws env))) Q E s := by
  rw [he] at h ⊢
  unfold callWith
  have h2 : wpAny M A (evalArgs (.type ty) true [(false, eval e env)] (backToKw pos (keywordEach kws env))) (fun a s2 => wpAny M A (call (.type ty) ([] ++ a.pos) a.kw) Q E s2) E s := evalArgs_kwB hall h
  refine wpAny_bind (wpAny_holding (wpAny_mono h2 (fun a s2 q => ?_) fun _ _ z => z))
  apply wpAny_bind
  apply wpAny_standAt
  have pl : ([(false, eval e env)] : List (Bool × Sem Value)).any (·.1) = false := rfl
  simp only [pl, hkw, Bool.or_false]
  refine wpAny_bind (wpAny_pure ?_)
  refine wpAny_bind (wpAny_mono q (fun r s3 q3 => ?_) fun _ _ z => z)
  exact wpAny_bind (wpAny_holding (wpAny_point (wpAny_pure q3)))
def iEnumN (K : PySem.W.Frag) (ta : TA) (tk : TA) : TI := fun σ H R => ta σ H fun vs H1 => tk σ H1 fun ws H2 => ∃ (a : Addr) (xs : List V) (k : Int), vs = [.ref a] ∧ ws = [.int k] ∧ 0 ≤ k ∧ k < 2 ^ 63 ∧ SqL K H2 a xs ∧ R (IteN K a k) H2
theorem pi_enumN {X : Cx} {e e2 : Expr} {ta tk : TA} {p pos kp tpos : Pos} {elts : List Expr} {kk : Nat} (hg : Gl X "enumerate") (hm : X.mg "enumerate" = none) (ha : PA X [e] ta) (hk : PK X [⟨some "start", e2, kp⟩] tk) (he : backTo pos (starEach [e] X.env) = [(false, eval e X.env)] := by rfl) :
    PI X (.Tuple elts kk tpos) (.Call (.Name "enumerate" p) [e] [⟨some "start", e2, kp⟩] pos) (iEnumN X.K ta tk) := by
  refine ⟨fun pins s σ H R I h => ?_⟩
  refine wpAny_Call_Name_kw (ld_blt I hg hm boot_enumerate ?_)
  refine begun (thn (ha.run pos pins s σ H _ I h) fun us s1 ⟨vs, H1, I1, r1, q1⟩ => thn (hk.run pos pins s1 σ H1 _ I1 q1) fun ws s2 ⟨zs, H2, I2, r2, q2⟩ => ?_) he rfl rfl
  obtain ⟨a, xs, k, ev, ez, k0, k1, hq, q⟩ := q2
  subst ev ez
  rw [Vals.ref1 r1]
  cases r2 with
  | cons r rr =>
    cases rr
    obtain ⟨t, rfl⟩ := r
    obtain ⟨its, rv, lay, hz⟩ := I2.list hq
    show wpAny _ _ (call (.type "enumerate") [.ref a] [(Str.ofString "start", .int k t)]) _ _ _
    refine enum_begins_start (begins_list a its.toArray) lay.isList (by omega) k1 fun h1 q1 q2 size same => wpAny_pyIter_enum q1 ?_
    have J : Inv X pins σ H2 { s2 with heap := h1 } := I2.kept (t' := s2.toks) same
    refine ⟨s2.heap.objs.size + 1, [s2.heap.objs.size + 1, s2.heap.objs.size], _, _, H2, rfl, J, turn_enumN (k := k) a (s2.heap.objs.size + 1) s2.heap.objs.size, ⟨⟨.none, ?_⟩, ⟨_, q2, rfl, rfl⟩, Nat.succ_ne_self _⟩, fun b hb => ?_, q⟩
    · have : k + ((0 : Nat) : Int) = k := by omega
      rw [this]
      exact q1
    · have low : s2.heap.objs.size ≤ b := by
        rcases List.mem_cons.mp hb with z | z
        · rw [z]
          exact Nat.le_succ _
        · rw [List.mem_singleton.mp z]
          exact Nat.le_refl _
      exact I2.fpOk low (I2.hok.fresh low)
theorem yields_enumN {K : PySem.W.Frag} {a : Addr} {vs : List V} {ds : List D} {F0 : Hp} {k : Int} (h : F0 a = some (.lst vs)) (r : Reps K F0 vs ds) : Yields K (IteN K a k) (enumD k ds) F0 := fun F H i s1 s2 => by
  refine ⟨fun d hd => ?_, fun l => ?_⟩
  · obtain ⟨b, hb, rfl⟩ := enumD_get hd
    obtain ⟨z, hz, rz⟩ := r.get hb
    refine ⟨⟨vs, z, .of (s2 _ _ (s1 _ _ h)), hz⟩, fun x H' y => ?_⟩
    obtain ⟨T, z', rfl, hT, rfl, hz'⟩ := y
    have e := hz' vs (.of (s2 _ _ (s1 _ _ h)))
    rw [hz] at e
    cases e
    obtain ⟨g, rp⟩ := new_pair (K := K) s2 hT (.int (k + (i : Nat))) (rz.mono s1)
    exact ⟨_, g, rp⟩
  · exact ⟨vs, .of (s2 _ _ (s1 _ _ h)), by rw [enumD_len] at l; rw [r.length]; exact l⟩
section
variable {X : Cx} {ct : Nat → Addr × Str} {E : L2.St → XK} {e e2 : Expr} {f f2 : M R} {p pos kp : Pos} {kws : List Keyword} {fs : List Ag} {nm : Option Str}
/-! ### keywords -/
theorem pk_weak {t t' : TA} (h : PK X kws t) (w : ∀ σ H Q, t' σ H Q → t σ H Q) : PK X kws t' := ⟨fun pos pins s σ H Q I q => h.run pos pins s σ H Q I (w σ H Q q)⟩
theorem k_kv_nil : PK X [] (TAv X.K ct E []) := pk_weak pk_nil fun σ H Q ⟨ρ, F, s, h⟩ => h F H s (Step.refl ..) [] .nil
theorem k_ka_nil : PK X [] (TAa X.K ct E []) := pk_weak pk_nil fun σ H Q ⟨ρ, F, s, h⟩ => h F H s (Step.refl ..) [] True.intro
theorem k_kv_cons {gs : List (M R)} (he : PE X e (T X.K ct E f)) (hs : PK X kws (TAv X.K ct E gs)) : PK X (⟨nm, e, kp⟩ :: kws) (TAv X.K ct E (f :: gs)) :=
  pk_weak (pk_cons he hs) fun σ H Q ⟨ρ, F, s, h⟩ => by
    obtain ⟨ρ0, F0, s0, h0⟩ := T_v s h
    refine ⟨ρ0, F0, s0, RunG.imp h0 fun r1 ρ1 F1 H1 s1 st1 k v rr => ?_⟩
    obtain ⟨d, ρ2, F2, s2, ra, st2, h2⟩ := k v rr
    refine ⟨ρ2, F2, s2, RunG.imp (RunG.bind h2) fun os ρ3 F3 H3 _ _ ⟨s3, st3, h3⟩ vs rv => ?_⟩
    exact h3 F3 H3 s3 (Step.refl ..) _ (.cons (ra.mono st3.mono) rv)
theorem k_ka_cons (he : PE X e (T X.K ct E f)) (hs : PK X kws (TAa X.K ct E fs)) : PK X (⟨nm, e, kp⟩ :: kws) (TAa X.K ct E (.e f :: fs)) :=
  pk_weak (pk_cons he hs) fun σ H Q ⟨ρ, F, s, h⟩ => by
    have h : RunG X.K ct E (bnd f (fun r => bnd (toV r) fun d => bnd (evA fs) fun as => ret (.inl d :: as)) ρ) ρ σ F H _ := h
    obtain ⟨ρ0, F0, s0, h0⟩ := T_v s h
    refine ⟨ρ0, F0, s0, RunG.imp h0 fun r1 ρ1 F1 H1 s1 st1 k v rr => ?_⟩
    obtain ⟨d, ρ2, F2, s2, ra, st2, h2⟩ := k v rr
    refine ⟨ρ2, F2, s2, RunG.imp (RunG.bind h2) fun os ρ3 F3 H3 _ _ ⟨s3, st3, h3⟩ vs rv => ?_⟩
    exact h3 F3 H3 s3 (Step.refl ..) _ ⟨Rep.mono st3.mono ra, rv⟩
/-! ### enumerate(list, start=k) -/
def enmN : List D → List D → M (List D) := fun ds es => match ds, es with
  | [.lst xs], [.int k] => fun ρ => if 0 ≤ k ∧ k < 2 ^ 63 then .ok (enumD k xs) ρ else .bad
  | _, _ => fun _ => .bad
theorem k_enumN {tpos : Pos} {elts : List Expr} {kk : Nat} (hg : Gl X "enumerate") (hm : X.mg "enumerate" = none) (ha : PA X [e] (TAv X.K ct E [f])) (hk : PK X [⟨some "start", e2, kp⟩] (TAv X.K ct E [f2])) (he : backTo pos (starEach [e] X.env) = [(false, eval e X.env)] := by rfl) :
    PI X (.Tuple elts kk tpos) (.Call (.Name "enumerate" p) [e] [⟨some "start", e2, kp⟩] pos) (TId X.K ct E (bnd (evV [f]) fun ds => bnd (evV [f2]) fun es => enmN ds es)) :=
  pi_weak (pi_enumN hg hm ha hk he) fun σ H R ⟨ρ, F, s, h⟩ => by
    refine ⟨ρ, F, s, RunG.imp (RunG.bind h) fun ds ρ1 F1 H1 z1 z2 ⟨s1, st1, h1⟩ vs rv => ?_⟩
    refine ⟨ρ1, F1, s1, RunG.imp (RunG.bind h1) fun es ρ2 F2 H2 z3 z4 ⟨s2, st2, h2⟩ ws rw_ => ?_⟩
    unfold enmN at h2
    split at h2
    · rename_i xs k
      split at h2
      · rename_i hc
        cases rv with
        | cons r1 rv =>
          cases rv
          cases rw_ with
          | cons r2 rw_ =>
            cases rw_
            cases r1 with
            | lst q1 r1 =>
              cases r2
              have q2 := st2.mono _ _ q1
              exact ⟨_, _, _, rfl, rfl, hc.1, hc.2, .of (s2.sub _ _ q2), h2 F2 H2 s2 (Step.refl ..) _ (yields_enumN q2 (r1.mono st2.mono))⟩
      · exact h2.elim
    · exact h2.elim
end
end VL

set_option maxRecDepth 100000
/-! VL16: calls with keywords; the module's constants and tables. -/
namespace VL
open PySem L2 PyProof.Rows PySem.Spec

/-! ### calls with keywords -/
/-- the positional arguments, then the keywords', are the parameters in order -/
def KwB (K : PySem.W.Frag) (fd : FuncData) (ps : List Str) (n : Nat) (ks : List Str) : Prop := ∀ (s : Shared) (us ws : List Value), K.In s.heap → us.length = n → ws.length = ks.length → BindsTo s fd ⟨us, ks.zip ws⟩ (ps.zip (us ++ ws))
theorem kwb {K : PySem.W.Frag} {x qual : Str} {params : Arguments} {body : List Stmt} {scope : Scope} {kws : List (Str × V)} {f : Addr} {fd : FuncData} {ps : List Str} {n : Nat} {ks : List Str} (F : FunD K x qual params body scope [] kws f fd)
    (h : ∀ (kV doc pm : Value) (an : Option Addr) (cdv ct : Value) (us ws : List Value), us.length = n → ws.length = ks.length → bindArgs (PySem.W.fnOf x qual params body scope .none kV doc pm an cdv ct) ⟨us, ks.zip ws⟩ = pure (ps.zip (us ++ ws))) : KwB K fd ps n ks := fun s us ws _ l1 l2 => by
  obtain ⟨oc, od, dV, kV, doc, pm, an, cdv, ct, osl, rfl, _, _, hD, _⟩ := F.ex
  rcases hD with ⟨_, rfl⟩ | ⟨e, _⟩
  · exact .of_eq (h kV doc pm an cdv ct us ws l1 l2)
  · exact absurd rfl e
theorem evA_app : ∀ (xs ys : List Ag), evA (xs ++ ys) = bnd (evA xs) fun as => bnd (evA ys) fun bs => ret (as ++ bs)
  | [], ys => by
    funext ρ
    show evA ys ρ = bnd (evA ys) (fun bs => ret ([] ++ bs)) ρ
    simp only [bnd, List.nil_append]
    cases evA ys ρ <;> rfl
  | .e f :: xs, ys => by
    funext ρ
    show bnd f (fun r => bnd (toV r) fun d => bnd (evA (xs ++ ys)) fun as => ret (.inl d :: as)) ρ = _
    rw [evA_app xs ys]
    show _ = bnd (bnd f (fun r => bnd (toV r) fun d => bnd (evA xs) fun as => ret (.inl d :: as))) (fun as => bnd (evA ys) fun bs => ret (as ++ bs)) ρ
    simp only [bnd_assoc]
    rfl
  | .io f :: xs, ys => by
    funext ρ
    show bnd f (fun r => match r with
      | .slot i => bnd (evA (xs ++ ys)) fun as => ret (.inr i :: as)
      | _ => fun _ => .bad) ρ = bnd (bnd f (fun r => match r with
      | .slot i => bnd (evA xs) fun as => ret (.inr i :: as)
      | _ => fun _ => .bad)) (fun as => bnd (evA ys) fun bs => ret (as ++ bs)) ρ
    rw [evA_app xs ys, bnd_assoc]
    have e : ∀ (k k' : R → M (List (Sum D Nat))), k = k' → bnd f k ρ = bnd f k' ρ := fun k k' q => by rw [q]
    apply e
    funext r
    cases r with
    | slot i =>
      show bnd (bnd (evA xs) _) _ = bnd (bnd (evA xs) _) _
      simp only [bnd_assoc]
      rfl
    | val d => rfl
    | fresh d => rfl
theorem ArRs.app {K : PySem.W.Frag} {σ : L2.St} {F : Hp} : ∀ {vs : List V} {as : List (Sum D Nat)} {ws : List V} {bs : List (Sum D Nat)}, ArRs K σ F vs as → ArRs K σ F ws bs → ArRs K σ F (vs ++ ws) (as ++ bs)
  | [], [], _, _, _, h => h
  | _ :: _, _ :: _, _, _, h, h' => ⟨h.1, ArRs.app h.2 h'⟩
theorem ArRs.mono {K : PySem.W.Frag} {σ : L2.St} {F F' : Hp} (e : Sub F F') : ∀ {vs : List V} {as : List (Sum D Nat)}, ArRs K σ F vs as → ArRs K σ F' vs as
  | [], [], _ => True.intro
  | _ :: _, _ :: _, h => ⟨ArR.mono e h.1, ArRs.mono e h.2⟩
theorem TAa_app {K : PySem.W.Frag} {ct : Nat → Addr × Str} {E : L2.St → XK} {xs ys : List Ag} {σ : L2.St} {H : Hp} {Q : List V → Hp → Prop} (h : TAa K ct E (xs ++ ys) σ H Q) : TAa K ct E xs σ H fun vs H1 => TAa K ct E ys σ H1 fun ws H2 => Q (vs ++ ws) H2 := by
  obtain ⟨ρ, F, s, h⟩ := h
  rw [evA_app] at h
  refine ⟨ρ, F, s, RunG.imp (RunG.bind h) fun as ρ1 F1 H1 _ _ ⟨s1, st1, h1⟩ vs rv => ?_⟩
  refine ⟨ρ1, F1, s1, RunG.imp (RunG.bind h1) fun bs ρ2 F2 H2 _ _ ⟨s2, st2, h2⟩ ws rw_ => ?_⟩
  exact h2 F2 H2 s2 (Step.refl ..) _ (ArRs.app (ArRs.mono st2.mono rv) rw_)
section
variable {X : Cx} {ct : Nat → Addr × Str} {E : L2.St → XK} {pos p : Pos} {e a : Expr} {es : List Expr} {kws : List Keyword} {ags kags : List Ag} {m : M R} {n i : Nat} {fa f : M R}
theorem k_callK {k : Nat} {fn : Addr} {fd : FuncData} {ps ks : List Str} {x : Str} (G : FnG X.prog X.w X.K X.mg X.base k fn fd ps (spM X.K ct n m)) (hr : Room k X.A) (hgd : X.A.guards = some []) (hg : Gl X x) (hm : X.mg x = some (.ref fn)) (hk : PySem.W.keepIn X.K (.ref fn) = true) (hb : KwB X.K fd ps i ks) (hx : ∀ σ, PassesAt (L2.CX X.prog X.w) X σ (E σ))
    (ha : PA X (e :: es) (TAa X.K ct E ags)) (hkw : PK X kws (TAa X.K ct E kags)) (hn : (ags ++ kags).length = n := by rfl) (hn1 : ags.length = i := by rfl) (hn2 : kags.length = ks.length := by rfl)
    (hall : (backToKw pos (keywordEach kws X.env)).all (·.1.isSome) = true := by rfl) (hks : (backToKw pos (keywordEach kws X.env)).filterMap (·.1) = ks := by rfl)
    (hdb : (x == ("__debug__" : Str)) = false := by decide) (he : starEach (e :: es) X.env = (false, eval e X.env) :: starEach es X.env := by rfl)
    (hpl : ((backTo pos (starEach (e :: es) X.env)).any (·.1) || (backToKw pos (keywordEach kws X.env)).any (·.1.isNone)) = false := by rfl) :
    PE X (.Call (.Name x p) (e :: es) kws pos) (T X.K ct E (callM m (ags ++ kags))) := by
  constructor
  intro pins s σ H Q I h
  have h2 := callM_run σ H Q (fun ρ as ρ' q => (evA_len (ags ++ kags) ρ as ρ' q).trans hn) h
  have h3 : TAa X.K ct E (ags ++ kags) σ H fun vs H1 => spM X.K ct n m vs H1 Q (E σ) := h2
  have h4 : TAa X.K ct E ags σ H fun vs H1 => vs.length = i ∧ TAa X.K ct E kags σ H1 fun ws H2 => ws.length = ks.length ∧ spM X.K ct n m (vs ++ ws) H2 Q (E σ) := by
    obtain ⟨ρ, F, s, h⟩ := TAa_app h3
    have l : ∀ (xs : List Ag) (ρ : En) (P : List (Sum D Nat) → En → Hp → Hp → Prop) (F H : Hp), RunG X.K ct E (evA xs ρ) ρ σ F H P → RunG X.K ct E (evA xs ρ) ρ σ F H fun as ρ' F' H' => as.length = xs.length ∧ P as ρ' F' H' := fun xs ρ P F H w => by
      cases q : evA xs ρ with
      | ok as ρ1 =>
        rw [q] at w
        exact fun F' H' s' t => ⟨evA_len xs ρ as ρ1 q, w F' H' s' t⟩
      | exn c d ρ1 =>
        rw [q] at w
        exact w
      | bad =>
        rw [q] at w
        exact w
    refine ⟨ρ, F, s, RunG.imp (l _ _ _ _ _ h) fun as ρ1 F1 H1 _ _ ⟨l1, k1⟩ vs rv => ⟨rv.len.trans (l1.trans hn1), ?_⟩⟩
    obtain ⟨ρ2, F2, s2, w2⟩ := k1 vs rv
    refine ⟨ρ2, F2, s2, RunG.imp (l _ _ _ _ _ w2) fun bs ρ3 F3 H3 _ _ ⟨l2, k2⟩ ws rw_ => ⟨rw_.len.trans (l2.trans hn2), k2 ws rw_⟩⟩
  refine wpAny_Call_Name_kw (ld_glob I hg hm ?_ hdb)
  refine PySem.W.callWith_KW (h₀ := X.base) I.ok.mod.kin hk hall (thn (ha.run pos pins s σ H _ I h4) fun us s1 ⟨vs, H1, I1, r, q⟩ => ?_) hpl he
  refine thn (hkw.run pos pins s1 σ H1 _ I1 q.2) fun ws s2 ⟨zs, H2, I2, rz, q2⟩ => ⟨I2.kIn, ?_⟩
  rw [hks]
  have lu : us.length = i := r.length.symm.trans q.1
  have lw : ws.length = ks.length := rz.length.symm.trans q2.1
  apply wpAny_call
  apply codeAny_mono (G.run X.A X.stack s2 H2 ⟨us, ks.zip ws⟩ (us ++ ws) (vs ++ zs) Q (E σ) hr hgd I2.env0 (hb s2 us ws I2.kIn lu lw) (vals_append r rz) q2.2)
  intro res s3 ended
  rcases res with e3 | fl
  · exact hx σ pins H2 s2 e3 s3 I2 ended
  · cases fl <;> first | exact I2.after ended | exact ended.elim
end
/-! ### constants of the module -/
/-- what stands in the written tuple u -/
def tupAt (K : PySem.W.Frag) (u : Value) : Option (List Value) := match u with
  | .ref a => (match K.lookup a with
    | some ⟨.type c, _, .seq its _, _⟩ => (match decide (c = "tuple") && decide (its.size ≤ lineN) with
      | true => some its.toList
      | false => none)
    | _ => none)
  | _ => none
theorem tupAt_ok {K : PySem.W.Frag} {u : Value} {us : List Value} (h : tupAt K u = some us) : ∃ (a : Addr) (o : Obj) (its : Array Value) (n : Nat), u = .ref a ∧ K.lookup a = some o ∧ o.cls = .type "tuple" ∧ o.data = .seq its n ∧ its.size ≤ sizeLine ∧ its.toList = us := by
  unfold tupAt at h
  split at h
  · rename_i a
    split at h
    · rename_i c od its n sl q
      split at h
      · rename_i z
        cases h
        rw [Bool.and_eq_true] at z
        exact ⟨a, _, its, n, rfl, q, congrArg Value.type (of_decide_eq_true z.1), rfl, ofLine (of_decide_eq_true z.2), rfl⟩
      · cases h
    · cases h
  · cases h
mutual
def repB (K : PySem.W.Frag) : D → Value → Bool
  | .non, u => He.relB .non u
  | .bl b, u => He.relB (.bl b) u
  | .int i, u => He.relB (.int i) u
  | .str x, u => He.relB (.str x) u && decide (x.length ≤ lineN)
  | .tup ds, u => (match tupAt K u with
    | some us => repsB K ds us
    | none => false)
  | .lst _, _ => false
  | .scr _, _ => false
def repsB (K : PySem.W.Frag) : List D → List Value → Bool
  | [], [] => true
  | d :: ds, u :: us => repB K d u && repsB K ds us
  | [], _ :: _ => false
  | _ :: _, [] => false
end
mutual
theorem repB_ok {K : PySem.W.Frag} : ∀ (d : D) {u : Value}, repB K d u = true → ∃ v, RelV v u ∧ ∀ F, Rep K F v d
  | .non, u, h => ⟨.non, He.relB_ok h, fun F => .non⟩
  | .bl b, u, h => ⟨.bl b, He.relB_ok h, fun F => .bl b⟩
  | .int i, u, h => ⟨.int i, He.relB_ok h, fun F => .int i⟩
  | .str x, u, h => by
    rw [repB, Bool.and_eq_true] at h
    exact ⟨.str x, He.relB_ok h.1, fun F => .str x (ofLine (of_decide_eq_true h.2))⟩
  | .tup ds, u, h => by
    rw [repB] at h
    split at h
    · rename_i us q
      obtain ⟨a, o, its, n, rfl, e1, e2, e3, e4, rfl⟩ := tupAt_ok q
      obtain ⟨vs, rv, rs⟩ := repsB_ok ds h
      exact ⟨.ref a, rfl, fun F => .tup (.inr ⟨o, its, n, e1, e2, e3, e4, rv⟩) (rs F)⟩
    · cases h
  | .lst ds, u, h => by
    rw [repB] at h
    cases h
  | .scr ds, u, h => by
    rw [repB] at h
    cases h
theorem repsB_ok {K : PySem.W.Frag} : ∀ (ds : List D) {us : List Value}, repsB K ds us = true → ∃ vs, Vals vs us ∧ ∀ F, Reps K F vs ds
  | [], [], h => ⟨[], .nil, fun F => .nil⟩
  | [], _ :: _, h => by
    rw [repsB] at h
    cases h
  | d :: ds, u :: us, h => by
    rw [repsB, Bool.and_eq_true] at h
    obtain ⟨v, r1, r2⟩ := repB_ok d h.1
    obtain ⟨vs, r3, r4⟩ := repsB_ok ds h.2
    exact ⟨v :: vs, .cons r1 r3, fun F => .cons (r2 F) (r4 F)⟩
  | d :: ds, [], h => by
    rw [repsB] at h
    cases h
end
/-- the module's name x stands for d -/
def Con (K : PySem.W.Frag) (mg : Str → Option Value) (x : Str) (d : D) : Prop := ∃ u v, mg x = some u ∧ RelV v u ∧ ∀ F, Rep K F v d
def conB (K : PySem.W.Frag) (x : Str) (d : D) : Bool := match PySem.W.nsIn K mainGlobals x with
  | some (some u) => repB K d u
  | _ => false
theorem conB_ok {K : PySem.W.Frag} {h : Heap} {mg : Str → Option Value} {x : Str} {d : D} (X : K.In h) (G : h.Ns mainGlobals mg) (c : conB K x d = true) : Con K mg x d := by
  unfold conB at c
  split at c
  · rename_i u q
    obtain ⟨v, r1, r2⟩ := repB_ok d c
    exact ⟨u, v, PySem.W.mg_of X G q, r1, r2⟩
  · cases c
/-! ### tables of the module: keys are texts -/
/-- at a: a dict of the module whose keys are those of kvs; V z u: what its value at z is -/
structure TabS (K : PySem.W.Frag) (w : World) (mg : Str → Option Value) (x : Str) (a : Addr) (ks : List Str) : Prop where
  glo : mg x = some (.ref a)
  kd : ∃ es n, KDict K w a es n
  out : ∀ z, ks.contains z = false → PySem.W.nsIn K a z = some none
def tabVB (K : PySem.W.Frag) (a : Addr) (kvs : List (Str × D)) : Bool := kvs.all fun q => match PySem.W.nsIn K a q.1 with
  | some (some u) => repB K q.2 u
  | _ => false
def tabFB (K : PySem.W.Frag) (a : Addr) (kvs : List (Str × Str)) : Bool := kvs.all fun q => He.eqO (PySem.W.nsIn K a q.1) (some (some (.ref (He.ga K q.2))))
theorem tabVB_ok {K : PySem.W.Frag} {a : Addr} {kvs : List (Str × D)} (h : tabVB K a kvs = true) {q : Str × D} (m : q ∈ kvs) : ∃ u v, PySem.W.nsIn K a q.1 = some (some u) ∧ RelV v u ∧ ∀ F, Rep K F v q.2 := by
  have h2 := List.all_eq_true.mp h q m
  split at h2
  · rename_i u e
    obtain ⟨v, r1, r2⟩ := repB_ok q.2 h2
    exact ⟨u, v, e, r1, r2⟩
  · cases h2
theorem tabFB_ok {K : PySem.W.Frag} {a : Addr} {kvs : List (Str × Str)} (h : tabFB K a kvs = true) {q : Str × Str} (m : q ∈ kvs) : PySem.W.nsIn K a q.1 = some (some (.ref (He.ga K q.2))) := He.eqO_ok (List.all_eq_true.mp h q m)
theorem dicW_out {K : PySem.W.Frag} {P : Params} {a : Addr} {ks : List Str} (h : He.dicW K a = some (He.keysIn P ks)) (z : Str) (hz : ks.contains z = false) : PySem.W.nsIn K a z = some none := by
  unfold He.dicW at h
  split at h
  · rename_i c es n sl q
    split at h
    · have h1 := Option.some.inj h
      have key : ∀ e ∈ es.toList, e.key.isStr z = false ∧ e.refKey = false := fun e he => by
        have m : He.keyOf e ∈ es.toList.map He.keyOf := List.mem_map_of_mem he
        rw [h1] at m
        obtain ⟨k, hk, ek⟩ := List.mem_map.mp m
        unfold He.keyOf at ek
        split at ek
        · rename_i x t ex
          have e2 := Option.some.inj ek
          have e3 : k = x := (Prod.mk.inj e2).1
          subst e3
          have nk : k ≠ z := fun y => by
            subst y
            have := List.contains_iff_mem.mpr hk
            rw [this] at hz
            cases hz
          refine ⟨?_, ?_⟩
          · rw [ex]
            show (k == z) = false
            simpa using nk
          · unfold DictEntry.refKey
            rw [ex]
        · cases ek
      unfold PySem.W.nsIn
      rw [q]
      have e1 : es.toList.find? (fun e => e.key.isStr z) = none := List.find?_eq_none.mpr fun e he => by
        rw [(key e he).1]
        exact Bool.false_ne_true
      have e2 : es.toList.any (·.refKey) = false := by
        rw [List.any_eq_false]
        intro e he
        rw [(key e he).2]
        exact Bool.false_ne_true
      simp only [e1, e2]
      rfl
    · cases h
  · cases h
section
variable {X : Cx} {ct : Nat → Addr × Str} {E : L2.St → XK} {pos p : Pos} {e b : Expr} {f : M R}
theorem k_glob {x : Str} {d : D} (hg : Gl X x) (c : Con X.K X.mg x d) (hd : (x == ("__debug__" : Str)) = false := by decide) : PE X (.Name x pos) (T X.K ct E (cst d)) := by
  obtain ⟨u, v, h1, h2, h3⟩ := c
  exact k_c (pe_glob hg h1 h2 hd) (h3 _)
def tabIn (neg : Bool) (ks : List Str) : D → Option R
  | .str z => some (.val (.bl (neg != ks.contains z)))
  | _ => none
theorem tab_some {K : PySem.W.Frag} {w : World} {mg : Str → Option Value} {x : Str} {a : Addr} {ks : List Str} (t : TabS K w mg x a ks) (vals : ∀ k ∈ ks, ∃ u, PySem.W.nsIn K a k = some (some u)) (z : Str) : ∃ r, PySem.W.nsIn K a z = some r ∧ r.isSome = ks.contains z := by
  cases q : ks.contains z with
  | false => exact ⟨none, t.out z q, rfl⟩
  | true =>
    obtain ⟨u, e⟩ := vals z (List.contains_iff_mem.mp q)
    exact ⟨some u, e, rfl⟩
theorem op1_tOp {r : R2} {w : V} {g : D → Option R} (o : Op1 X.K (fun v H Q => r v w H Q) g) (σ : L2.St) (H : Hp) (Q : VK) (h : T X.K ct E (op1 g f) σ H Q) : tOp r (T X.K ct E f) (tC w) σ H Q := op1_run o σ H Q h
theorem tab_in1 {a : Addr} {x : Str} {ks : List Str} (t : TabS X.K X.w X.mg x a ks) (vals : ∀ k ∈ ks, ∃ u, PySem.W.nsIn X.K a k = some (some u)) (neg : Bool) : Op1 X.K (fun v H Q => ∃ (z : Str) (r : Option Value), v = .str z ∧ V.ref a = .ref a ∧ PySem.W.nsIn X.K a z = some r ∧ Q (.bl (neg != r.isSome)) H) (tabIn neg ks) := fun F H v d res Q s sh e k => by
  unfold tabIn at e
  split at e
  · rename_i z
    cases e
    obtain ⟨rfl, _⟩ := sh_str sh
    obtain ⟨r, e1, e2⟩ := tab_some t vals z
    exact ⟨z, r, rfl, rfl, e1, by rw [e2]; exact k _ F H (Grow.refl s) (.bl _)⟩
  · cases e
theorem k_tabIn {x : Str} {a : Addr} {ks : List Str} (t : TabS X.K X.w X.mg x a ks) (vals : ∀ k ∈ ks, ∃ u, PySem.W.nsIn X.K a k = some (some u)) (he : PE X e (T X.K ct E f)) (hg : Gl X x) (hd : (x == ("__debug__" : Str)) = false := by decide) :
    PE X (.Compare e [.In] [.Name x p] pos) (T X.K ct E (op1 (tabIn false ks) f)) := by
  obtain ⟨es, n, D⟩ := t.kd
  refine pe_weak (pe_cmpR (op_in_kd D) he (pe_glob hg t.glo (v := .ref a) rfl hd) rfl) fun σ H Q h => ?_
  refine op1_tOp (r := fun x y H Q => ∃ (z : Str) (r : Option Value), x = .str z ∧ y = .ref a ∧ PySem.W.nsIn X.K a z = some r ∧ Q (.bl r.isSome) H) (fun F H v d res Q s sh e k => ?_) σ H Q h
  obtain ⟨z, r, e1, e2, e3, e4⟩ := tab_in1 t vals false F H v d res Q s sh e k
  exact ⟨z, r, e1, e2, e3, by simpa using e4⟩
theorem k_tabNotIn {x : Str} {a : Addr} {ks : List Str} (t : TabS X.K X.w X.mg x a ks) (vals : ∀ k ∈ ks, ∃ u, PySem.W.nsIn X.K a k = some (some u)) (he : PE X e (T X.K ct E f)) (hg : Gl X x) (hd : (x == ("__debug__" : Str)) = false := by decide) :
    PE X (.Compare e [.NotIn] [.Name x p] pos) (T X.K ct E (op1 (tabIn true ks) f)) := by
  obtain ⟨es, n, D⟩ := t.kd
  refine pe_weak (pe_cmpR (op_notIn_kd D) he (pe_glob hg t.glo (v := .ref a) rfl hd) rfl) fun σ H Q h => ?_
  refine op1_tOp (r := fun x y H Q => ∃ (z : Str) (r : Option Value), x = .str z ∧ y = .ref a ∧ PySem.W.nsIn X.K a z = some r ∧ Q (.bl (!r.isSome)) H) (fun F H v d res Q s sh e k => ?_) σ H Q h
  obtain ⟨z, r, e1, e2, e3, e4⟩ := tab_in1 t vals true F H v d res Q s sh e k
  exact ⟨z, r, e1, e2, e3, by simpa using e4⟩
theorem tvl_tOp {r : R2} {w : V} {g : D → Option R} (o : Op1 X.K (fun v H Q => r v w H Q) g) (σ : L2.St) (H : Hp) (Q : Bool → Hp → Prop) (h : Tt X.K ct E (tvl (op1 g f)) σ H Q) : tTest (tOp r (T X.K ct E f) (tC w)) σ H Q := by
  have h2 := tvl_run (X := X) σ H Q h
  exact op1_tOp o σ H _ h2
theorem k_ttabIn {x : Str} {a : Addr} {ks : List Str} (t : TabS X.K X.w X.mg x a ks) (vals : ∀ k ∈ ks, ∃ u, PySem.W.nsIn X.K a k = some (some u)) (he : PE X e (T X.K ct E f)) (hg : Gl X x) (hd : (x == ("__debug__" : Str)) = false := by decide) :
    PT X (.Compare e [.In] [.Name x p] pos) (Tt X.K ct E (tvl (op1 (tabIn false ks) f))) := by
  obtain ⟨es, n, D⟩ := t.kd
  refine pt_weak (pt_cmpR (op_in_kd D) he (pe_glob hg t.glo (v := .ref a) rfl hd) rfl) fun σ H Q h => ?_
  refine tvl_tOp (r := fun x y H Q => ∃ (z : Str) (r : Option Value), x = .str z ∧ y = .ref a ∧ PySem.W.nsIn X.K a z = some r ∧ Q (.bl r.isSome) H) (fun F H v d res Q s sh e k => ?_) σ H Q h
  obtain ⟨z, r, e1, e2, e3, e4⟩ := tab_in1 t vals false F H v d res Q s sh e k
  exact ⟨z, r, e1, e2, e3, by simpa using e4⟩
theorem k_ttabNotIn {x : Str} {a : Addr} {ks : List Str} (t : TabS X.K X.w X.mg x a ks) (vals : ∀ k ∈ ks, ∃ u, PySem.W.nsIn X.K a k = some (some u)) (he : PE X e (T X.K ct E f)) (hg : Gl X x) (hd : (x == ("__debug__" : Str)) = false := by decide) :
    PT X (.Compare e [.NotIn] [.Name x p] pos) (Tt X.K ct E (tvl (op1 (tabIn true ks) f))) := by
  obtain ⟨es, n, D⟩ := t.kd
  refine pt_weak (pt_cmpR (op_notIn_kd D) he (pe_glob hg t.glo (v := .ref a) rfl hd) rfl) fun σ H Q h => ?_
  refine tvl_tOp (r := fun x y H Q => ∃ (z : Str) (r : Option Value), x = .str z ∧ y = .ref a ∧ PySem.W.nsIn X.K a z = some r ∧ Q (.bl (!r.isSome)) H) (fun F H v d res Q s sh e k => ?_) σ H Q h
  obtain ⟨z, r, e1, e2, e3, e4⟩ := tab_in1 t vals true F H v d res Q s sh e k
  exact ⟨z, r, e1, e2, e3, by simpa using e4⟩
/-- x[e], x a table of values -/
def tabIx (kvs : List (Str × D)) : D → Option R
  | .str z => (kvs.lookup z).map R.val
  | _ => none
theorem lookup_in {α : Type} : ∀ {kvs : List (Str × α)} {z : Str} {d : α}, kvs.lookup z = some d → (z, d) ∈ kvs
  | (k, v) :: r, z, d, h => by
    rw [List.lookup_cons] at h
    split at h
    · rename_i q
      cases h
      rw [beq_iff_eq.mp q]
      exact List.mem_cons_self ..
    · exact List.mem_cons_of_mem _ (lookup_in h)
theorem k_tabIx {x : Str} {a : Addr} {ks : List Str} {kvs : List (Str × D)} (t : TabS X.K X.w X.mg x a ks) (vals : tabVB X.K a kvs = true) (he : PE X e (T X.K ct E f)) (hg : Gl X x) (hs : PlainIx e := by intro _ _; rfl) (hd : (x == ("__debug__" : Str)) = false := by decide) :
    PE X (.Subscript (.Name x p) e pos) (T X.K ct E (op1 (tabIx kvs) f)) := by
  obtain ⟨es, n, D⟩ := t.kd
  refine pe_weak (pe_ix ix_kdict (pe_glob hg t.glo (v := .ref a) rfl hd) he hs) fun σ H Q h => ?_
  refine op1_run (X := X) (r := fun v H Q => rIxD X.K X.w (.ref a) v H Q) (fun F H v d res Q s sh e k => ?_) σ H Q h
  unfold tabIx at e
  split at e
  · rename_i z
    cases q : kvs.lookup z with
    | none =>
      rw [q] at e
      cases e
    | some d' =>
      rw [q] at e
      cases e
      obtain ⟨rfl, _⟩ := sh_str sh
      obtain ⟨u, v, e1, e2, e3⟩ := tabVB_ok vals (lookup_in q)
      exact ⟨a, z, v, rfl, rfl, ⟨es, n, u, D.at_, D.lit, e1, e2⟩, k v F H (Grow.refl s) (e3 F)⟩
  · cases e
/-- x[k](..), x a table of defs -/
def tabPick (fs : List (Str × M R)) (ags : List Ag) (o : Od) : M R := fun ρ => match rdO o ρ with
  | some (.str z) => (match fs.lookup z with
    | some m => callM m ags ρ
    | none => .bad)
  | _ => .bad
def tabCall (fs : List (Str × M R)) (fk : M R) (ags : List Ag) : M R := bnd fk fun r => bnd (toO r) fun o => tabPick fs ags o
structure FnK (X : Cx) (ct : Nat → Addr × Str) (k n : Nat) (g : Addr) (m : M R) : Prop where
  ex : ∃ fd ps, FnG X.prog X.w X.K X.mg X.base k g fd ps (spM X.K ct n m) ∧ Binds X.K fd ps []
  kp : PySem.W.keepIn X.K (.ref g) = true
theorem k_tabCall {x : Str} {a : Addr} {ks : List Str} {fs : List (Str × M R)} {ags : List Ag} {k n : Nat} {p2 : Pos} {es : List Expr} {b : Expr} (t : TabS X.K X.w X.mg x a ks)
    (vals : ∀ q ∈ fs, ∃ g, PySem.W.nsIn X.K a q.1 = some (some (.ref g)) ∧ FnK X ct k n g q.2) (hr : Room k X.A) (hgd : X.A.guards = some []) (hx : ∀ σ, PassesAt (L2.CX X.prog X.w) X σ (E σ)) (he : PE X e (T X.K ct E f)) (hg : Gl X x)
    (ha : PA X (b :: es) (TAa X.K ct E ags)) (hn : ags.length = n := by rfl) (hs : PlainIx e := by intro _ _; rfl) (hd : (x == ("__debug__" : Str)) = false := by decide) (hst : starEach (b :: es) X.env = (false, eval b X.env) :: starEach es X.env := by rfl) (hpl : (backTo pos (starEach es X.env)).any (·.1) = false := by rfl) :
    PE X (.Call (.Subscript (.Name x p) e p2) (b :: es) [] pos) (T X.K ct E (tabCall fs f ags)) := by
  obtain ⟨de, dn, D⟩ := t.kd
  constructor
  intro pins s σ H Q I ⟨ρ, F, sr, h⟩
  obtain ⟨ρ0, F0, s0, h0⟩ := T_o sr h
  have arm : eval (.Call (.Subscript (.Name x p) e p2) (b :: es) [] pos) X.env = (do
    callWith pos (← eval (.Subscript (.Name x p) e p2) X.env) [] (backTo pos (starEach (b :: es) X.env)) (backToKw pos (keywordEach [] X.env))) := rfl
  rw [arm]
  have sub : PE X (.Subscript (.Name x p) e p2) (tOp (rIxD X.K X.w) (tC (.ref a)) (T X.K ct E f)) := pe_ix ix_kdict (pe_glob hg t.glo (v := .ref a) rfl hd) he hs
  have want : tOp (rIxD X.K X.w) (tC (.ref a)) (T X.K ct E f) σ H fun v H1 => ∃ g m, v = .ref g ∧ FnK X ct k n g m ∧ T X.K ct E (callM m ags) σ H1 Q := by
    refine ⟨ρ0, F0, s0, RunG.imp h0 fun r1 ρ1 F1 H1 s1 st1 kk v rr => ?_⟩
    obtain ⟨o, ρ2, F2, s2, ro, st2, h2⟩ := kk v rr
    unfold tabPick at h2
    split at h2
    · rename_i z e1
      split at h2
      · rename_i m e2
        have sh := rd_sh s2 ro e1
        obtain ⟨rfl, _⟩ := sh_str sh
        obtain ⟨g, e3, K1⟩ := vals _ (lookup_in e2)
        exact ⟨a, z, .ref g, rfl, rfl, ⟨de, dn, .ref g, D.at_, D.lit, e3, rfl⟩, g, m, rfl, K1, RunG_T s2 (fun a z => st1.dom a z) h2⟩
      · exact h2.elim
    · exact h2.elim
  refine wpAny_bind (thn (sub.run pins s σ H _ I want) fun u s1 ⟨v, H1, I1, r1, g, m, ev, K1, q⟩ => ?_)
  subst ev
  obtain rfl : u = Value.ref g := r1
  obtain ⟨fd, ps, G, B⟩ := K1.ex
  have h2 := callM_run σ H1 Q (fun ρ as ρ' q => (evA_len ags ρ as ρ' q).trans hn) q
  refine PySem.W.callWith_K (h₀ := X.base) I.ok.mod.kin K1.kp (thn (ha.run pos pins s1 σ H1 _ I1 h2) fun us s2 ⟨vs, H2, I2, r, q2⟩ => ?_) hst hpl
  exact ⟨I2.kIn, g_run G hr hgd B (hx σ) I2 r q2⟩
end
end VL

set_option maxRecDepth 100000
/-! VL17: a law's end. -/
namespace VL
open PySem L2 PyProof.Rows PySem.Spec

/-- what is tracked of the script at the start -/
def script0 (K : PySem.W.Frag) (a : Addr) (ob : Obj) (ns : List Int) : Hp := fun b => match K.lookup a with
  | some _ => none
  | none => (match decide (b = a) with
    | true => some (.frz ob (.lst (ns.map V.int)))
    | false => none)
theorem script0_at {K : PySem.W.Frag} {a b : Addr} {ob : Obj} {ns : List Int} {u : HO} (h : script0 K a ob ns b = some u) : K.lookup a = none ∧ b = a ∧ u = .frz ob (.lst (ns.map V.int)) := by
  unfold script0 at h
  cases q : K.lookup a with
  | some o =>
    rw [q] at h
    cases h
  | none =>
    rw [q] at h
    by_cases z : b = a
    · rw [decide_eq_true z] at h
      cases h
      exact ⟨rfl, z, rfl⟩
    · rw [decide_eq_false z] at h
      cases h
theorem script0_self {K : PySem.W.Frag} {a : Addr} {ob : Obj} {ns : List Int} (h : K.lookup a = none) : script0 K a ob ns a = some (.frz ob (.lst (ns.map V.int))) := by
  unfold script0
  rw [h, decide_eq_true (show a = a from rfl)]
theorem law_G {P : Program} {w : World} {K : PySem.W.Frag} {mg mb : Str → Option Value} {k : Nat} {fa a : Addr} {fd : FuncData} {x : Str} {sp : Sp} {s1 : Shared} {vs : List Value} {ns : List Int}
    (inK : K.In s1.heap) (glo : s1.heap.Ns mainGlobals mg) (blt : s1.heap.Ns builtinsNs mb) (boot : ∀ x : Str, x ≠ "__name__" → mb x = bootBuiltins x) (lim : s1.heap.NoLimit) (idle : s1.gens = #[])
    (obj : s1.heap.get? a = some { cls := .type "list", data := .seq vs.toArray }) (hi : IntsAre vs ns) (small : ns.length ≤ sizeLine) (room : Room k callerA)
    (G : ∀ base : Heap, K.In base → base.Ns mainGlobals mg → FnG P w K mg base k fa fd [x] sp) (bound : ∀ (s : Shared) (u : Value), BindsTo s fd ⟨[u], []⟩ [(x, u)])
    (wish : ∀ H : Hp, SqL K H a (ns.map V.int) → sp [.ref a] H (fun v _ => v = .bl true) fun _ _ _ => False) :
    codeAny (model P w) callerA (.call (.ref fa) ⟨[.ref a], []⟩) (fun r s' => r = .ok (.ret (.bool true)) ∧ OldK s1.heap s'.heap ∧ s'.os = s1.os ∧ AllBare s'.gens) s1 := by
  have vals := vals_ints hi
  have many : vs.length = ns.length := hi.length
  -- the tracked start
  generalize eH : script0 K a { cls := .type "list", data := .seq vs.toArray } ns = H
  have told : ∀ {b : Addr} {u : HO}, H b = some u → K.lookup a = none ∧ b = a ∧ u = .frz { cls := .type "list", data := .seq vs.toArray } (.lst (ns.map V.int)) := fun {b u} q => by
    rw [← eH] at q
    exact script0_at q
  have seen : SqL K H a (ns.map V.int) := by
    cases q : K.lookup a with
    | none =>
      rw [← eH]
      exact .inl (.inr ⟨_, script0_self q⟩)
    | some o =>
      have e := inK a o q
      rw [obj] at e
      cases e
      exact .inr ⟨_, vs.toArray, _, q, rfl, rfl, rfl, by rw [List.size_toArray, many]; exact small, by simpa using vals⟩
  have sound : HOk P w H s1.heap := fun b u q => by
    obtain ⟨_, rfl, rfl⟩ := told q
    exact ⟨obj, by rw [List.length_map]; exact small, vs, _, vals, obj⟩
  have free : ∀ {b : Addr} {o : Obj}, s1.heap.get? b = some o → (b = a → K.lookup a = none → False) → H b = none := fun {b o} e n => by
    cases q : H b with
    | none => rfl
    | some u =>
      obtain ⟨h1, h2, _⟩ := told q
      exact (n h2 h1).elim
  have inBase : K.In (hidT s1.heap H) := fun b o e => hidT_get (inK b o e) (free (inK b o e) fun h1 h2 => by
    rw [h1, h2] at e
    cases e)
  have nsBase : ∀ {b : Addr} {m : Str → Option Value}, s1.heap.Ns b m → (hidT s1.heap H).Ns b m := fun {b m} h => by
    obtain ⟨o, es, ep, e, d, r⟩ := h
    refine ⟨o, es, ep, hidT_get e (free e fun h1 _ => ?_), d, r⟩
    rw [h1, obj] at e
    cases e
    cases d
  have modu : Mod K mg (hidT s1.heap H) := by
    obtain ⟨mc, l1, l2⟩ := lim
    exact ⟨inBase, nsBase glo, ⟨mb, nsBase blt, boot⟩, ⟨mc, nsBase l1, l2⟩⟩
  have env : Env0 P w K mg (hidT s1.heap H) callerA [] s1 H := by
    refine ⟨rfl, modu, fun b o e => of_hidT e, Nat.le_of_eq (hidT_size _ _), trivial, fun b hb => ?_, sound, .of_eq idle⟩
    exact absurd (show b ∈ ([] : List Addr) from hb) (by simp)
  have run := (G _ inBase (nsBase glo)).run callerA [] s1 H ⟨[.ref a], []⟩ [.ref a] [.ref a] _ _ room rfl env (bound s1 (.ref a)) (.cons rfl .nil) (wish H seen)
  refine codeAny_mono run fun r s2 ended => ?_
  rcases r with e | fl
  · obtain ⟨_, _, _, _, _, _, _, _, _, _, _, _, z⟩ := ended
    exact z.elim
  · cases fl with
    | next => exact False.elim ended
    | brk => exact False.elim ended
    | cont => exact False.elim ended
    | ret u =>
      obtain ⟨v, H2, os, bare, un, sound2, rel, q⟩ := ended
      have q : v = .bl true := q
      subst q
      obtain rfl : u = Value.bool true := rel
      refine ⟨rfl, OldK.of_keep fun b o e => ?_, os, bare⟩
      cases z : H b with
      | none =>
        refine un.keep b o e z ?_ (by simp)
        intro y
        exact absurd (show b ∈ ([] : List Addr) from y) (by simp)
      | some u =>
        obtain ⟨_, rfl, rfl⟩ := told z
        obtain ⟨e1, _⟩ := sound b _ z
        obtain ⟨e2, _⟩ := sound2 b _ (un.frzs b _ _ z)
        rw [e] at e1
        cases e1
        exact e2
/-- a law's def, by what it computes of the script -/
theorem walk_G {l : PySem.W.OpenLaw} {n k : Nat} {q : Program} {loose : List Str} {XP : (Str → Option Value) → Heap → Prop} {YP : World → Heap → Prop} {d : DefRec} {x : Str} {m : M R}
    (hn : l.most = some n) (hn2 : n ≤ sizeLine) (hdf : d.params.defaults = []) (hr : Room k callerA)
    (F : ∀ (w : World) (mg : Str → Option Value) (fa : Addr) (h : Heap), YP w h → h.Ns mainGlobals mg → mg d.name = some (.ref fa) →
      ∃ (K : PySem.W.Frag) (fd : FuncData) (ct : Nat → Addr × Str), K.In h ∧ (∀ (s : Shared) (u : Value), BindsTo s fd ⟨[u], []⟩ [(x, u)]) ∧ ∀ base : Heap, K.In base → base.Ns mainGlobals mg → FnG l.prog w K mg base k fa fd [x] (spM K ct 1 m))
    (math : ∀ ns : List Int, ns.length ≤ n → ∃ ρ, m [.val (.scr ns)] = .ok (.val (.bl true)) ρ) :
    PySem.W.WalkO q loose XP YP l.row.toRowW d [] (fun f vs => PySem.call f vs) := by
  refine Att.attach_call hn hdf fun w s0 s1 mg mb fa o pm cd doc a vs ns Gr Y ho hd hcd hmg hobj hints hlen hg => ?_
  obtain ⟨K, fd, ct, inK, bound, G⟩ := F w mg fa _ Y Gr.T.g hmg
  refine law_G inK Gr.T.g Gr.T.b Gr.T.builtins Gr.T.nolimit hg hobj hints (Nat.le_trans hlen hn2) hr G bound fun H seen => ⟨rfl, ?_⟩
  obtain ⟨ρ, e⟩ := math ns hlen
  have s : SR K [.val (.scr ns)] ([V.ref a].map some) H H := by
    refine ⟨rfl, Sub.refl H, fun i d h => ?_, fun i io ds h => ?_, fun i j io io' ds ds' p h => ?_⟩
    · match i, h with
      | 0, h =>
        cases h
        exact ⟨.ref a, rfl, .scr seen⟩
    · match i, h with
      | 0, h => cases h
    · match i, h with
      | 0, h => cases h
  refine ⟨_, H, s, ?_⟩
  rw [e]
  intro F1 H1 s1 st v rv
  have rv : Rep K F1 v (.bl true) := rv
  cases rv
  rfl
/-! ### the top's facts -/
theorem exAt {l : List Bool} (h : l.all id = true) (i : Nat) {b : Bool} (e : l[i]? = some b) : b = true := by
  have := List.all_eq_true.mp h b (List.mem_of_getElem? e)
  simpa using this
theorem tab_at {fa : List He.Fa} {fn : List He.DefD} {ts : List He.Tab} {w : World} {K : PySem.W.Frag} (c : He.SaysT fa fn ts w K) (i : Nat) {t : He.Tab} (h : ts[i]? = some t) : He.dicW K (t.1 K) = some (He.keysIn w.params t.2) := by
  have e : ts.map (fun t => He.dicW K (t.1 K)) = ts.map fun t => some (He.keysIn w.params t.2) := congrArg (fun z : He.AlT => z.2) c
  have e2 : (ts.map fun t => He.dicW K (t.1 K))[i]? = (ts.map fun t => some (He.keysIn w.params t.2))[i]? := by rw [e]
  rw [List.getElem?_map, List.getElem?_map, h] at e2
  exact Option.some.inj e2
theorem tab_mk {K : PySem.W.Frag} {w : World} {mg : Str → Option Value} {x : Str} {ks : List Str} (g : mg x = some (.ref (He.ga K x))) (e : He.dicW K (He.ga K x) = some (He.keysIn w.params ks)) : TabS K w mg x (He.ga K x) ks :=
  ⟨g, He.dicW_ok e, fun z hz => dicW_out e z hz⟩
theorem tv_all {K : PySem.W.Frag} {a : Addr} {kvs : List (Str × D)} {ks : List Str} (h : tabVB K a kvs = true) (e : kvs.map (·.1) = ks) : ∀ k ∈ ks, ∃ u, PySem.W.nsIn K a k = some (some u) := fun k hk => by
  rw [← e] at hk
  obtain ⟨q, hq, rfl⟩ := List.mem_map.mp hk
  obtain ⟨u, _, e1, _⟩ := tabVB_ok h hq
  exact ⟨u, e1⟩
theorem tf_all {K : PySem.W.Frag} {a : Addr} {kvs : List (Str × Str)} {ks : List Str} (h : tabFB K a kvs = true) (e : kvs.map (·.1) = ks) : ∀ k ∈ ks, ∃ u, PySem.W.nsIn K a k = some (some u) := fun k hk => by
  rw [← e] at hk
  obtain ⟨q, hq, rfl⟩ := List.mem_map.mp hk
  exact ⟨_, tabFB_ok h hq⟩
end VL

set_option maxRecDepth 100000
/-! VL18: iteration over texts and the script too. -/
namespace VL
open PySem L2 PyProof.Rows PySem.Spec
section
variable {X : Cx} {ct : Nat → Addr × Str} {E : L2.St → XK} {e : Expr} {f : M R}
def signsD (s : Str) : List D := s.cps.toList.map fun c => .str ⟨#[c]⟩
def asA (d : D) : M (List D) := match d with
  | .lst ds => ret ds
  | .tup ds => ret ds
  | .str s => ret (signsD s)
  | .scr ns => ret (ns.map D.int)
  | _ => fun _ => .bad
def itA (f : M R) : M (List D) := bnd f fun r => bnd (toV r) asA
theorem yields_str {K : PySem.W.Frag} {s : Str} {F0 : Hp} : Yields K (Its s) (signsD s) F0 := fun F H i s1 s2 => by
  refine ⟨fun d hd => ?_, fun l => ?_⟩
  · unfold signsD at hd
    rw [List.getElem?_map] at hd
    cases q : s.cps.toList[i]? with
    | none =>
      rw [q] at hd
      cases hd
    | some c =>
      rw [q] at hd
      cases hd
      refine ⟨?_, fun x H' y => ?_⟩
      · have := (List.getElem?_eq_some_iff.mp q).1
        show i < s.cps.size
        simpa using this
      · obtain ⟨rfl, c', hc', rfl⟩ := y
        have e : c' = c := by
          have : s.cps.toList[i]? = some c' := by simpa using hc'
          rw [q] at this
          exact (Option.some.inj this).symm
        subst e
        exact ⟨F, Grow.refl s2, .str _ (sgl_len _)⟩
  · unfold signsD at l
    rw [List.length_map] at l
    show s.cps.size ≤ i
    rw [← l]
    simp
theorem yields_scr {K : PySem.W.Frag} {a : Addr} {ns : List Int} {F0 : Hp} (h : SqL K F0 a (ns.map V.int)) : Yields K (Itl K a) (ns.map D.int) F0 := fun F H i s1 s2 => by
  have hq := s2.l (s1.l h)
  refine ⟨fun d hd => ?_, fun l => ?_⟩
  · rw [List.getElem?_map] at hd
    cases q : ns[i]? with
    | none =>
      rw [q] at hd
      cases hd
    | some n =>
      rw [q] at hd
      cases hd
      refine ⟨⟨_, V.int n, hq, by rw [List.getElem?_map, q]; rfl⟩, fun x H' y => ?_⟩
      obtain ⟨rfl, y⟩ := y
      have := y _ hq
      rw [List.getElem?_map, q] at this
      cases this
      exact ⟨F, Grow.refl s2, .int n⟩
  · refine ⟨_, hq, ?_⟩
    rw [List.length_map] at l ⊢
    exact Nat.le_of_eq l
theorem k_iterA {tg : Expr} (he : PE X e (T X.K ct E f)) : PI X tg e (TId X.K ct E (itA f)) := pi_weak (pi_or (pi_or (pi_list he) (pi_tup he)) (pi_str he)) fun σ H R ⟨ρ, F, s, h⟩ => by
  have h' : RunG X.K ct E (bnd f (fun r => bnd (toV r) asA) ρ) ρ σ F H fun ds ρ' F' H' => ∀ J, Yields X.K J ds F' → R J H' := h
  cases q : bnd f toV ρ with
  | bad =>
    have e1 : itA f ρ = (bnd f toV ρ).bind asA := bnd_toV f asA ρ
    rw [e1, q] at h
    exact h.elim
  | exn c d ρ1 =>
    have e1 : itA f ρ = (bnd f toV ρ).bind asA := bnd_toV f asA ρ
    have e2 : bnd f (fun r => bnd (toV r) asL) ρ = (bnd f toV ρ).bind asL := bnd_toV f asL ρ
    refine .inl (.inl (itL_run s ?_))
    rw [e2, q]
    rw [e1, q] at h
    exact h
  | ok d ρ1 =>
    have e1 : itA f ρ = (bnd f toV ρ).bind asA := bnd_toV f asA ρ
    have e2 : bnd f (fun r => bnd (toV r) asL) ρ = (bnd f toV ρ).bind asL := bnd_toV f asL ρ
    have e3 : bnd f (fun r => bnd (toV r) asU) ρ = (bnd f toV ρ).bind asU := bnd_toV f asU ρ
    cases d with
    | lst ds =>
      refine .inl (.inl (itL_run s ?_))
      rw [e2, q]
      rw [e1, q] at h
      exact h
    | tup ds =>
      refine .inl (.inr (itU_run s ?_))
      rw [e3, q]
      rw [e1, q] at h
      exact h
    | str z =>
      refine .inr ?_
      rw [e1, q] at h
      have w : RunG X.K ct E (bnd f (fun r => bnd (toV r) fun d => match d with | .str z => ret (signsD z) | _ => fun _ => .bad) ρ) ρ σ F H fun ds ρ' F' H' => ∀ J, Yields X.K J ds F' → R J H' := by
        rw [bnd_toV f _ ρ, q]
        exact h
      obtain ⟨ρ0, F0, s0, h0⟩ := T_v s w
      refine ⟨ρ0, F0, s0, RunG.imp h0 fun r1 ρ1 F1 H1 s1 st1 k v rr => ?_⟩
      obtain ⟨d, ρ2, F2, s2, ra, st2, h2⟩ := k v rr
      cases ra with
      | str z _ => exact ⟨z, rfl, h2 F2 H1 s2 (Step.refl ..) _ yields_str⟩
      | non => exact h2.elim
      | bl b => exact h2.elim
      | int b => exact h2.elim
      | lst _ _ => exact h2.elim
      | tup _ _ => exact h2.elim
      | scr _ => exact h2.elim
    | scr z =>
      refine .inl (.inl ?_)
      rw [e1, q] at h
      have w : RunG X.K ct E (bnd f (fun r => bnd (toV r) fun d => match d with | .scr z => ret (z.map D.int) | _ => fun _ => .bad) ρ) ρ σ F H fun ds ρ' F' H' => ∀ J, Yields X.K J ds F' → R J H' := by
        rw [bnd_toV f _ ρ, q]
        exact h
      obtain ⟨ρ0, F0, s0, h0⟩ := T_v s w
      refine ⟨ρ0, F0, s0, RunG.imp h0 fun r1 ρ1 F1 H1 s1 st1 k v rr => ?_⟩
      obtain ⟨d, ρ2, F2, s2, ra, st2, h2⟩ := k v rr
      cases ra with
      | scr hq => exact ⟨_, rfl, ⟨_, s2.sub.l hq⟩, h2 F2 H1 s2 (Step.refl ..) _ (yields_scr hq)⟩
      | str z _ => exact h2.elim
      | non => exact h2.elim
      | bl b => exact h2.elim
      | int b => exact h2.elim
      | lst _ _ => exact h2.elim
      | tup _ _ => exact h2.elim
    | non =>
      rw [e1, q] at h
      exact h.elim
    | bl b =>
      rw [e1, q] at h
      exact h.elim
    | int b =>
      rw [e1, q] at h
      exact h.elim
end
end VL

set_option maxRecDepth 100000
/-! VL19: short words for printed walks. -/
namespace VL
open PySem L2 PyProof.Rows PySem.Spec
section
variable {K : PySem.W.Frag}
def inH (x y : D) : Option R := (sgnIn false x y).or (inSeq false x y)
theorem op_inH {X : Cx} : OpR X (compareOp .In) (fun x y H Q => (∃ (c : Nat) (z : Str), x = .str ⟨#[c]⟩ ∧ y = .str z ∧ Q (.bl (decide (c ∈ z.cps.toList))) H) ∨ rIn X.K false x y H Q) := op_in_sign.or op_in_seq
theorem inH_ok : Op2 K (fun x y H Q => (∃ (c : Nat) (z : Str), x = .str ⟨#[c]⟩ ∧ y = .str z ∧ Q (.bl (decide (c ∈ z.cps.toList))) H) ∨ rIn K false x y H Q) inH := sgnIn_ok.or inSeq_ok
def ineg : D → Option R
  | .int i => some (.val (.int (-i)))
  | _ => none
theorem ineg_ok : Op1 K (rU fun i => .int (-i)) ineg := fun F H v d res Q s sh e k => by
  unfold ineg at e
  split at e
  · cases e
    cases sh_int sh
    exact ⟨_, rfl, k _ F H (Grow.refl s) (.int _)⟩
  · cases e
end
theorem px_fn {P : Program} {w : World} {K : PySem.W.Frag} {mg : Str → Option Value} {base : Heap} {N : List Str} {qual : Str} {scope : Scope} {f : Addr} {cdv : Value} {A : Around} {outer : List Env} {s : Shared} {H : Hp} {E : XK} (σ : L2.St) :
    PassesAt (L2.CX P w) (cxOf (L2.CX P w) P w K mg base N qual scope f cdv A outer s H E) σ E := passAt (W := fun cls d _ H => E cls d H) (takes_of rfl rfl rfl rfl) σ
theorem px_0 {X : Cx} (σ : L2.St) : PassesAt (L2.CX X.prog X.w) X σ (E0s σ) := fun _ _ _ _ _ _ h => by
  obtain ⟨_, _, _, _, _, _, _, _, _, _, _, _, z⟩ := h
  exact z.elim
/-- a def that does what m says, and how it is called -/
structure Fk (P : Program) (w : World) (K : PySem.W.Frag) (mg : Str → Option Value) (base : Heap) (ct : Nat → Addr × Str) (k : Nat) (x : Str) (n : Nat) (m : M R) (fd : FuncData) (ps : List Str) : Prop where
  g : FnG P w K mg base k (He.ga K x) fd ps (spM K ct n m)
  kp : PySem.W.keepIn K (.ref (He.ga K x)) = true
theorem FnG.up {P : Program} {w : World} {K : PySem.W.Frag} {mg : Str → Option Value} {base : Heap} {k j : Nat} {f : Addr} {fd : FuncData} {ps : List Str} {sp : Sp} (G : FnG P w K mg base k f fd ps sp) (h : k ≤ j) : FnG P w K mg base j f fd ps sp :=
  ⟨G.len, fun A outer s H args us vs Q E hr => G.run A outer s H args us vs Q E (hr.mono h)⟩
/-- THE RULE for a def, the numbers given -/
theorem k_def {P : Program} {w : World} {K : PySem.W.Frag} {mg : Str → Option Value} {base : Heap} {ct : Nat → Addr × Str} {x qual : Str} {params : Arguments} {body : List Stmt} {scope : Scope} {dvs : List V} {kws : List (Str × V)} {f : Addr} {fd : FuncData} {N ps : List Str} {k n m : Nat} {b : SM} (F : FunD K x qual params body scope dvs kws f fd) (S : FnScope N ps scope) (hn : ps.length = n) (hm : N.length = m)
    (hbody : ∀ (cdv : Value) (A : Around) (outer : List Env) (s : Shared) (H : Hp) (E : XK), Room k (A.deeper (PyProof.Rows.envOfC qual scope s.heap.objs.size f cdv)) → A.guards = some [] →
      PSs (cxOf (L2.CX P w) P w K mg base N qual scope f cdv A outer s H E) body (TSd K ct (fun _ => E) b)) : FnG P w K mg base (k + 1) f fd ps (spM K ct n (runF n m b)) := by
  subst hn hm
  exact k_fun F S hbody
theorem u65 {k : Nat} {A : Around} (r : Room k A) : A.units + 65 < cLine := by
  have := r.un
  omega
end VL

set_option maxRecDepth 100000
/-! ML: evaluation of printed defs; numbers; bags. -/
namespace VL
open PySem L2
theorem isub_ii (i j : Int) : isub (.int i) (.int j) = some (.val (.int (i - j))) := rfl
theorem addH_ii (i j : Int) : addH (.int i) (.int j) = some (.val (.int (i + j))) := rfl
theorem imod_ii {i j : Int} (h : 0 < j) : imod (.int i) (.int j) = some (.val (.int (i % j))) := by
  unfold imod iopC
  simp [h]
theorem idiv_ii {i j : Int} (h : 0 < j) (h2 : j.natAbs.log2 < 9000) : idiv (.int i) (.int j) = some (.val (.int (i / j))) := by
  unfold idiv iopC
  simp [h, h2]
theorem imul_ii {i j : Int} (h : i.natAbs.log2 + j.natAbs.log2 < 1000000) : imul (.int i) (.int j) = some (.val (.int (i * j))) := by
  unfold imul iopC
  simp [h]
theorem ipow_ii {i j : Int} (h : 0 ≤ j ∧ j ≤ 1000000 ∧ i.natAbs < 2 ^ 64) : ipow (.int i) (.int j) = some (.val (.int (i ^ j.toNat))) := by
  unfold ipow iopC
  simp [h]
theorem ilt_ii (i j : Int) : ilt (.int i) (.int j) = some (.val (.bl (decide (i < j)))) := rfl
theorem ile_ii (i j : Int) : ile (.int i) (.int j) = some (.val (.bl (decide (i ≤ j)))) := rfl
theorem igt_ii (i j : Int) : igt (.int i) (.int j) = some (.val (.bl (decide (j < i)))) := rfl
theorem ige_ii (i j : Int) : ige (.int i) (.int j) = some (.val (.bl (decide (j ≤ i)))) := rfl
theorem log2_lt {n k : Nat} (hk : 0 < k) (h : n < 2 ^ k) : n.log2 < k := by
  rcases Nat.eq_zero_or_pos n with z | z
  · subst z
    simpa using hk
  · exact (Nat.log2_lt (by omega)).mpr h
/-- a bag of digits: a great number, a seed -/
def Bag (ds : List D) : Prop := ∃ g m : Int, ds = [.int g, .int m] ∧ 0 ≤ g ∧ 0 ≤ m ∧ m < 2 ^ 31
theorem comp_all {vs : List Nat} {t : D → M Unit} {el : M R} {ds acc : List D} {ρ : En} (I : Nat → List D → En → Prop) (h0 : I 0 acc ρ)
    (step : ∀ i d acc ρ, ds[i]? = some d → I i acc ρ → ∃ x ρ', (bnd (wip vs) fun _ => bnd (t d) fun _ => bnd (noex el) fun r => toV r) ρ = .ok x ρ' ∧ I (i + 1) (acc ++ [x]) ρ') : ∃ acc' ρ', compL vs t (VL.ret true) el ds acc ρ = .ok acc' ρ' ∧ I ds.length acc' ρ' := by
  have go : ∀ (n : Nat) (es acc : List D) (ρ : En), ds.drop n = es → I n acc ρ → ∃ acc' ρ', compL vs t (VL.ret true) el es acc ρ = .ok acc' ρ' ∧ I (n + es.length) acc' ρ' := by
    intro n es
    induction es generalizing n with
    | nil => exact fun acc ρ _ h => ⟨acc, ρ, rfl, h⟩
    | cons d es ih =>
      intro acc ρ e h
      have hd : ds[n]? = some d := by
        have := congrArg (fun l => l[0]?) e
        simpa using this
      obtain ⟨x, ρ1, e1, h1⟩ := step n d acc ρ hd h
      have e2 : ds.drop (n + 1) = es := by
        have := congrArg (List.drop 1) e
        simpa [List.drop_drop] using this
      obtain ⟨acc2, ρ2, e3, h3⟩ := ih (n + 1) (acc ++ [x]) ρ1 e2 h1
      refine ⟨acc2, ρ2, ?_, by rw [List.length_cons, show n + (es.length + 1) = n + 1 + es.length by omega]; exact h3⟩
      rw [← e3]
      have e4 : compL vs t (VL.ret true) el (d :: es) acc ρ = (bnd (bnd (wip vs) fun _ => bnd (t d) fun _ => bnd (noex el) fun r => toV r) fun x => compL vs t (VL.ret true) el es (acc ++ [x])) ρ := by
        simp only [bnd_assoc]
        rfl
      rw [e4]
      show ((bnd (wip vs) fun _ => bnd (t d) fun _ => bnd (noex el) fun r => toV r) ρ).bind _ = _
      rw [e1]
      rfl
  have := go 0 ds acc ρ rfl h0
  simpa using this
theorem for_all {t : D → M Unit} {body : SM} {ds : List D} {ρ : En} (I : Nat → En → Prop) (h0 : I 0 ρ)
    (step : ∀ i d ρ, ds[i]? = some d → I i ρ → ∃ ρ', (bnd (t d) fun _ => body) ρ = .ok .nx ρ' ∧ I (i + 1) ρ') : ∃ ρ', forL t body ds ρ = .ok .nx ρ' ∧ I ds.length ρ' := by
  have go : ∀ (n : Nat) (es : List D) (ρ : En), ds.drop n = es → I n ρ → ∃ ρ', forL t body es ρ = .ok .nx ρ' ∧ I (n + es.length) ρ' := by
    intro n es
    induction es generalizing n with
    | nil => exact fun ρ _ h => ⟨ρ, rfl, h⟩
    | cons d es ih =>
      intro ρ e h
      have hd : ds[n]? = some d := by
        have := congrArg (fun l => l[0]?) e
        simpa using this
      obtain ⟨ρ1, e1, h1⟩ := step n d ρ hd h
      have e2 : ds.drop (n + 1) = es := by
        have := congrArg (List.drop 1) e
        simpa [List.drop_drop] using this
      obtain ⟨ρ2, e3, h3⟩ := ih (n + 1) ρ1 e2 h1
      refine ⟨ρ2, ?_, by rw [List.length_cons, show n + (es.length + 1) = n + 1 + es.length by omega]; exact h3⟩
      rw [← e3]
      have e4 : forL t body (d :: es) ρ = (bnd (bnd (t d) fun _ => body) fun fl => match fl with
        | .nx => forL t body es
        | .ct => forL t body es
        | .bk => VL.ret .nx
        | .ret r => VL.ret (.ret r)) ρ := by
        simp only [bnd_assoc]
        rfl
      rw [e4]
      show ((bnd (t d) fun _ => body) ρ).bind _ = _
      rw [e1]
      rfl
  have := go 0 ds ρ rfl h0
  simpa using this
theorem run_of {n m : Nat} {body : SM} {ρ ρ0 ρ' ρ2 : En} {r r2 : R} (h : ρ.length = n ∧ noOwn ρ = true) (e : ρ ++ List.replicate (m - n) .un = ρ0) (hb : body ρ0 = .ok (.ret r) ρ') (hf : finF ρ r ρ' = .ok r2 ρ2) : runF n m body ρ = .ok r2 ρ2 := by
  unfold runF
  rw [if_pos h, e, hb]
  exact hf
theorem rng1_ok {k : Nat} (h : k ≤ 1000000) (ρ : En) : rng1 [.val (.int (k : Int))] ρ = .ok (rngD 0 k) ρ := by
  have c : -(2 ^ 62) ≤ (k : Int) ∧ (k : Int) < 2 ^ 62 := ⟨by omega, by omega⟩
  simp only [rng1]
  rw [if_pos c, Int.toNat_natCast]
theorem lim_ok {n : Nat} (h : n ≤ 1000000) (ρ : En) : lim n ρ = .ok () ρ := by
  unfold lim
  rw [if_pos (by omega)]
theorem rngD_len (lo : Int) (k : Nat) : (rngD lo k).length = k := by simp [rngD]
theorem addH_ss {a b : Str} (h : a.length + b.length ≤ 1000000) : addH (.str a) (.str b) = some (.val (.str (a ++ b))) := by
  have : sadd (.str a) (.str b) = some (.val (.str (a ++ b))) := by
    simp only [sadd]
    rw [if_pos (show _ ≤ 16777216 by omega)]
  unfold addH addG
  rw [this]
  rfl
theorem slH_s (s : Str) (l u : Option Int) : slH (.str s) l u = some (.val (.str (cutS s l u))) := rfl
theorem tl_take (s : Str) (k : Nat) : TL.tl (cutS s none (some (k : Int))) = (TL.tl s).take k := by
  unfold cutS
  rw [HT.sIx_none, HT.sIx_nat, TL.tl_mk]
  show (s.cps.toList.drop 0).take (min k s.length - 0) = s.cps.toList.take k
  rw [List.drop_zero, Nat.sub_zero]
  have : s.length = s.cps.toList.length := by simp [Str.length]
  rw [this]
  rcases Nat.le_total k s.cps.toList.length with h | h
  · rw [Nat.min_eq_left h]
  · rw [Nat.min_eq_right h, List.take_of_length_le (Nat.le_refl _), List.take_of_length_le h]
theorem tl_drop (s : Str) (k : Nat) : TL.tl (cutS s (some (k : Int)) none) = (TL.tl s).drop k := by
  unfold cutS
  rw [HT.sIx_none, HT.sIx_nat, TL.tl_mk]
  show (s.cps.toList.drop (min k s.length)).take (s.length - min k s.length) = s.cps.toList.drop k
  have : s.length = s.cps.toList.length := by simp [Str.length]
  rw [this]
  rcases Nat.le_total k s.cps.toList.length with h | h
  · rw [Nat.min_eq_left h, List.take_of_length_le (by rw [List.length_drop]; exact Nat.le_refl _)]
  · rw [Nat.min_eq_right h, List.drop_of_length_le (Nat.le_refl _), List.drop_of_length_le h, List.take_nil]
theorem ev_cons {f g : SM} {fs : List SM} {ρ ρ1 : En} (h : f ρ = .ok .nx ρ1) : blk (f :: g :: fs) ρ = blk (g :: fs) ρ1 := by
  show (f ρ).bind _ = _
  rw [h]
  rfl
theorem ev_done {f g : SM} {fs : List SM} {ρ ρ1 : En} {r : R} (h : f ρ = .ok (.ret r) ρ1) : blk (f :: g :: fs) ρ = .ok (.ret r) ρ1 := by
  show (f ρ).bind _ = _
  rw [h]
  rfl
theorem ev_one {f : SM} {ρ : En} : blk [f] ρ = f ρ := rfl
theorem ev_if {t : M Bool} {a b : SM} {ρ ρ1 : En} {c : Bool} (h : t ρ = .ok c ρ1) : sif t a b ρ = (match c with
  | true => a
  | false => b) ρ1 := by
  show (t ρ).bind _ = _
  rw [h]
  rfl
theorem for_step {t : D → M Unit} {body : SM} {d : D} {ds : List D} {ρ ρ1 : En} (h : (bnd (t d) fun _ => body) ρ = .ok .nx ρ1) : forL t body (d :: ds) ρ = forL t body ds ρ1 := by
  have e4 : forL t body (d :: ds) ρ = (bnd (bnd (t d) fun _ => body) fun fl => match fl with
    | .nx => forL t body ds
    | .ct => forL t body ds
    | .bk => VL.ret .nx
    | .ret r => VL.ret (.ret r)) ρ := by
    simp only [bnd_assoc]
    rfl
  rw [e4]
  show ((bnd (t d) fun _ => body) ρ).bind _ = _
  rw [h]
  rfl
theorem ev_for {it : M (List D)} {t : D → M Unit} {body : SM} {ds : List D} {ρ ρ1 : En} (h : it ρ = .ok ds ρ1) : sfor it t body ρ = forL t body ds ρ1 := by
  unfold sfor bnd
  rw [h]
  rfl
end VL

set_option maxRecDepth 100000
/-! D81: the defs of the law as functions of data (printed by gen.py). -/
namespace L81
open PySem L2 VL

/- _law_bag: slots script at primes here great mixed -/
def b__law_bag : SM := (blk [(asg 2 (tupD [(cst (.int 2147483647)), (cst (.int 2147483629)), (cst (.int 2147483587)), (cst (.int 2147483579)), (cst (.int 2147483563)), (cst (.int 2147483549)), (cst (.int 2147483543))])),
  (asg 3 (ife (tvl (op2 ilt (var 1) (callB (c1 lenG) [(var 0)]))) (op2 ixG (var 0) (var 1)) (cst (.int 0)))),
  (asg 4 (ife (tvl (op2 ige (callB (c1 absG) [(var 3)]) (op2 ipow (cst (.int 10)) (cst (.int 18))))) (callB (c1 absG) [(var 3)]) (cst (.int 0)))),
  (asg 5 (op2 imod (op2 ipow (op2 addH (op2 addH (op2 imod (var 3) (cst (.int 2305843009213693951))) (op2 imul (cst (.int 40961)) (var 1))) (cst (.int 19))) (cst (.int 3))) (op2 ixG (var 2) (op2 imod (var 1) (cst (.int 7)))))),
  (sret (lstD [(var 4), (op2 addH (op2 imod (op2 imul (var 5) (op2 addH (op2 addH (op2 idiv (var 5) (cst (.int 5))) (op2 imul (cst (.int 3)) (var 1))) (cst (.int 11)))) (op2 ixG (var 2) (op2 imod (op2 addH (var 1) (cst (.int 2))) (cst (.int 7))))) (cst (.int 1)))]))])
def m__law_bag : M R := runF 2 6 b__law_bag
/- stretch_text: slots stretch -/
def b_stretch_text : SM := (blk [(sret (fjoin [(op1 strG (op2 ixG (var 0) (cst (.int 0)))), (cst (.str "+")), (op1 strG (op2 ixG (var 0) (cst (.int 1))))] Str.empty))])
def m_stretch_text : M R := runF 1 1 b_stretch_text
/- show_deed: slots deed word parts said part -/
def b_show_deed : SM := (blk [(asgStar 2 1 [(gnm 1), (gnm 2)] (var 0)),
  (asg 3 (lstD [(var 1)])),
  (sfor (itA (var 2)) (gnm 4) (blk [(sif (tru (op1 (isiD "tuple") (var 4))) (blk [(sexp (metW 3 appW [(callM m_stretch_text [.e (var 4)])]))]) (blk [(sif (tnot (tru (op1 (isiD "bool") (var 4)))) (blk [(sexp (metW 3 appW [(callB (c1 strG) [(var 4)])]))]) (blk [(sif (tru (var 4)) (blk [(sexp (metW 3 appW [(cst (.str "leave"))]))]) (blk []))]))]))])),
  (sret (metB "str" joinG (cst (.str " ")) [(var 3)]))])
def m_show_deed : M R := runF 1 5 b_show_deed
/- words_of: slots text -/
def b_words_of : SM := (blk [(sif (tnot (tru (op1 (isiD "str") (var 0)))) (blk [(fun _ => .bad)]) (blk [])),
  (sret (ife (tvl (op2 neG (var 0) (cst (.str "")))) (metB "str" splitG (var 0) [(cst (.str " "))]) (lstD [])))])
def m_words_of : M R := runF 1 1 b_words_of
/- number_of: slots word sign -/
def b_number_of : SM := (blk [(sif (tor (tnot (tvl (chain ile ile (cst (.int 1)) (callB (c1 lenG) [(var 0)]) (cst (.int 60))))) (tnot (tru (callB (c1 allG) [(lcd (itA (var 0)) [1] (gnm 1) (ret true) (op2 inH (var 1) (cst (.str "0123456789"))))])))) (blk [(sret (cst .non))]) (blk [])),
  (sret (ife (tand (tvl (op2 eqG (op2 ixG (var 0) (cst (.int 0))) (cst (.str "0")))) (tvl (op2 neG (var 0) (cst (.str "0"))))) (cst .non) (callB (c1 intG) [(var 0)])))])
def m_number_of : M R := runF 1 2 b_number_of
/- stretch_of: slots word first plus many stretch -/
def b_stretch_of : SM := (blk [(asgT (gtp [(gnm 1), (gnm 2), (gnm 3)]) (metB "str" partG (var 0) [(cst (.str "+"))])),
  (asg 4 (tupD [(callM m_number_of [.e (var 1)]), (callM m_number_of [.e (var 3)])])),
  (sret (ife (tor (tvl (op2 inH (cst .non) (var 4))) (tvl (op2 eqG (op2 ixG (var 4) (cst (.int 1))) (cst (.int 0))))) (cst .non) (var 4)))])
def m_stretch_of : M R := runF 1 5 b_stretch_of
/- is_whole: slots thing -/
def b_is_whole : SM := (blk [(sret (andV (op1 (isiD "int") (var 0)) (notV (op1 (isiD "bool") (var 0)))))])
def m_is_whole : M R := runF 1 1 b_is_whole
/- is_between: slots thing low high -/
def b_is_between : SM := (blk [(sret (andV (callM m_is_whole [.e (var 0)]) (chain ile ile (var 1) (var 0) (var 2))))])
def m_is_between : M R := runF 3 3 b_is_between
/- is_day: slots thing -/
def b_is_day : SM := (blk [(sret (callM m_is_between [.e (var 0), .e (cst (.int 0)), .e (cst (.int 1000000000000000000000000000000))]))])
def m_is_day : M R := runF 1 1 b_is_day
/- day_of: slots word number -/
def b_day_of : SM := (blk [(asg 1 (callM m_number_of [.e (var 0)])),
  (sret (ife (tru (callM m_is_day [.e (var 1)])) (var 1) (cst .non)))])
def m_day_of : M R := runF 1 2 b_day_of
/- is_hand: slots thing sign -/
def b_is_hand : SM := (blk [(sif (tor (tnot (tru (op1 (isiD "str") (var 0)))) (tnot (tvl (chain ile ile (cst (.int 1)) (callB (c1 lenG) [(var 0)]) (cst (.int 8)))))) (blk [(sret (cst (.bl false)))]) (blk [])),
  (sret (callB (c1 allG) [(lcd (itA (var 0)) [1] (gnm 1) (ret true) (op2 inH (var 1) (cst (.str "abcdefghijklmnopqrstuvwxyz"))))]))])
def m_is_hand : M R := runF 1 2 b_is_hand
/- hand_of: slots word -/
def b_hand_of : SM := (blk [(sret (ife (tru (callM m_is_hand [.e (var 0)])) (var 0) (cst .non)))])
def m_hand_of : M R := runF 1 1 b_hand_of
/- read_words: slots words begin found kinds at kind part rest -/
def b_read_words : SM := (blk [(sif (tor (tvl (op2 ile (callB (c1 lenG) [(var 0)]) (var 1))) (tvl (op1 (tabIn true ["sale", "grant", "end", "use"]) (op2 ixG (var 0) (var 1))))) (blk [(fun _ => .bad)]) (blk [])),
  (asg 2 (lstD [(op2 ixG (var 0) (var 1))])),
  (asg 3 (lcd (itA (op1 (tabIx [("sale", (.tup [(.str "day"), (.str "stretch"), (.str "hand")])), ("grant", (.tup [(.str "day"), (.str "hand"), (.str "stretch"), (.str "stretch")])), ("end", (.tup [(.str "day"), (.str "hand"), (.str "stretch"), (.str "stretch")])), ("use", (.tup [(.str "day"), (.str "day"), (.str "stretch"), (.str "stretch"), (.str "leave")]))]) (op2 ixG (var 0) (var 1)))) [5] (gnm 5) (tvl (op1 (tabIn false ["day", "hand", "stretch"]) (var 5))) (var 5))),
  (sfor (bnd (evV [(var 3)]) fun ds => bnd (evV [(op2 addH (var 1) (cst (.int 1)))]) fun es => enmN ds es) (gtp [(gnm 4), (gnm 5)]) (blk [(asg 6 (ife (tvl (op2 ilt (var 4) (callB (c1 lenG) [(var 0)]))) (tabCall [("day", m_day_of), ("hand", m_hand_of), ("stretch", m_stretch_of)] (var 5) [.e (op2 ixG (var 0) (var 4))]) (cst .non))),
      (sif (tor (tvl (op2 isN (var 6) (cst .non))) (tand (tvl (op2 eqG (var 5) (cst (.str "day")))) (tand (tvl (op2 eqG (callB (c1 lenG) [(var 2)]) (cst (.int 2)))) (tvl (op2 ilt (var 6) (op2 ixG (var 2) (cst (.int 1)))))))) (blk [(fun _ => .bad)]) (blk [])),
      (sexp (metW 2 appW [(var 6)]))])),
  (asg 7 (slD slH (var 0) (some (op2 addH (op2 addH (var 1) (cst (.int 1))) (callB (c1 lenG) [(var 3)]))) none)),
  (sif (tvl (op2 eqG (op2 ixG (var 2) (cst (.int 0))) (cst (.str "use")))) (blk [(sexp (metW 2 appW [(op2 eqG (slD slH (var 7) none (some (cst (.int 1)))) (lstD [(cst (.str "leave"))]))])),
      (asg 7 (ife (tvl (op2 eqG (slD slH (var 7) none (some (cst (.int 1)))) (lstD [(cst (.str "leave"))]))) (slD slH (var 7) (some (cst (.int 1))) none) (var 7)))]) (blk [])),
  (sif (tvl (op2 neG (var 7) (lstD []))) (blk [(fun _ => .bad)]) (blk [])),
  (sret (callB (c1 tupG) [(var 2)]))])
def m_read_words : M R := runF 2 8 b_read_words
/- read_deed: slots text -/
def b_read_deed : SM := (blk [(sret (callM m_read_words ([.e (callM m_words_of [.e (var 0)])] ++ [.e (cst (.int 0))])))])
def m_read_deed : M R := runF 1 1 b_read_deed
/- _law_take: slots bag size digit -/
def b__law_take : SM := (blk [(sif (tvl (op2 igt (op2 ixG (var 0) (cst (.int 0))) (cst (.int 0)))) (blk [(asg 2 (op2 imod (op2 ixG (var 0) (cst (.int 0))) (var 1))),
      (setI 0 (op2 idiv (op2 ixG (var 0) (cst (.int 0))) (var 1)) (cst (.int 0))),
      (sret (var 2))]) (blk [])),
  (setI 0 (op2 imod (op2 imul (op2 ixG (var 0) (cst (.int 1))) (cst (.int 48271))) (cst (.int 2147483647))) (cst (.int 1))),
  (sret (op2 imod (op2 idiv (op2 imod (op2 imul (op2 ixG (var 0) (cst (.int 1))) (cst (.int 69621))) (cst (.int 2147483629))) (op2 ipow (cst (.int 16)) (cst (.int 2)))) (var 1)))])
def m__law_take : M R := runF 2 3 b__law_take
/- _law_names: slots bag size signs stem spot first pace some k sign -/
def b__law_names : SM := (blk [(asg 2 (cst (.str "abcdefghijklmnopqrstuvwxyz"))),
  (asg 3 (metB "str" joinG (cst (.str "")) [(lcd (bnd (evO [(op2 ixG (lstD [(cst (.int 0)), (cst (.int 1)), (cst (.int 2)), (cst (.int 0)), (cst (.int 7))]) (callM m__law_take [.io (var 0), .e (cst (.int 5))]))]) rng1) [8] (gnm 8) (ret true) (op2 ixG (var 2) (callM m__law_take [.io (var 0), .e (cst (.int 26))])))])),
  (asgT (gtp [(gnm 4), (gnm 5), (gnm 6)]) (tupD [(callM m__law_take [.io (var 0), .e (op2 addH (callB (c1 lenG) [(var 3)]) (cst (.int 1)))]), (callM m__law_take [.io (var 0), .e (cst (.int 26))]), (op2 ixG (lstD [(cst (.int 1)), (cst (.int 25)), (cst (.int 3)), (cst (.int 7))]) (callM m__law_take [.io (var 0), .e (cst (.int 4))]))])),
  (asg 7 (lcd (bnd (evO [(var 1)]) rng1) [8] (gnm 8) (ret true) (op2 ixG (var 2) (op2 imod (op2 addH (var 5) (op2 imul (var 6) (var 8))) (cst (.int 26)))))),
  (sret (lcd (itA (var 7)) [9] (gnm 9) (ret true) (op2 addH (op2 addH (slD slH (var 3) none (some (var 4))) (var 9)) (slD slH (var 3) (some (var 4)) none))))])
def m__law_names : M R := runF 2 10 b__law_names
/- _law_number_text: slots bag most far -/
def b__law_number_text : SM := (blk [(asg 2 (op2 isub (var 1) (callM m__law_take [.io (var 0), .e (op2 addH (callB minG [(var 1), (cst (.int 3))]) (cst (.int 1)))]))),
  (sret (op2 ixG (lstD [(callM m__law_take [.io (var 0), .e (op2 addH (var 1) (cst (.int 1)))]), (var 2), (callM m__law_take [.io (var 0), .e (op2 addH (callB minG [(var 1), (cst (.int 30))]) (cst (.int 1)))])]) (callM m__law_take [.io (var 0), .e (cst (.int 3))])))])
def m__law_number_text : M R := runF 2 3 b__law_number_text
/- _law_any_stretch: slots bag -/
def b__law_any_stretch : SM := (blk [(sret (tupD [(callM m__law_number_text [.io (var 0), .e (op2 ipow (cst (.int 10)) (cst (.int 59)))]), (op2 addH (cst (.int 1)) (callM m__law_number_text [.io (var 0), .e (op2 ipow (cst (.int 10)) (cst (.int 59)))]))]))])
def m__law_any_stretch : M R := runF 1 1 b__law_any_stretch
/- _law_any_deed: slots bag way hand days froms overs -/
def b__law_any_deed : SM := (blk [(parV [1, 2] [(callM m__law_take [.io (var 0), .e (cst (.int 4))]), (op2 ixG (callM m__law_names [.io (var 0), .e (cst (.int 1))]) (cst (.int 0)))]),
  (asg 3 (callB (c1 sortI) [(lstD [(callM m__law_number_text [.io (var 0), .e (op2 ipow (cst (.int 10)) (cst (.int 30)))]), (callM m__law_number_text [.io (var 0), .e (op2 ipow (cst (.int 10)) (cst (.int 30)))])])])),
  (parV [4, 5] [(callM m__law_any_stretch [.io (var 0)]), (callM m__law_any_stretch [.io (var 0)])]),
  (sif (tvl (op2 eqG (var 1) (cst (.int 0)))) (blk [(sret (tupD [(cst (.str "sale")), (op2 ixG (var 3) (cst (.int 0))), (var 4), (var 2)]))]) (blk [])),
  (sif (tvl (op2 ilt (var 1) (cst (.int 3)))) (blk [(sret (tupD [(op2 ixG (lstD [(cst (.str "grant")), (cst (.str "end"))]) (op2 isub (var 1) (cst (.int 1)))), (op2 ixG (var 3) (cst (.int 0))), (var 2), (var 4), (var 5)]))]) (blk [])),
  (sret (tupD [(cst (.str "use")), (op2 ixG (var 3) (callM m__law_take [.io (var 0), .e (cst (.int 2))])), (op2 ixG (var 3) (cst (.int 1))), (var 4), (var 5), (op2 eqG (callM m__law_take [.io (var 0), .e (cst (.int 2))]) (cst (.int 0)))]))])
def m__law_any_deed : M R := runF 1 6 b__law_any_deed
/- _law_text: slots deed words part -/
def b__law_text : SM := (blk [(asg 1 (lstD [(op2 ixG (var 0) (cst (.int 0)))])),
  (sfor (itA (slD slH (var 0) (some (cst (.int 1))) none)) (gnm 2) (blk [(sif (tru (op1 (isiD "tuple") (var 2))) (blk [(sexp (metW 1 appW [(op2 addH (op2 addH (callB (c1 strG) [(op2 ixG (var 2) (cst (.int 0)))]) (cst (.str "+"))) (callB (c1 strG) [(op2 ixG (var 2) (cst (.int 1)))]))]))]) (blk [(sif (tvl (op2 isB (var 2) (cst (.bl true)))) (blk [(sexp (metW 1 appW [(cst (.str "leave"))]))]) (blk [(sif (tvl (op2 isnB (var 2) (cst (.bl false)))) (blk [(sexp (metW 1 appW [(callB (c1 strG) [(var 2)])]))]) (blk []))]))]))])),
  (sret (metB "str" joinG (cst (.str " ")) [(var 1)]))])
def m__law_text : M R := runF 1 3 b__law_text
/- _law_right: slots bag deeds said deed word found one other k -/
def b__law_right : SM := (blk [(asg 1 (lcd (bnd (evO [(cst (.int 6))]) rng1) [8] (gnm 8) (ret true) (callM m__law_any_deed [.io (var 0)]))),
  (asg 2 (lcd (itA (var 1)) [3] (gnm 3) (ret true) (callM m_show_deed [.e (var 3)]))),
  (sfor (bnd (evV [(var 1), (var 2)]) zip2) (gtp [(gnm 3), (gnm 4)]) (blk [(sif (tor (tnot (tru (op1 (isiD "str") (var 4)))) (tvl (op2 neG (var 4) (callM m__law_text [.e (var 3)])))) (blk [(sret (cst (.bl false)))]) (blk [])),
      (asg 5 (callM m_read_deed [.e (var 4)])),
      (sif (tor (tvl (op2 neG (callB (c1 reprG) [(var 5)]) (callB (c1 reprG) [(var 3)]))) (tor (tvl (op2 neG (callB (c1 reprG) [(callM m_read_deed [.e (var 4)])]) (callB (c1 reprG) [(var 3)]))) (tvl (op2 neG (callM m_show_deed [.e (var 5)]) (var 4))))) (blk [(sret (cst (.bl false)))]) (blk []))])),
  (sfor (bnd (evO [(cst (.int 6))]) rng1) (gnm 6) (blk [(sfor (bnd (evO [(var 6)]) rng1) (gnm 7) (blk [(sif (tvl (op2 neG (op2 eqG (op2 ixG (var 2) (var 6)) (op2 ixG (var 2) (var 7))) (op2 eqG (op2 ixG (var 1) (var 6)) (op2 ixG (var 1) (var 7))))) (blk [(sret (cst (.bl false)))]) (blk []))]))])),
  (sret (cst (.bl true)))])
def m__law_right : M R := runF 1 9 b__law_right
/- law: slots script k bag turn -/
def b_law : SM := (blk [(sfor (bnd (evO [(callB maxG [(cst (.int 2)), (callB minG [(cst (.int 4)), (callB (c1 lenG) [(var 0)])])])]) rng1) (gnm 1) (blk [(asg 2 (callM m__law_bag [.e (var 0), .e (var 1)])),
      (sfor (bnd (evO [(cst (.int 8))]) rng1) (gnm 3) (blk [(sif (tnot (tru (callM m__law_right [.io (var 2)]))) (blk [(sret (cst (.bl false)))]) (blk []))]))])),
  (sret (cst (.bl true)))])
def m_law : M R := runF 1 4 b_law
end L81

set_option maxRecDepth 100000
namespace L81
open PySem L2 VL
theorem take_ok {ds : List D} {n : Int} (b : Bag ds) (h0 : 0 < n) (h1 : n.natAbs.log2 < 9000) : ∃ (d : Int) (ds' : List D), m__law_take [.own true ds, .val (.int n)] = .ok (.val (.int d)) [.own true ds', .un] ∧ 0 ≤ d ∧ d < n ∧ Bag ds' := by
  obtain ⟨g, m, rfl, g0, m0, m1⟩ := b
  have e0 : ∀ g m, ixG (.lst [.int g, .int m]) (.int 0) = some (.val (.int g)) := fun _ _ => rfl
  have e2 : ∀ g m, ixG (.lst [.int g, .int m]) (.int 1) = some (.val (.int m)) := fun _ _ => rfl
  have e1 : ixN 2 0 = some 0 := by decide
  have e3 : ixN 2 1 = some 1 := by decide
  unfold m__law_take b__law_take
  by_cases hg : 0 < g
  · refine ⟨g % n, [.int (g / n), .int m], ?_, Int.emod_nonneg _ (by omega), Int.emod_lt_of_pos _ h0, ⟨_, _, rfl, Int.ediv_nonneg g0 (by omega), m0, m1⟩⟩
    simp [bnd, Res.bind, VL.ret, var, cst, op2, op1, fin2, fin1, toO, toV, rdO, asB, tvl, tru, finT, truthD, tand, tor, tnot, ife, blk, sseq, setS, sto, asg, sexp, sret, sif, evO, evV, rdOs, finN, callB, okLen, tupD, lstD, c1, lenG, asgT, gnm, gseq, gtp, slD, pOpt, finS, metB, chk, tyD, evA, mkE, finC, callM, lentOf, wbk, wb1, runF, noOwn, finF, proj, ps1, metW, appW, setI, parV, stoL, fjoin, asgStar, starD, chain, andV, orV, notV, igt_ii, ilt_ii, ile_ii, ige_ii, isub_ii, addH_ii, hg, e0, e1, imod_ii h0, idiv_ii h0 h1]
  · have a0 : 0 ≤ m * 48271 % 2147483647 := Int.emod_nonneg _ (by decide)
    have a1 : m * 48271 % 2147483647 < 2147483647 := Int.emod_lt_of_pos _ (by decide)
    refine ⟨m * 48271 % 2147483647 * 69621 % 2147483629 / 256 % n, [.int g, .int (m * 48271 % 2147483647)], ?_, Int.emod_nonneg _ (by omega), Int.emod_lt_of_pos _ h0, ⟨_, _, rfl, g0, a0, by omega⟩⟩
    have k1 : m.natAbs.log2 + (48271 : Int).natAbs.log2 < 1000000 := by
      have := log2_lt (n := m.natAbs) (k := 31) (by decide) (by omega)
      have : (48271 : Int).natAbs.log2 < 100 := by decide +kernel
      omega
    have k2 : (m * 48271 % 2147483647).natAbs.log2 + (69621 : Int).natAbs.log2 < 1000000 := by
      have := log2_lt (n := (m * 48271 % 2147483647).natAbs) (k := 31) (by decide) (by omega)
      have : (69621 : Int).natAbs.log2 < 100 := by decide +kernel
      omega
    have k3 : ipow (.int 16) (.int 2) = some (.val (.int 256)) := (ipow_ii (by decide)).trans rfl
    have k4 : ∀ i, idiv (.int i) (.int 256) = some (.val (.int (i / 256))) := fun i => idiv_ii (by decide) (by decide +kernel)
    have k5 : ∀ i, imod (.int i) (.int 2147483647) = some (.val (.int (i % 2147483647))) := fun i => imod_ii (by decide)
    have k6 : ∀ i, imod (.int i) (.int 2147483629) = some (.val (.int (i % 2147483629))) := fun i => imod_ii (by decide)
    simp [bnd, Res.bind, VL.ret, var, cst, op2, op1, fin2, fin1, toO, toV, rdO, asB, tvl, tru, finT, truthD, tand, tor, tnot, ife, blk, sseq, setS, sto, asg, sexp, sret, sif, evO, evV, rdOs, finN, callB, okLen, tupD, lstD, c1, lenG, asgT, gnm, gseq, gtp, slD, pOpt, finS, metB, chk, tyD, evA, mkE, finC, callM, lentOf, wbk, wb1, runF, noOwn, finF, proj, ps1, metW, appW, setI, parV, stoL, fjoin, asgStar, starD, chain, andV, orV, notV, igt_ii, ilt_ii, ile_ii, ige_ii, isub_ii, addH_ii, hg, e0, e1, e2, e3, imod_ii h0, imul_ii k1, imul_ii k2, k3, k4, k5, k6]
theorem call_take {ρ : En} {i : Nat} {io : Bool} {ds : List D} {n : Int} {fe : M R} (h : ρ[i]? = some (.own io ds)) (hf : fe ρ = .ok (.val (.int n)) ρ) (b : Bag ds) (h0 : 0 < n) (h1 : n.natAbs.log2 < 9000) :
    ∃ (d : Int) (ds' : List D), callM m__law_take [.io (var i), .e fe] ρ = .ok (.val (.int d)) (ρ.set i (.own io ds')) ∧ 0 ≤ d ∧ d < n ∧ Bag ds' := by
  obtain ⟨d, ds', e, d0, d1, b'⟩ := take_ok b h0 h1
  refine ⟨d, ds', ?_, d0, d1, b'⟩
  simp [bnd, Res.bind, VL.ret, var, cst, op2, op1, fin2, fin1, toO, toV, rdO, asB, tvl, tru, finT, truthD, tand, tor, tnot, ife, blk, sseq, setS, sto, asg, sexp, sret, sif, evO, evV, rdOs, finN, callB, okLen, tupD, lstD, c1, lenG, asgT, gnm, gseq, gtp, slD, pOpt, finS, metB, chk, tyD, evA, mkE, finC, callM, lentOf, wbk, wb1, runF, noOwn, finF, proj, ps1, metW, appW, setI, parV, stoL, fjoin, asgStar, starD, chain, andV, orV, notV, igt_ii, ilt_ii, ile_ii, ige_ii, isub_ii, addH_ii, h, hf, e]
theorem numtext_ok {ds : List D} {n : Int} (b : Bag ds) (h0 : 30 ≤ n) (h1 : n < 2 ^ 8000) : ∃ (d : Int) (ds' : List D), m__law_number_text [.own true ds, .val (.int n)] = .ok (.val (.int d)) [.own true ds', .un] ∧ 0 ≤ d ∧ d ≤ n ∧ Bag ds' := by
  have mn : ∀ k : Int, k ≤ 30 → minG [.int n, .int k] = some (.val (.int k)) := fun k hk => by
    show some (R.val (D.int (if k < n then k else n))) = _
    congr
    split <;> omega
  have lg : ∀ k : Nat, n.natAbs + 1 < 2 ^ k → 0 < k → (n + 1).natAbs.log2 < k := fun k hk h => log2_lt h (by omega)
  obtain ⟨d1, ds1, e1, p1, q1, b1⟩ := call_take (ρ := [.own true ds, .val (.int n), .un]) (i := 0) (n := 4) (fe := (op2 addH (callB minG [(var 1), (cst (.int 3))]) (cst (.int 1)))) rfl (by simp [bnd, Res.bind, VL.ret, var, cst, op2, op1, fin2, fin1, toO, toV, rdO, asB, tvl, tru, finT, truthD, tand, tor, tnot, ife, blk, sseq, setS, sto, asg, sexp, sret, sif, evO, evV, rdOs, finN, callB, okLen, tupD, lstD, c1, lenG, asgT, gnm, gseq, gtp, slD, pOpt, finS, metB, chk, tyD, evA, mkE, finC, callM, lentOf, wbk, wb1, runF, noOwn, finF, proj, ps1, metW, appW, setI, parV, stoL, fjoin, asgStar, starD, chain, andV, orV, notV, igt_ii, ilt_ii, ile_ii, ige_ii, isub_ii, addH_ii, mn]) b (by decide) (by decide +kernel)
  obtain ⟨d2, ds2, e2, p2, q2, b2⟩ := call_take (ρ := [.own true ds1, .val (.int n), .val (.int (n - d1))]) (i := 0) (n := n + 1) (fe := (op2 addH (var 1) (cst (.int 1)))) rfl (by simp [bnd, Res.bind, VL.ret, var, cst, op2, op1, fin2, fin1, toO, toV, rdO, asB, tvl, tru, finT, truthD, tand, tor, tnot, ife, blk, sseq, setS, sto, asg, sexp, sret, sif, evO, evV, rdOs, finN, callB, okLen, tupD, lstD, c1, lenG, asgT, gnm, gseq, gtp, slD, pOpt, finS, metB, chk, tyD, evA, mkE, finC, callM, lentOf, wbk, wb1, runF, noOwn, finF, proj, ps1, metW, appW, setI, parV, stoL, fjoin, asgStar, starD, chain, andV, orV, notV, igt_ii, ilt_ii, ile_ii, ige_ii, isub_ii, addH_ii]) b1 (by omega) (log2_lt (by decide) (by omega))
  obtain ⟨d3, ds3, e3, p3, q3, b3⟩ := call_take (ρ := [.own true ds2, .val (.int n), .val (.int (n - d1))]) (i := 0) (n := 31) (fe := (op2 addH (callB minG [(var 1), (cst (.int 30))]) (cst (.int 1)))) rfl (by simp [bnd, Res.bind, VL.ret, var, cst, op2, op1, fin2, fin1, toO, toV, rdO, asB, tvl, tru, finT, truthD, tand, tor, tnot, ife, blk, sseq, setS, sto, asg, sexp, sret, sif, evO, evV, rdOs, finN, callB, okLen, tupD, lstD, c1, lenG, asgT, gnm, gseq, gtp, slD, pOpt, finS, metB, chk, tyD, evA, mkE, finC, callM, lentOf, wbk, wb1, runF, noOwn, finF, proj, ps1, metW, appW, setI, parV, stoL, fjoin, asgStar, starD, chain, andV, orV, notV, igt_ii, ilt_ii, ile_ii, ige_ii, isub_ii, addH_ii, mn]) b2 (by decide) (by decide +kernel)
  obtain ⟨d4, ds4, e4, p4, q4, b4⟩ := call_take (ρ := [.own true ds3, .val (.int n), .val (.int (n - d1))]) (i := 0) (n := 3) (fe := (cst (.int 3))) rfl (by simp [bnd, Res.bind, VL.ret, var, cst, op2, op1, fin2, fin1, toO, toV, rdO, asB, tvl, tru, finT, truthD, tand, tor, tnot, ife, blk, sseq, setS, sto, asg, sexp, sret, sif, evO, evV, rdOs, finN, callB, okLen, tupD, lstD, c1, lenG, asgT, gnm, gseq, gtp, slD, pOpt, finS, metB, chk, tyD, evA, mkE, finC, callM, lentOf, wbk, wb1, runF, noOwn, finF, proj, ps1, metW, appW, setI, parV, stoL, fjoin, asgStar, starD, chain, andV, orV, notV, igt_ii, ilt_ii, ile_ii, ige_ii, isub_ii, addH_ii]) b3 (by decide) (by decide +kernel)
  have pick : ∃ d, ixG (.lst [.int d2, .int (n - d1), .int d3]) (.int d4) = some (.val (.int d)) ∧ 0 ≤ d ∧ d ≤ n := by
    have : d4 = 0 ∨ d4 = 1 ∨ d4 = 2 := by omega
    rcases this with rfl | rfl | rfl
    · exact ⟨d2, rfl, p2, by omega⟩
    · exact ⟨n - d1, rfl, by omega, by omega⟩
    · exact ⟨d3, rfl, p3, by omega⟩
  obtain ⟨d, e5, p5, q5⟩ := pick
  refine ⟨d, ds4, ?_, p5, q5, b4⟩
  unfold m__law_number_text b__law_number_text
  simp [↓bnd, ↓Res.bind, ↓VL.ret, ↓var, ↓cst, ↓op2, ↓op1, ↓fin2, ↓fin1, ↓toO, ↓toV, ↓rdO, ↓asB, ↓tvl, ↓tru, ↓finT, ↓truthD, ↓tand, ↓tor, ↓tnot, ↓ife, ↓blk, ↓sseq, ↓setS, ↓sto, ↓asg, ↓sexp, ↓sret, ↓sif, ↓evO, ↓evV, ↓rdOs, ↓finN, ↓callB, ↓okLen, ↓tupD, ↓lstD, ↓c1, ↓lenG, ↓asgT, ↓gnm, ↓gseq, ↓gtp, ↓slD, ↓pOpt, ↓finS, ↓metB, ↓chk, ↓tyD, ↓runF, ↓noOwn, ↓finF, ↓proj, ↓ps1, ↓metW, ↓appW, ↓setI, ↓parV, ↓stoL, ↓fjoin, ↓asgStar, ↓starD, ↓chain, ↓andV, ↓orV, ↓notV, ↓igt_ii, ↓ilt_ii, ↓ile_ii, ↓ige_ii, ↓isub_ii, ↓addH_ii, ↓e1, ↓e2, ↓e3, ↓e4, e5]
theorem call_num {ρ : En} {io : Bool} {ds : List D} {n : Int} {fe : M R} (h : ρ[0]? = some (.own io ds)) (hf : fe ρ = .ok (.val (.int n)) ρ) (b : Bag ds) (h0 : 30 ≤ n) (h1 : n < 2 ^ 8000) :
    ∃ (d : Int) (ds' : List D), callM m__law_number_text [.io (var 0), .e fe] ρ = .ok (.val (.int d)) (ρ.set 0 (.own io ds')) ∧ 0 ≤ d ∧ d ≤ n ∧ Bag ds' := by
  obtain ⟨d, ds', e, d0, d1, b'⟩ := numtext_ok b h0 h1
  refine ⟨d, ds', ?_, d0, d1, b'⟩
  simp [bnd, Res.bind, VL.ret, var, cst, op2, op1, fin2, fin1, toO, toV, rdO, asB, tvl, tru, finT, truthD, tand, tor, tnot, ife, blk, sseq, setS, sto, asg, sexp, sret, sif, evO, evV, rdOs, finN, callB, okLen, tupD, lstD, c1, lenG, asgT, gnm, gseq, gtp, slD, pOpt, finS, metB, chk, tyD, evA, mkE, finC, callM, lentOf, wbk, wb1, runF, noOwn, finF, proj, ps1, metW, appW, setI, parV, stoL, fjoin, asgStar, starD, chain, andV, orV, notV, igt_ii, ilt_ii, ile_ii, ige_ii, isub_ii, addH_ii, h, hf, e]
theorem p59 (ρ : En) : op2 ipow (cst (.int 10)) (cst (.int 59)) ρ = .ok (.val (.int (10 ^ 59))) ρ := by
  have : ipow (.int 10) (.int 59) = some (.val (.int (10 ^ 59))) := (ipow_ii (by decide)).trans rfl
  simp only [bnd, Res.bind, VL.ret, var, cst, op2, op1, fin2, fin1, toO, toV, rdO, asB, tvl, tru, finT, truthD, tand, tor, tnot, ife, blk, sseq, setS, sto, asg, sexp, sret, sif, evO, evV, rdOs, finN, callB, okLen, tupD, lstD, c1, lenG, asgT, gnm, gseq, gtp, slD, pOpt, finS, metB, chk, tyD, evA, mkE, finC, callM, lentOf, wbk, wb1, runF, noOwn, finF, proj, ps1, metW, appW, setI, parV, stoL, fjoin, asgStar, starD, chain, andV, orV, notV, igt_ii, ilt_ii, ile_ii, ige_ii, isub_ii, addH_ii, this]
theorem p30 (ρ : En) : op2 ipow (cst (.int 10)) (cst (.int 30)) ρ = .ok (.val (.int (10 ^ 30))) ρ := by
  have : ipow (.int 10) (.int 30) = some (.val (.int (10 ^ 30))) := (ipow_ii (by decide)).trans rfl
  simp only [bnd, Res.bind, VL.ret, var, cst, op2, op1, fin2, fin1, toO, toV, rdO, asB, tvl, tru, finT, truthD, tand, tor, tnot, ife, blk, sseq, setS, sto, asg, sexp, sret, sif, evO, evV, rdOs, finN, callB, okLen, tupD, lstD, c1, lenG, asgT, gnm, gseq, gtp, slD, pOpt, finS, metB, chk, tyD, evA, mkE, finC, callM, lentOf, wbk, wb1, runF, noOwn, finF, proj, ps1, metW, appW, setI, parV, stoL, fjoin, asgStar, starD, chain, andV, orV, notV, igt_ii, ilt_ii, ile_ii, ige_ii, isub_ii, addH_ii, this]
theorem stretch_ok {ds : List D} (b : Bag ds) : ∃ (v w : Int) (ds' : List D), m__law_any_stretch [.own true ds] = .ok (.val (.tup [.int v, .int w])) [.own true ds'] ∧ 0 ≤ v ∧ v < 10 ^ 60 ∧ 1 ≤ w ∧ w < 10 ^ 60 ∧ Bag ds' := by
  obtain ⟨v, ds1, e1, p1, q1, b1⟩ := call_num (ρ := [.own true ds]) (n := 10 ^ 59) (fe := op2 ipow (cst (.int 10)) (cst (.int 59))) rfl (p59 _) b (by decide) (by decide +kernel)
  obtain ⟨w, ds2, e2, p2, q2, b2⟩ := call_num (ρ := [.own true ds1]) (n := 10 ^ 59) (fe := op2 ipow (cst (.int 10)) (cst (.int 59))) rfl (p59 _) b1 (by decide) (by decide +kernel)
  refine ⟨v, 1 + w, ds2, ?_, p1, by omega, by omega, by omega, b2⟩
  refine run_of (ρ0 := [.own true ds]) (r := .val (.tup [.int v, .int (1 + w)])) (ρ' := [.own true ds2]) ⟨rfl, rfl⟩ rfl ?_ rfl
  unfold b__law_any_stretch
  simp [↓bnd, ↓Res.bind, ↓VL.ret, ↓var, ↓cst, ↓op2, ↓op1, ↓fin2, ↓fin1, ↓toO, ↓toV, ↓rdO, ↓asB, ↓tvl, ↓tru, ↓finT, ↓truthD, ↓tand, ↓tor, ↓tnot, ↓ife, ↓blk, ↓sseq, ↓setS, ↓sto, ↓asg, ↓sexp, ↓sret, ↓sif, ↓evO, ↓evV, ↓rdOs, ↓finN, ↓callB, ↓okLen, ↓tupD, ↓lstD, ↓c1, ↓lenG, ↓asgT, ↓gnm, ↓gseq, ↓gtp, ↓slD, ↓pOpt, ↓finS, ↓metB, ↓chk, ↓tyD, ↓runF, ↓noOwn, ↓finF, ↓proj, ↓ps1, ↓metW, ↓appW, ↓setI, ↓parV, ↓stoL, ↓fjoin, ↓asgStar, ↓starD, ↓chain, ↓andV, ↓orV, ↓notV, ↓igt_ii, ↓ilt_ii, ↓ile_ii, ↓ige_ii, ↓isub_ii, ↓addH_ii, ↓e1, ↓e2]
theorem call_stretch {ρ : En} {io : Bool} {ds : List D} (h : ρ[0]? = some (.own io ds)) (b : Bag ds) :
    ∃ (v w : Int) (ds' : List D), callM m__law_any_stretch [.io (var 0)] ρ = .ok (.val (.tup [.int v, .int w])) (ρ.set 0 (.own io ds')) ∧ 0 ≤ v ∧ v < 10 ^ 60 ∧ 1 ≤ w ∧ w < 10 ^ 60 ∧ Bag ds' := by
  obtain ⟨v, w, ds', e, d0, d1, d2, d3, b'⟩ := stretch_ok b
  refine ⟨v, w, ds', ?_, d0, d1, d2, d3, b'⟩
  simp [bnd, Res.bind, VL.ret, var, cst, op2, op1, fin2, fin1, toO, toV, rdO, asB, tvl, tru, finT, truthD, tand, tor, tnot, ife, blk, sseq, setS, sto, asg, sexp, sret, sif, evO, evV, rdOs, finN, callB, okLen, tupD, lstD, c1, lenG, asgT, gnm, gseq, gtp, slD, pOpt, finS, metB, chk, tyD, evA, mkE, finC, callM, lentOf, wbk, wb1, runF, noOwn, finF, proj, ps1, metW, appW, setI, parV, stoL, fjoin, asgStar, starD, chain, andV, orV, notV, igt_ii, ilt_ii, ile_ii, ige_ii, isub_ii, addH_ii, h, e]
/-! ### names -/
def Let (c : Nat) : Prop := 97 ≤ c ∧ c ≤ 122
def alphaS : Str := "abcdefghijklmnopqrstuvwxyz"
theorem pick_let {d : Int} (h0 : 0 ≤ d) (h1 : d < 26) : ∃ c, Let c ∧ ixG (.str alphaS) (.int d) = some (.val (.str ⟨#[c]⟩)) := by
  have : ∀ n : Nat, n < 26 → ∃ c, Let c ∧ ixG (.str alphaS) (.int (n : Int)) = some (.val (.str ⟨#[c]⟩)) := by
    intro n hn
    refine ⟨97 + n, ⟨by omega, by omega⟩, ?_⟩
    have e : alphaS.cps.toList = (List.range 26).map (97 + ·) := by decide +kernel
    show (atI alphaS.cps.toList (n : Int)).map _ = _
    rw [e]
    have : atI ((List.range 26).map (97 + ·)) (n : Int) = some (97 + n) := by
      unfold atI ixN
      have z : ((n : Nat) : Int) < 26 := by omega
      simp [hn, z]
    rw [this]
    rfl
  obtain ⟨n, rfl⟩ := Int.eq_ofNat_of_zero_le h0
  exact this n (by omega)
theorem joinL_nil : ∀ (ls : List (List Nat)), TL.joinL [] ls = ls.flatten
  | [] => rfl
  | [p] => by simp [TL.joinL]
  | p :: q :: r => by
    have := joinL_nil (q :: r)
    simp only [TL.joinL, List.nil_append, this]
    rfl
end L81

set_option maxRecDepth 100000
namespace L81
open PySem L2 VL
def sg (c : Nat) : Str := ⟨#[c]⟩
abbrev envN (bag : List D) (s3 s4 s5 s6 s7 s8 s9 : Sl) : En := [.own true bag, .val (.int 1), .val (.str "abcdefghijklmnopqrstuvwxyz"), s3, s4, s5, s6, s7, s8, s9]
theorem sum1 : ∀ (cs : List Nat), ((cs.map sg).map (·.length)).sum = cs.length
  | [] => rfl
  | c :: cs => by
    have := sum1 cs
    simp only [List.map_cons, List.sum_cons, List.length_cons, this]
    show 1 + cs.length = cs.length + 1
    omega
theorem stem_ok {ds : List D} (b : Bag ds) : ∃ (cs : List Nat) (ds' : List D), (lcd (bnd (evO [(op2 ixG (lstD [(cst (.int 0)), (cst (.int 1)), (cst (.int 2)), (cst (.int 0)), (cst (.int 7))]) (callM m__law_take [.io (var 0), .e (cst (.int 5))]))]) rng1) [8] (gnm 8) (VL.ret true) (op2 ixG (var 2) (callM m__law_take [.io (var 0), .e (cst (.int 26))]))) (envN ds .un .un .un .un .un .un .un)
    = .ok (.fresh ((cs.map sg).map D.str)) (envN ds' .un .un .un .un .un .un .un) ∧ cs.length ≤ 7 ∧ (∀ c ∈ cs, Let c) ∧ Bag ds' := by
  obtain ⟨d0, ds0, e0, p0, q0, b0⟩ := call_take (ρ := envN ds .un .un .un .un .un .un .un) (i := 0) (n := 5) (fe := cst (.int 5)) rfl rfl b (by decide) (by decide +kernel)
  have ix : ∃ k : Nat, ixG (.lst [.int 0, .int 1, .int 2, .int 0, .int 7]) (.int d0) = some (.val (.int (k : Int))) ∧ k ≤ 7 := by
    have : d0 = 0 ∨ d0 = 1 ∨ d0 = 2 ∨ d0 = 3 ∨ d0 = 4 := by omega
    rcases this with rfl | rfl | rfl | rfl | rfl
    · exact ⟨0, rfl, by omega⟩
    · exact ⟨1, rfl, by omega⟩
    · exact ⟨2, rfl, by omega⟩
    · exact ⟨0, rfl, by omega⟩
    · exact ⟨7, rfl, by omega⟩
  obtain ⟨k, ek, hk⟩ := ix
  obtain ⟨acc, ρ1, e1, cs, bag1, x1, rfl, rfl, l1, h1, b1⟩ := comp_all (vs := [8]) (t := gnm 8) (el := op2 ixG (var 2) (callM m__law_take [.io (var 0), .e (cst (.int 26))])) (ds := rngD 0 k) (acc := []) (ρ := envN ds0 .un .un .un .un .un .un .un)
    (fun i acc ρ => ∃ (cs : List Nat) (bag : List D) (x : Sl), acc = (cs.map sg).map D.str ∧ ρ = envN bag .un .un .un .un .un x .un ∧ cs.length = i ∧ (∀ c ∈ cs, Let c) ∧ Bag bag ∧ ∀ a, x ≠ .own true a)
    ⟨[], ds0, .un, rfl, rfl, rfl, by simp, b0, by intro a z; cases z⟩ (by
      rintro i d acc ρ hd ⟨cs, bag, x, rfl, rfl, l, h, b, nx⟩
      obtain ⟨d1, bag', e, p, q, b'⟩ := call_take (ρ := envN bag .un .un .un .un .un (.val d) .un) (i := 0) (n := 26) (fe := cst (.int 26)) rfl rfl b (by decide) (by decide +kernel)
      obtain ⟨c, hc, ec⟩ := pick_let p q
      have ec : ixG (.str "abcdefghijklmnopqrstuvwxyz") (.int d1) = some (.val (.str ⟨#[c]⟩)) := ec
      refine ⟨.str (sg c), envN bag' .un .un .un .un .un (.val d) .un, ?_, cs ++ [c], bag', .val d, by simp, rfl, by simp [l], ?_, b', by intro a z; cases z⟩
      · cases x with
        | own io a =>
          cases io with
          | true => exact absurd rfl (nx a)
          | false => simp [↓bnd, ↓Res.bind, ↓VL.ret, ↓var, ↓cst, ↓op2, ↓op1, ↓fin2, ↓fin1, ↓toO, ↓toV, ↓rdO, ↓asB, ↓tvl, ↓tru, ↓finT, ↓truthD, ↓tand, ↓tor, ↓tnot, ↓ife, ↓blk, ↓sseq, ↓setS, ↓sto, ↓asg, ↓sexp, ↓sret, ↓sif, ↓evO, ↓evV, ↓rdOs, ↓finN, ↓callB, ↓okLen, ↓tupD, ↓lstD, ↓c1, ↓lenG, ↓asgT, ↓gnm, ↓gseq, ↓gtp, ↓slD, ↓pOpt, ↓finS, ↓metB, ↓chk, ↓tyD, ↓runF, ↓noOwn, ↓finF, ↓proj, ↓ps1, ↓metW, ↓appW, ↓setI, ↓parV, ↓stoL, ↓fjoin, ↓asgStar, ↓starD, ↓chain, ↓andV, ↓orV, ↓notV, ↓igt_ii, ↓ilt_ii, ↓ile_ii, ↓ige_ii, ↓isub_ii, ↓addH_ii, ↓wip, ↓noex, ↓e, ec, sg]
        | un => simp [↓bnd, ↓Res.bind, ↓VL.ret, ↓var, ↓cst, ↓op2, ↓op1, ↓fin2, ↓fin1, ↓toO, ↓toV, ↓rdO, ↓asB, ↓tvl, ↓tru, ↓finT, ↓truthD, ↓tand, ↓tor, ↓tnot, ↓ife, ↓blk, ↓sseq, ↓setS, ↓sto, ↓asg, ↓sexp, ↓sret, ↓sif, ↓evO, ↓evV, ↓rdOs, ↓finN, ↓callB, ↓okLen, ↓tupD, ↓lstD, ↓c1, ↓lenG, ↓asgT, ↓gnm, ↓gseq, ↓gtp, ↓slD, ↓pOpt, ↓finS, ↓metB, ↓chk, ↓tyD, ↓runF, ↓noOwn, ↓finF, ↓proj, ↓ps1, ↓metW, ↓appW, ↓setI, ↓parV, ↓stoL, ↓fjoin, ↓asgStar, ↓starD, ↓chain, ↓andV, ↓orV, ↓notV, ↓igt_ii, ↓ilt_ii, ↓ile_ii, ↓ige_ii, ↓isub_ii, ↓addH_ii, ↓wip, ↓noex, ↓e, ec, sg]
        | val v => simp [↓bnd, ↓Res.bind, ↓VL.ret, ↓var, ↓cst, ↓op2, ↓op1, ↓fin2, ↓fin1, ↓toO, ↓toV, ↓rdO, ↓asB, ↓tvl, ↓tru, ↓finT, ↓truthD, ↓tand, ↓tor, ↓tnot, ↓ife, ↓blk, ↓sseq, ↓setS, ↓sto, ↓asg, ↓sexp, ↓sret, ↓sif, ↓evO, ↓evV, ↓rdOs, ↓finN, ↓callB, ↓okLen, ↓tupD, ↓lstD, ↓c1, ↓lenG, ↓asgT, ↓gnm, ↓gseq, ↓gtp, ↓slD, ↓pOpt, ↓finS, ↓metB, ↓chk, ↓tyD, ↓runF, ↓noOwn, ↓finF, ↓proj, ↓ps1, ↓metW, ↓appW, ↓setI, ↓parV, ↓stoL, ↓fjoin, ↓asgStar, ↓starD, ↓chain, ↓andV, ↓orV, ↓notV, ↓igt_ii, ↓ilt_ii, ↓ile_ii, ↓ige_ii, ↓isub_ii, ↓addH_ii, ↓wip, ↓noex, ↓e, ec, sg]
      · intro z hz
        rcases List.mem_append.mp hz with y | y
        · exact h z y
        · rw [List.mem_singleton.mp y]
          exact hc)
  refine ⟨cs, bag1, ?_, by rw [l1, rngD_len]; exact hk, h1, b1.1⟩
  have nx := b1.2
  have e2 : wip [8] (envN bag1 .un .un .un .un .un x1 .un) = .ok () (envN bag1 .un .un .un .un .un .un .un) := by
    cases x1 with
    | own io a =>
      cases io with
      | true => exact absurd rfl (nx a)
      | false => rfl
    | un => rfl
    | val v => rfl
  have er := fun ρ => rng1_ok (k := k) (by omega) ρ
  have el := fun ρ => lim_ok (n := (rngD 0 k).length) (by rw [rngD_len]; omega) ρ
  simp [↓bnd, ↓Res.bind, ↓VL.ret, ↓var, ↓cst, ↓op2, ↓op1, ↓fin2, ↓fin1, ↓toO, ↓toV, ↓rdO, ↓asB, ↓tvl, ↓tru, ↓finT, ↓truthD, ↓tand, ↓tor, ↓tnot, ↓ife, ↓blk, ↓sseq, ↓setS, ↓sto, ↓asg, ↓sexp, ↓sret, ↓sif, ↓evO, ↓evV, ↓rdOs, ↓finN, ↓callB, ↓okLen, ↓tupD, ↓lstD, ↓c1, ↓lenG, ↓asgT, ↓gnm, ↓gseq, ↓gtp, ↓slD, ↓pOpt, ↓finS, ↓metB, ↓chk, ↓tyD, ↓runF, ↓noOwn, ↓finF, ↓proj, ↓ps1, ↓metW, ↓appW, ↓setI, ↓parV, ↓stoL, ↓fjoin, ↓asgStar, ↓starD, ↓chain, ↓andV, ↓orV, ↓notV, ↓igt_ii, ↓ilt_ii, ↓ile_ii, ↓ige_ii, ↓isub_ii, ↓addH_ii, ↓lcd, ↓e0, ek, ↓er, ↓el, ↓e1, ↓e2]
theorem flat_sg : ∀ (cs : List Nat), ((cs.map sg).map TL.tl).flatten = cs
  | [] => rfl
  | c :: cs => by
    have := flat_sg cs
    simp only [List.map_cons, List.flatten_cons, this]
    rfl
theorem tl_stem (cs : List Nat) : TL.tl (Txt.join ("" : Str) (cs.map sg)) = cs := by
  rw [TL.join_eq, TL.tl_join]
  show TL.joinL [] _ = _
  rw [joinL_nil, flat_sg]
theorem join_stem {cs : List Nat} (h : cs.length ≤ 7) : joinG [.str "", .lst ((cs.map sg).map D.str)] = some (.val (.str (Txt.join ("" : Str) (cs.map sg)))) := by
  show joinD "" ((cs.map sg).map D.str) = _
  unfold joinD
  rw [strsOf_map]
  show (if _ then _ else _) = _
  refine if_pos ⟨?_, ?_⟩
  · rw [sum1, List.length_map]
    have : ("" : Str).length = 0 := rfl
    rw [this]
    omega
  · rw [TL.len_tl, tl_stem]
    unfold lineN
    omega
theorem names_ok {ds : List D} (b : Bag ds) : ∃ (h : Str) (ds' : List D), m__law_names [.own true ds, .val (.int 1)] = .ok (.fresh [.str h]) [.own true ds', .un] ∧ 1 ≤ h.length ∧ h.length ≤ 8 ∧ (∀ c ∈ TL.tl h, Let c) ∧ Bag ds' := by
  obtain ⟨cs, ds0, e0, l0, h0, b0⟩ := stem_ok b
  have ej := join_stem l0
  have ts := tl_stem cs
  generalize Txt.join ("" : Str) (cs.map sg) = stem at ej ts
  have ls : stem.length = cs.length := by rw [TL.len_tl, ts]
  generalize (cs.map sg).map D.str = els at e0 ej
  obtain ⟨d1, ds1, e1, p1, q1, b1⟩ := call_take (ρ := envN ds0 (.val (.str stem)) .un .un .un .un .un .un) (i := 0) (n := (cs.length : Int) + 1) (fe := (op2 addH (callB (c1 lenG) [(var 3)]) (cst (.int 1)))) rfl (by simp [bnd, Res.bind, VL.ret, var, cst, op2, op1, fin2, fin1, toO, toV, rdO, asB, tvl, tru, finT, truthD, tand, tor, tnot, ife, blk, sseq, setS, sto, asg, sexp, sret, sif, evO, evV, rdOs, finN, callB, okLen, tupD, lstD, c1, lenG, asgT, gnm, gseq, gtp, slD, pOpt, finS, metB, chk, tyD, evA, mkE, finC, callM, lentOf, wbk, wb1, runF, noOwn, finF, proj, ps1, metW, appW, setI, parV, stoL, fjoin, asgStar, starD, chain, andV, orV, notV, igt_ii, ilt_ii, ile_ii, ige_ii, isub_ii, addH_ii, ls]) b0 (by omega) (log2_lt (by decide) (by omega))
  obtain ⟨d2, ds2, e2, p2, q2, b2⟩ := call_take (ρ := envN ds1 (.val (.str stem)) .un .un .un .un .un .un) (i := 0) (n := 26) (fe := cst (.int 26)) rfl rfl b1 (by decide) (by decide +kernel)
  obtain ⟨d3, ds3, e3, p3, q3, b3⟩ := call_take (ρ := envN ds2 (.val (.str stem)) .un .un .un .un .un .un) (i := 0) (n := 4) (fe := cst (.int 4)) rfl rfl b2 (by decide) (by decide +kernel)
  have ix : ∃ k : Int, ixG (.lst [.int 1, .int 25, .int 3, .int 7]) (.int d3) = some (.val (.int k)) ∧ 0 ≤ k ∧ k ≤ 25 := by
    have : d3 = 0 ∨ d3 = 1 ∨ d3 = 2 ∨ d3 = 3 := by omega
    rcases this with rfl | rfl | rfl | rfl
    · exact ⟨1, rfl, by omega, by omega⟩
    · exact ⟨25, rfl, by omega, by omega⟩
    · exact ⟨3, rfl, by omega, by omega⟩
    · exact ⟨7, rfl, by omega, by omega⟩
  obtain ⟨k, ek, k0, k1⟩ := ix
  have em : imul (.int k) (.int 0) = some (.val (.int 0)) := (imul_ii (by
    have := log2_lt (n := k.natAbs) (k := 31) (by decide) (by omega)
    have : (0 : Int).natAbs.log2 = 0 := by decide +kernel
    omega)).trans (by rw [Int.mul_zero])
  have eo : imod (.int d2) (.int 26) = some (.val (.int (d2 % 26))) := imod_ii (by decide)
  obtain ⟨c, hc, ec⟩ := pick_let (d := d2 % 26) (Int.emod_nonneg _ (by decide)) (Int.emod_lt_of_pos _ (by decide))
  have ec : ixG (.str "abcdefghijklmnopqrstuvwxyz") (.int (d2 % 26)) = some (.val (.str (sg c))) := ec
  obtain ⟨m, rfl⟩ := Int.eq_ofNat_of_zero_le p1
  have t1 : TL.tl (cutS stem none (some (m : Int))) = cs.take m := by rw [tl_take, ts]
  have t2 : TL.tl (cutS stem (some (m : Int)) none) = cs.drop m := by rw [tl_drop, ts]
  have n1 : (cutS stem none (some (m : Int))).length ≤ 7 := by rw [TL.len_tl, t1, List.length_take]; omega
  have n2 : (cutS stem (some (m : Int)) none).length ≤ 7 := by rw [TL.len_tl, t2, List.length_drop]; omega
  have n3 : (sg c).length = 1 := rfl
  have a1 := addH_ss (a := cutS stem none (some (m : Int))) (b := sg c) (by omega)
  have n4 : (cutS stem none (some (m : Int)) ++ sg c).length ≤ 8 := by rw [str_len, n3]; omega
  have a2 := addH_ss (a := cutS stem none (some (m : Int)) ++ sg c) (b := cutS stem (some (m : Int)) none) (by omega)
  have th : TL.tl (cutS stem none (some (m : Int)) ++ sg c ++ cutS stem (some (m : Int)) none) = cs.take m ++ [c] ++ cs.drop m := by
    rw [TL.tl_append, TL.tl_append, t1, t2]
    rfl
  refine ⟨cutS stem none (some (m : Int)) ++ sg c ++ cutS stem (some (m : Int)) none, ds3, ?_, ?_, ?_, ?_, b3⟩
  · refine run_of (ρ0 := [.own true ds, .val (.int 1), .un, .un, .un, .un, .un, .un, .un, .un]) (r := .fresh [.str (cutS stem none (some (m : Int)) ++ sg c ++ cutS stem (some (m : Int)) none)]) (ρ' := [.own true ds3, .val (.int 1), .val (.str "abcdefghijklmnopqrstuvwxyz"), .val (.str stem), .val (.int m), .val (.int d2), .val (.int k), .val (.lst [.str (sg c)]), .un, .un]) ⟨rfl, rfl⟩ rfl ?_ rfl
    unfold b__law_names
    have er : ∀ ρ, rng1 [.val (.int 1)] ρ = .ok [.int 0] ρ := fun ρ => rng1_ok (k := 1) (by omega) ρ
    have el := fun ρ => lim_ok (n := 1) (by omega) ρ
    have el2 : (rngD 0 1).length = 1 := rfl
    have rg : rngD 0 1 = [.int 0] := rfl
    simp [↓bnd, ↓Res.bind, ↓VL.ret, ↓var, ↓cst, ↓op2, ↓op1, ↓fin2, ↓fin1, ↓toO, ↓toV, ↓rdO, ↓asB, ↓tvl, ↓tru, ↓finT, ↓truthD, ↓tand, ↓tor, ↓tnot, ↓ife, ↓blk, ↓sseq, ↓setS, ↓sto, ↓asg, ↓sexp, ↓sret, ↓sif, ↓evO, ↓evV, ↓rdOs, ↓finN, ↓callB, ↓okLen, ↓tupD, ↓lstD, ↓c1, ↓lenG, ↓asgT, ↓gnm, ↓gseq, ↓gtp, ↓slD, ↓pOpt, ↓finS, ↓metB, ↓chk, ↓tyD, ↓runF, ↓noOwn, ↓finF, ↓proj, ↓ps1, ↓metW, ↓appW, ↓setI, ↓parV, ↓stoL, ↓fjoin, ↓asgStar, ↓starD, ↓chain, ↓andV, ↓orV, ↓notV, ↓igt_ii, ↓ilt_ii, ↓ile_ii, ↓ige_ii, ↓isub_ii, ↓addH_ii, ↓e0, ej, ↓e1, ↓e2, ↓e3, ek, ↓er, ↓el, el, ↓lcd, ↓compL, ↓wip, ↓noex, em, eo, ec, ↓itA, ↓asA, slH_s, a1, a2]
  · rw [TL.len_tl, th]
    simp
    omega
  · rw [TL.len_tl, th]
    simp
    omega
  · rw [th]
    intro z hz
    rcases List.mem_append.mp hz with y | y
    · rcases List.mem_append.mp y with y | y
      · exact h0 z (List.mem_of_mem_take y)
      · rw [List.mem_singleton.mp y]
        exact hc
    · exact h0 z (List.mem_of_mem_drop y)
end L81

set_option maxRecDepth 100000
namespace L81
open PySem L2 VL
/-- a deed -/
inductive Dd where
  | sale (n f o : Int) (h : Str)
  | two (w : Bool) (n : Int) (h : Str) (f o g p : Int)
  | use (n m f o g p : Int) (b : Bool)
def st (f o : Int) : D := .tup [.int f, .int o]
def word (w : Bool) : Str := if w then "end" else "grant"
def Dd.d : Dd → D
  | .sale n f o h => .tup [.str "sale", .int n, st f o, .str h]
  | .two w n h f o g p => .tup [.str (word w), .int n, .str h, st f o, st g p]
  | .use n m f o g p b => .tup [.str "use", .int n, .int m, st f o, st g p, .bl b]
def dayO (n : Int) : Prop := 0 ≤ n ∧ n ≤ 10 ^ 30
def stO (f o : Int) : Prop := 0 ≤ f ∧ f < 10 ^ 60 ∧ 1 ≤ o ∧ o < 10 ^ 60
def handO (h : Str) : Prop := 1 ≤ h.length ∧ h.length ≤ 8 ∧ ∀ c ∈ TL.tl h, Let c
def Dd.ok : Dd → Prop
  | .sale n f o h => dayO n ∧ stO f o ∧ handO h
  | .two w n h f o g p => dayO n ∧ handO h ∧ stO f o ∧ stO g p
  | .use n m f o g p b => dayO n ∧ dayO m ∧ n ≤ m ∧ stO f o ∧ stO g p
theorem call_names {ρ : En} {io : Bool} {ds : List D} (h : ρ[0]? = some (.own io ds)) (b : Bag ds) :
    ∃ (t : Str) (ds' : List D), callM m__law_names [.io (var 0), .e (cst (.int 1))] ρ = .ok (.fresh [.str t]) (ρ.set 0 (.own io ds')) ∧ handO t ∧ Bag ds' := by
  obtain ⟨t, ds', e, d0, d1, d2, b'⟩ := names_ok b
  refine ⟨t, ds', ?_, ⟨d0, d1, d2⟩, b'⟩
  simp [bnd, Res.bind, VL.ret, var, cst, op2, op1, fin2, fin1, toO, toV, rdO, asB, tvl, tru, finT, truthD, tand, tor, tnot, ife, blk, sseq, setS, sto, asg, sexp, sret, sif, evO, evV, rdOs, finN, callB, okLen, tupD, lstD, c1, lenG, asgT, gnm, gseq, gtp, slD, pOpt, finS, metB, chk, tyD, evA, mkE, finC, callM, lentOf, wbk, wb1, runF, noOwn, finF, proj, ps1, metW, appW, setI, parV, stoL, fjoin, asgStar, starD, chain, andV, orV, notV, igt_ii, ilt_ii, ile_ii, ige_ii, isub_ii, addH_ii, h, e]
theorem isort2 (a b : Int) : ∃ x y, isort [a, b] = [x, y] ∧ x ≤ y ∧ (x = a ∨ x = b) ∧ (y = a ∨ y = b) := by
  by_cases h : a ≤ b
  · refine ⟨a, b, (isort_unique (List.Perm.refl _) ?_).symm, h, .inl rfl, .inr rfl⟩
    simp [h]
  · refine ⟨b, a, (isort_unique (List.Perm.swap ..) ?_).symm, by omega, .inr rfl, .inl rfl⟩
    simp
    omega
theorem os_ok {n1 n2 x y : Int} (es : isort [n1, n2] = [x, y]) : sortI (.lst [.int n1, .int n2]) = some (.fresh [.int x, .int y]) := by
  have : intsOf [.int n1, .int n2] = some [n1, n2] := intsOf_map [n1, n2]
  simp only [sortI, this, Option.bind_some, es]
  rfl
theorem eq0_ok (i : Int) : eqG (.int i) (.int 0) = some (.val (.bl (decide (i = 0)))) := by
  unfold eqG
  rw [if_pos ⟨rfl, rfl⟩]
  rfl
abbrev envD (bag : List D) (s1 s2 s3 s4 s5 : Sl) : En := [.own true bag, s1, s2, s3, s4, s5]
theorem any_ok {ds : List D} (b : Bag ds) : ∃ (x : Dd) (ds' : List D), m__law_any_deed [.own true ds] = .ok (.val x.d) [.own true ds'] ∧ x.ok ∧ Bag ds' := by
  obtain ⟨w, ds1, e1, p1, q1, b1⟩ := call_take (ρ := envD ds .un .un .un .un .un) (i := 0) (n := 4) (fe := cst (.int 4)) rfl rfl b (by decide) (by decide +kernel)
  obtain ⟨t, ds2, e2, ht, b2⟩ := call_names (ρ := envD ds1 .un .un .un .un .un) rfl b1
  obtain ⟨n1, ds3, e3, p3, q3, b3⟩ := call_num (ρ := envD ds2 (.val (.int w)) (.val (.str t)) .un .un .un) (n := 10 ^ 30) (fe := op2 ipow (cst (.int 10)) (cst (.int 30))) rfl (p30 _) b2 (by decide) (by decide +kernel)
  obtain ⟨n2, ds4, e4, p4, q4, b4⟩ := call_num (ρ := envD ds3 (.val (.int w)) (.val (.str t)) .un .un .un) (n := 10 ^ 30) (fe := op2 ipow (cst (.int 10)) (cst (.int 30))) rfl (p30 _) b3 (by decide) (by decide +kernel)
  obtain ⟨x, y, es, xy, hx, hy⟩ := isort2 n1 n2
  have os := os_ok es
  have dx : dayO x := by
    unfold dayO
    rcases hx with rfl | rfl <;> omega
  have dy : dayO y := by
    unfold dayO
    rcases hy with rfl | rfl <;> omega
  obtain ⟨f, o, ds5, e5, f0, f1, o0, o1, b5⟩ := call_stretch (ρ := envD ds4 (.val (.int w)) (.val (.str t)) (.own false [.int x, .int y]) .un .un) rfl b4
  obtain ⟨g, p, ds6, e6, g0, g1, r0, r1, b6⟩ := call_stretch (ρ := envD ds5 (.val (.int w)) (.val (.str t)) (.own false [.int x, .int y]) .un .un) rfl b5
  have ix : ∀ a b : D, ixG (.lst [a, b]) (.int 0) = some (.val a) := fun _ _ => rfl
  have iy : ∀ a b : D, ixG (.lst [a, b]) (.int 1) = some (.val b) := fun _ _ => rfl
  have iz : ∀ a : D, ixG (.lst [a]) (.int 0) = some (.val a) := fun _ => rfl
  have eq0 := eq0_ok
  have s1 : (parV [1, 2] [(callM m__law_take [.io (var 0), .e (cst (.int 4))]), (op2 ixG (callM m__law_names [.io (var 0), .e (cst (.int 1))]) (cst (.int 0)))]) (envD ds .un .un .un .un .un) = .ok .nx (envD ds2 (.val (.int w)) (.val (.str t)) .un .un .un) := by
    simp [↓bnd, ↓Res.bind, ↓VL.ret, ↓var, ↓cst, ↓op2, ↓op1, ↓fin2, ↓fin1, ↓toO, ↓toV, ↓rdO, ↓asB, ↓tvl, ↓tru, ↓finT, ↓truthD, ↓tand, ↓tor, ↓tnot, ↓ife, ↓blk, ↓sseq, ↓setS, ↓sto, ↓asg, ↓sexp, ↓sret, ↓sif, ↓evO, ↓evV, ↓rdOs, ↓finN, ↓callB, ↓okLen, ↓tupD, ↓lstD, ↓c1, ↓lenG, ↓asgT, ↓gnm, ↓gseq, ↓gtp, ↓slD, ↓pOpt, ↓finS, ↓metB, ↓chk, ↓tyD, ↓runF, ↓noOwn, ↓finF, ↓proj, ↓ps1, ↓metW, ↓appW, ↓setI, ↓parV, ↓stoL, ↓fjoin, ↓asgStar, ↓starD, ↓chain, ↓andV, ↓orV, ↓notV, ↓igt_ii, ↓ilt_ii, ↓ile_ii, ↓ige_ii, ↓isub_ii, ↓addH_ii, ↓e1, ↓e2, iz]
  have s2 : (asg 3 (callB (c1 sortI) [(lstD [(callM m__law_number_text [.io (var 0), .e (op2 ipow (cst (.int 10)) (cst (.int 30)))]), (callM m__law_number_text [.io (var 0), .e (op2 ipow (cst (.int 10)) (cst (.int 30)))])])])) (envD ds2 (.val (.int w)) (.val (.str t)) .un .un .un) = .ok .nx (envD ds4 (.val (.int w)) (.val (.str t)) (.own false [.int x, .int y]) .un .un) := by
    simp [↓bnd, ↓Res.bind, ↓VL.ret, ↓var, ↓cst, ↓op2, ↓op1, ↓fin2, ↓fin1, ↓toO, ↓toV, ↓rdO, ↓asB, ↓tvl, ↓tru, ↓finT, ↓truthD, ↓tand, ↓tor, ↓tnot, ↓ife, ↓blk, ↓sseq, ↓setS, ↓sto, ↓asg, ↓sexp, ↓sret, ↓sif, ↓evO, ↓evV, ↓rdOs, ↓finN, ↓callB, ↓okLen, ↓tupD, ↓lstD, ↓c1, ↓lenG, ↓asgT, ↓gnm, ↓gseq, ↓gtp, ↓slD, ↓pOpt, ↓finS, ↓metB, ↓chk, ↓tyD, ↓runF, ↓noOwn, ↓finF, ↓proj, ↓ps1, ↓metW, ↓appW, ↓setI, ↓parV, ↓stoL, ↓fjoin, ↓asgStar, ↓starD, ↓chain, ↓andV, ↓orV, ↓notV, ↓igt_ii, ↓ilt_ii, ↓ile_ii, ↓ige_ii, ↓isub_ii, ↓addH_ii, ↓e3, ↓e4, os]
  have s3 : (parV [4, 5] [(callM m__law_any_stretch [.io (var 0)]), (callM m__law_any_stretch [.io (var 0)])]) (envD ds4 (.val (.int w)) (.val (.str t)) (.own false [.int x, .int y]) .un .un) = .ok .nx (envD ds6 (.val (.int w)) (.val (.str t)) (.own false [.int x, .int y]) (.val (st f o)) (.val (st g p))) := by
    simp [↓bnd, ↓Res.bind, ↓VL.ret, ↓var, ↓cst, ↓op2, ↓op1, ↓fin2, ↓fin1, ↓toO, ↓toV, ↓rdO, ↓asB, ↓tvl, ↓tru, ↓finT, ↓truthD, ↓tand, ↓tor, ↓tnot, ↓ife, ↓blk, ↓sseq, ↓setS, ↓sto, ↓asg, ↓sexp, ↓sret, ↓sif, ↓evO, ↓evV, ↓rdOs, ↓finN, ↓callB, ↓okLen, ↓tupD, ↓lstD, ↓c1, ↓lenG, ↓asgT, ↓gnm, ↓gseq, ↓gtp, ↓slD, ↓pOpt, ↓finS, ↓metB, ↓chk, ↓tyD, ↓runF, ↓noOwn, ↓finF, ↓proj, ↓ps1, ↓metW, ↓appW, ↓setI, ↓parV, ↓stoL, ↓fjoin, ↓asgStar, ↓starD, ↓chain, ↓andV, ↓orV, ↓notV, ↓igt_ii, ↓ilt_ii, ↓ile_ii, ↓ige_ii, ↓isub_ii, ↓addH_ii, ↓e5, ↓e6, st]
  have fin_ : ∀ (d : D) (bag : List D), b__law_any_deed (envD ds .un .un .un .un .un) = .ok (.ret (.val d)) (envD bag (.val (.int w)) (.val (.str t)) (.own false [.int x, .int y]) (.val (st f o)) (.val (st g p))) → m__law_any_deed [.own true ds] = .ok (.val d) [.own true bag] := fun d bag h => run_of (ρ0 := envD ds .un .un .un .un .un) (r := .val d) ⟨rfl, rfl⟩ rfl h rfl
  have cw : w = 0 ∨ w = 1 ∨ w = 2 ∨ w = 3 := by omega
  rcases cw with rfl | rfl | rfl | rfl
  · refine ⟨.sale x f o t, ds6, fin_ _ _ ?_, ⟨dx, ⟨f0, f1, o0, o1⟩, ht⟩, b6⟩
    refine (ev_cons s1).trans ((ev_cons s2).trans ((ev_cons s3).trans (ev_done ?_)))
    simp [↓bnd, ↓Res.bind, ↓VL.ret, ↓var, ↓cst, ↓op2, ↓op1, ↓fin2, ↓fin1, ↓toO, ↓toV, ↓rdO, ↓asB, ↓tvl, ↓tru, ↓finT, ↓truthD, ↓tand, ↓tor, ↓tnot, ↓ife, ↓blk, ↓sseq, ↓setS, ↓sto, ↓asg, ↓sexp, ↓sret, ↓sif, ↓evO, ↓evV, ↓rdOs, ↓finN, ↓callB, ↓okLen, ↓tupD, ↓lstD, ↓c1, ↓lenG, ↓asgT, ↓gnm, ↓gseq, ↓gtp, ↓slD, ↓pOpt, ↓finS, ↓metB, ↓chk, ↓tyD, ↓runF, ↓noOwn, ↓finF, ↓proj, ↓ps1, ↓metW, ↓appW, ↓setI, ↓parV, ↓stoL, ↓fjoin, ↓asgStar, ↓starD, ↓chain, ↓andV, ↓orV, ↓notV, ↓igt_ii, ↓ilt_ii, ↓ile_ii, ↓ige_ii, ↓isub_ii, ↓addH_ii, ix, iy, iz, eq0, Dd.d]
  · refine ⟨.two false x t f o g p, ds6, fin_ _ _ ?_, ⟨dx, ht, ⟨f0, f1, o0, o1⟩, ⟨g0, g1, r0, r1⟩⟩, b6⟩
    refine (ev_cons s1).trans ((ev_cons s2).trans ((ev_cons s3).trans ((ev_cons (ρ1 := envD ds6 (.val (.int 1)) (.val (.str t)) (.own false [.int x, .int y]) (.val (st f o)) (.val (st g p))) ?_).trans (ev_done ?_))))
    · simp [↓bnd, ↓Res.bind, ↓VL.ret, ↓var, ↓cst, ↓op2, ↓op1, ↓fin2, ↓fin1, ↓toO, ↓toV, ↓rdO, ↓asB, ↓tvl, ↓tru, ↓finT, ↓truthD, ↓tand, ↓tor, ↓tnot, ↓ife, ↓blk, ↓sseq, ↓setS, ↓sto, ↓asg, ↓sexp, ↓sret, ↓sif, ↓evO, ↓evV, ↓rdOs, ↓finN, ↓callB, ↓okLen, ↓tupD, ↓lstD, ↓c1, ↓lenG, ↓asgT, ↓gnm, ↓gseq, ↓gtp, ↓slD, ↓pOpt, ↓finS, ↓metB, ↓chk, ↓tyD, ↓runF, ↓noOwn, ↓finF, ↓proj, ↓ps1, ↓metW, ↓appW, ↓setI, ↓parV, ↓stoL, ↓fjoin, ↓asgStar, ↓starD, ↓chain, ↓andV, ↓orV, ↓notV, ↓igt_ii, ↓ilt_ii, ↓ile_ii, ↓ige_ii, ↓isub_ii, ↓addH_ii, eq0]
    · simp [↓bnd, ↓Res.bind, ↓VL.ret, ↓var, ↓cst, ↓op2, ↓op1, ↓fin2, ↓fin1, ↓toO, ↓toV, ↓rdO, ↓asB, ↓tvl, ↓tru, ↓finT, ↓truthD, ↓tand, ↓tor, ↓tnot, ↓ife, ↓blk, ↓sseq, ↓setS, ↓sto, ↓asg, ↓sexp, ↓sret, ↓sif, ↓evO, ↓evV, ↓rdOs, ↓finN, ↓callB, ↓okLen, ↓tupD, ↓lstD, ↓c1, ↓lenG, ↓asgT, ↓gnm, ↓gseq, ↓gtp, ↓slD, ↓pOpt, ↓finS, ↓metB, ↓chk, ↓tyD, ↓runF, ↓noOwn, ↓finF, ↓proj, ↓ps1, ↓metW, ↓appW, ↓setI, ↓parV, ↓stoL, ↓fjoin, ↓asgStar, ↓starD, ↓chain, ↓andV, ↓orV, ↓notV, ↓igt_ii, ↓ilt_ii, ↓ile_ii, ↓ige_ii, ↓isub_ii, ↓addH_ii, ix, iy, iz, Dd.d, word]
  · refine ⟨.two true x t f o g p, ds6, fin_ _ _ ?_, ⟨dx, ht, ⟨f0, f1, o0, o1⟩, ⟨g0, g1, r0, r1⟩⟩, b6⟩
    refine (ev_cons s1).trans ((ev_cons s2).trans ((ev_cons s3).trans ((ev_cons (ρ1 := envD ds6 (.val (.int 2)) (.val (.str t)) (.own false [.int x, .int y]) (.val (st f o)) (.val (st g p))) ?_).trans (ev_done ?_))))
    · simp [↓bnd, ↓Res.bind, ↓VL.ret, ↓var, ↓cst, ↓op2, ↓op1, ↓fin2, ↓fin1, ↓toO, ↓toV, ↓rdO, ↓asB, ↓tvl, ↓tru, ↓finT, ↓truthD, ↓tand, ↓tor, ↓tnot, ↓ife, ↓blk, ↓sseq, ↓setS, ↓sto, ↓asg, ↓sexp, ↓sret, ↓sif, ↓evO, ↓evV, ↓rdOs, ↓finN, ↓callB, ↓okLen, ↓tupD, ↓lstD, ↓c1, ↓lenG, ↓asgT, ↓gnm, ↓gseq, ↓gtp, ↓slD, ↓pOpt, ↓finS, ↓metB, ↓chk, ↓tyD, ↓runF, ↓noOwn, ↓finF, ↓proj, ↓ps1, ↓metW, ↓appW, ↓setI, ↓parV, ↓stoL, ↓fjoin, ↓asgStar, ↓starD, ↓chain, ↓andV, ↓orV, ↓notV, ↓igt_ii, ↓ilt_ii, ↓ile_ii, ↓ige_ii, ↓isub_ii, ↓addH_ii, eq0]
    · simp [↓bnd, ↓Res.bind, ↓VL.ret, ↓var, ↓cst, ↓op2, ↓op1, ↓fin2, ↓fin1, ↓toO, ↓toV, ↓rdO, ↓asB, ↓tvl, ↓tru, ↓finT, ↓truthD, ↓tand, ↓tor, ↓tnot, ↓ife, ↓blk, ↓sseq, ↓setS, ↓sto, ↓asg, ↓sexp, ↓sret, ↓sif, ↓evO, ↓evV, ↓rdOs, ↓finN, ↓callB, ↓okLen, ↓tupD, ↓lstD, ↓c1, ↓lenG, ↓asgT, ↓gnm, ↓gseq, ↓gtp, ↓slD, ↓pOpt, ↓finS, ↓metB, ↓chk, ↓tyD, ↓runF, ↓noOwn, ↓finF, ↓proj, ↓ps1, ↓metW, ↓appW, ↓setI, ↓parV, ↓stoL, ↓fjoin, ↓asgStar, ↓starD, ↓chain, ↓andV, ↓orV, ↓notV, ↓igt_ii, ↓ilt_ii, ↓ile_ii, ↓ige_ii, ↓isub_ii, ↓addH_ii, ix, iy, iz, Dd.d, word]
  · obtain ⟨i, ds7, e7, p7, q7, b7⟩ := call_take (ρ := envD ds6 (.val (.int 3)) (.val (.str t)) (.own false [.int x, .int y]) (.val (st f o)) (.val (st g p))) (i := 0) (n := 2) (fe := cst (.int 2)) rfl rfl b6 (by decide) (by decide +kernel)
    obtain ⟨j, ds8, e8, p8, q8, b8⟩ := call_take (ρ := envD ds7 (.val (.int 3)) (.val (.str t)) (.own false [.int x, .int y]) (.val (st f o)) (.val (st g p))) (i := 0) (n := 2) (fe := cst (.int 2)) rfl rfl b7 (by decide) (by decide +kernel)
    have pk : ∃ n, ixG (.lst [.int x, .int y]) (.int i) = some (.val (.int n)) ∧ dayO n ∧ n ≤ y := by
      have : i = 0 ∨ i = 1 := by omega
      rcases this with rfl | rfl
      · exact ⟨x, rfl, dx, xy⟩
      · exact ⟨y, rfl, dy, Int.le_refl _⟩
    obtain ⟨n, ei, dn, ny⟩ := pk
    refine ⟨.use n y f o g p (decide (j = 0)), ds8, fin_ _ _ ?_, ⟨dn, dy, ny, ⟨f0, f1, o0, o1⟩, ⟨g0, g1, r0, r1⟩⟩, b8⟩
    refine (ev_cons s1).trans ((ev_cons s2).trans ((ev_cons s3).trans ((ev_cons (ρ1 := envD ds6 (.val (.int 3)) (.val (.str t)) (.own false [.int x, .int y]) (.val (st f o)) (.val (st g p))) ?_).trans ((ev_cons (ρ1 := envD ds6 (.val (.int 3)) (.val (.str t)) (.own false [.int x, .int y]) (.val (st f o)) (.val (st g p))) ?_).trans ?_))))
    · simp [↓bnd, ↓Res.bind, ↓VL.ret, ↓var, ↓cst, ↓op2, ↓op1, ↓fin2, ↓fin1, ↓toO, ↓toV, ↓rdO, ↓asB, ↓tvl, ↓tru, ↓finT, ↓truthD, ↓tand, ↓tor, ↓tnot, ↓ife, ↓blk, ↓sseq, ↓setS, ↓sto, ↓asg, ↓sexp, ↓sret, ↓sif, ↓evO, ↓evV, ↓rdOs, ↓finN, ↓callB, ↓okLen, ↓tupD, ↓lstD, ↓c1, ↓lenG, ↓asgT, ↓gnm, ↓gseq, ↓gtp, ↓slD, ↓pOpt, ↓finS, ↓metB, ↓chk, ↓tyD, ↓runF, ↓noOwn, ↓finF, ↓proj, ↓ps1, ↓metW, ↓appW, ↓setI, ↓parV, ↓stoL, ↓fjoin, ↓asgStar, ↓starD, ↓chain, ↓andV, ↓orV, ↓notV, ↓igt_ii, ↓ilt_ii, ↓ile_ii, ↓ige_ii, ↓isub_ii, ↓addH_ii, eq0]
    · simp [↓bnd, ↓Res.bind, ↓VL.ret, ↓var, ↓cst, ↓op2, ↓op1, ↓fin2, ↓fin1, ↓toO, ↓toV, ↓rdO, ↓asB, ↓tvl, ↓tru, ↓finT, ↓truthD, ↓tand, ↓tor, ↓tnot, ↓ife, ↓blk, ↓sseq, ↓setS, ↓sto, ↓asg, ↓sexp, ↓sret, ↓sif, ↓evO, ↓evV, ↓rdOs, ↓finN, ↓callB, ↓okLen, ↓tupD, ↓lstD, ↓c1, ↓lenG, ↓asgT, ↓gnm, ↓gseq, ↓gtp, ↓slD, ↓pOpt, ↓finS, ↓metB, ↓chk, ↓tyD, ↓runF, ↓noOwn, ↓finF, ↓proj, ↓ps1, ↓metW, ↓appW, ↓setI, ↓parV, ↓stoL, ↓fjoin, ↓asgStar, ↓starD, ↓chain, ↓andV, ↓orV, ↓notV, ↓igt_ii, ↓ilt_ii, ↓ile_ii, ↓ige_ii, ↓isub_ii, ↓addH_ii]
    · rw [ev_one]
      simp [↓bnd, ↓Res.bind, ↓VL.ret, ↓var, ↓cst, ↓op2, ↓op1, ↓fin2, ↓fin1, ↓toO, ↓toV, ↓rdO, ↓asB, ↓tvl, ↓tru, ↓finT, ↓truthD, ↓tand, ↓tor, ↓tnot, ↓ife, ↓blk, ↓sseq, ↓setS, ↓sto, ↓asg, ↓sexp, ↓sret, ↓sif, ↓evO, ↓evV, ↓rdOs, ↓finN, ↓callB, ↓okLen, ↓tupD, ↓lstD, ↓c1, ↓lenG, ↓asgT, ↓gnm, ↓gseq, ↓gtp, ↓slD, ↓pOpt, ↓finS, ↓metB, ↓chk, ↓tyD, ↓runF, ↓noOwn, ↓finF, ↓proj, ↓ps1, ↓metW, ↓appW, ↓setI, ↓parV, ↓stoL, ↓fjoin, ↓asgStar, ↓starD, ↓chain, ↓andV, ↓orV, ↓notV, ↓igt_ii, ↓ilt_ii, ↓ile_ii, ↓ige_ii, ↓isub_ii, ↓addH_ii, ↓e7, ↓e8, ix, iy, ei, eq0, Dd.d]
end L81

set_option maxRecDepth 100000
namespace L81
open PySem L2 VL
/-! ### numbers as texts -/
def num (i : Int) : Str := Str.ofString (toString i)
def numO (i : Int) : Prop := 0 ≤ i ∧ i < 10 ^ 60
theorem num_tl {i : Int} (h : numO i) : TL.tl (num i) = TL.numL i.toNat := by
  obtain ⟨n, rfl⟩ := Int.eq_ofNat_of_zero_le h.1
  exact TL.tl_num n
theorem num_len {i : Int} (h : numO i) : (num i).length ≤ 60 := by
  rw [TL.len_tl, num_tl h]
  exact TL.numL_len (by decide) (by have := h.1; have := h.2; omega)
theorem num_pos {i : Int} (h : numO i) : 1 ≤ (num i).length := by
  rw [TL.len_tl, num_tl h]
  cases q : TL.numL i.toNat with
  | nil => exact absurd q (TL.numL_ne _)
  | cons a l => simp
theorem strG_num {i : Int} (h : numO i) : strG (.int i) = some (.val (.str (num i))) := by
  have : i.natAbs.log2 < 1920 := log2_lt (by decide) (by
    have h1 := h.1
    have h2 := h.2
    have : (10 : Nat) ^ 60 < 2 ^ 1920 := by decide +kernel
    omega)
  simp only [strG, if_pos this]
  rfl
def stx (f o : Int) : Str := num f ++ "+" ++ num o
theorem numO_day {n : Int} (h : dayO n) : numO n := ⟨h.1, by have := h.2; omega⟩
theorem numO_f {f o : Int} (h : stO f o) : numO f := ⟨h.1, h.2.1⟩
theorem numO_o {f o : Int} (h : stO f o) : numO o := ⟨by have := h.2.2.1; omega, h.2.2.2⟩
theorem plus_len : ("+" : Str).length = 1 := rfl
theorem stx_len {f o : Int} (h : stO f o) : (stx f o).length ≤ 121 := by
  unfold stx
  rw [str_len, str_len, plus_len]
  have := num_len (numO_f h)
  have := num_len (numO_o h)
  omega
/-! ### what a part says -/
inductive PW : D → List Str → Prop
  | st {f o : Int} : stO f o → PW (st f o) [stx f o]
  | int {n : Int} : numO n → PW (.int n) [num n]
  | str {h : Str} : handO h → PW (.str h) [h]
  | yes : PW (.bl true) ["leave"]
  | no : PW (.bl false) []
inductive PWs : List D → List Str → Prop
  | nil : PWs [] []
  | cons {d : D} {ws : List Str} {ds : List D} {vs : List Str} : PW d ws → PWs ds vs → PWs (d :: ds) (ws ++ vs)
theorem PW.len {d : D} {ws : List Str} (h : PW d ws) : ws.length ≤ 1 := by
  cases h <;> simp
theorem stext_ok {f o : Int} (h : stO f o) : m_stretch_text [.val (st f o)] = .ok (.val (.str (stx f o))) [.un] := by
  have n1 := num_len (numO_f h)
  have n2 := num_len (numO_o h)
  refine run_of (ρ0 := [.val (st f o)]) (r := .val (.str (stx f o))) (ρ' := [.val (st f o)]) ⟨rfl, rfl⟩ rfl ?_ rfl
  unfold b_stretch_text
  have i0 : ixG (st f o) (.int 0) = some (.val (.int f)) := rfl
  have i1 : ixG (st f o) (.int 1) = some (.val (.int o)) := rfl
  have l0 : (Str.empty ++ num f).length ≤ lineN := by rw [PySem.Str.empty_append]; exact Nat.le_trans n1 (by decide)
  have e0 := PySem.Str.empty_append (num f)
  have l1 : (num f).length ≤ lineN := Nat.le_trans n1 (by decide)
  have l2 : (num f ++ "+").length ≤ lineN := Nat.le_trans (by rw [str_len, plus_len]; exact Nat.succ_le_succ n1) (by decide : 61 ≤ lineN)
  have l3 : (num f ++ "+" ++ num o).length ≤ lineN := Nat.le_trans (stx_len h) (by decide)
  simp [↓bnd, ↓Res.bind, ↓VL.ret, ↓var, ↓cst, ↓op2, ↓op1, ↓fin2, ↓fin1, ↓toO, ↓toV, ↓rdO, ↓asB, ↓tvl, ↓tru, ↓finT, ↓truthD, ↓tand, ↓tor, ↓tnot, ↓ife, ↓blk, ↓sseq, ↓setS, ↓sto, ↓asg, ↓sexp, ↓sret, ↓sif, ↓evO, ↓evV, ↓rdOs, ↓finN, ↓callB, ↓okLen, ↓tupD, ↓lstD, ↓c1, ↓lenG, ↓asgT, ↓gnm, ↓gseq, ↓gtp, ↓slD, ↓pOpt, ↓finS, ↓metB, ↓chk, ↓tyD, ↓runF, ↓noOwn, ↓finF, ↓proj, ↓ps1, ↓metW, ↓appW, ↓setI, ↓parV, ↓stoL, ↓fjoin, ↓asgStar, ↓starD, ↓chain, ↓andV, ↓orV, ↓notV, ↓igt_ii, ↓ilt_ii, ↓ile_ii, ↓ige_ii, ↓isub_ii, ↓addH_ii, i0, i1, strG_num (numO_f h), strG_num (numO_o h), e0, l1, l2, l3, stx]
theorem call_stext {ρ : En} {fe : M R} {f o : Int} (h : stO f o) (hf : fe ρ = .ok (.val (st f o)) ρ) : callM m_stretch_text [.e fe] ρ = .ok (.val (.str (stx f o))) ρ := by
  simp [bnd, Res.bind, VL.ret, var, cst, op2, op1, fin2, fin1, toO, toV, rdO, asB, tvl, tru, finT, truthD, tand, tor, tnot, ife, blk, sseq, setS, sto, asg, sexp, sret, sif, evO, evV, rdOs, finN, callB, okLen, tupD, lstD, c1, lenG, asgT, gnm, gseq, gtp, slD, pOpt, finS, metB, chk, tyD, evA, mkE, finC, callM, lentOf, wbk, wb1, runF, noOwn, finF, proj, ps1, metW, appW, setI, parV, stoL, fjoin, asgStar, starD, chain, andV, orV, notV, igt_ii, ilt_ii, ile_ii, ige_ii, isub_ii, addH_ii, hf, stext_ok h]
theorem isi_tup (f o : Int) : isiD "tuple" (st f o) = some (.val (.bl true)) := rfl
/-- one part of show_deed's loop -/
theorem show_turn {d : D} {ws : List Str} (p : PW d ws) (dd w pp : D) (ls : List D) (x : Sl) (hx : ∀ a, x ≠ .own true a) (hl : ls.length < 100) :
    (bnd (gnm 4 d) fun _ => (blk [(sif (tru (op1 (isiD "tuple") (var 4))) (blk [(sexp (metW 3 appW [(callM m_stretch_text [.e (var 4)])]))]) (blk [(sif (tnot (tru (op1 (isiD "bool") (var 4)))) (blk [(sexp (metW 3 appW [(callB (c1 strG) [(var 4)])]))]) (blk [(sif (tru (var 4)) (blk [(sexp (metW 3 appW [(cst (.str "leave"))]))]) (blk []))]))]))])) [.val dd, .val w, .val pp, .own false ls, x]
    = .ok .nx [.val dd, .val w, .val pp, .own false (ls ++ ws.map D.str), .val d] := by
  have hl : ls.length < 16777216 := by omega
  have e0 : gnm 4 d [.val dd, .val w, .val pp, .own false ls, x] = .ok () [.val dd, .val w, .val pp, .own false ls, .val d] := by
    cases x with
    | own io a =>
      cases io with
      | true => exact absurd rfl (hx a)
      | false => rfl
    | un => rfl
    | val v => rfl
  cases p with
  | @st f o h =>
    have e1 := call_stext (ρ := [.val dd, .val w, .val pp, .own false ls, .val (st f o)]) (fe := var 4) h rfl
    simp [↓bnd, ↓Res.bind, ↓VL.ret, ↓var, ↓cst, ↓op2, ↓op1, ↓fin2, ↓fin1, ↓toO, ↓toV, ↓rdO, ↓asB, ↓tvl, ↓tru, ↓finT, ↓truthD, ↓tand, ↓tor, ↓tnot, ↓ife, ↓blk, ↓sseq, ↓setS, ↓sto, ↓asg, ↓sexp, ↓sret, ↓sif, ↓evO, ↓evV, ↓rdOs, ↓finN, ↓callB, ↓okLen, ↓tupD, ↓lstD, ↓c1, ↓lenG, ↓asgT, ↓gnm, ↓gseq, ↓gtp, ↓slD, ↓pOpt, ↓finS, ↓metB, ↓chk, ↓tyD, ↓runF, ↓noOwn, ↓finF, ↓proj, ↓ps1, ↓metW, ↓appW, ↓setI, ↓parV, ↓stoL, ↓fjoin, ↓asgStar, ↓starD, ↓chain, ↓andV, ↓orV, ↓notV, ↓igt_ii, ↓ilt_ii, ↓ile_ii, ↓ige_ii, ↓isub_ii, ↓addH_ii, ↓e0, hl, isi_tup, ↓e1]
  | @int n h =>
    have i1 : isiD "tuple" (.int n) = some (.val (.bl false)) := rfl
    have i2 : isiD "bool" (.int n) = some (.val (.bl false)) := rfl
    simp [↓bnd, ↓Res.bind, ↓VL.ret, ↓var, ↓cst, ↓op2, ↓op1, ↓fin2, ↓fin1, ↓toO, ↓toV, ↓rdO, ↓asB, ↓tvl, ↓tru, ↓finT, ↓truthD, ↓tand, ↓tor, ↓tnot, ↓ife, ↓blk, ↓sseq, ↓setS, ↓sto, ↓asg, ↓sexp, ↓sret, ↓sif, ↓evO, ↓evV, ↓rdOs, ↓finN, ↓callB, ↓okLen, ↓tupD, ↓lstD, ↓c1, ↓lenG, ↓asgT, ↓gnm, ↓gseq, ↓gtp, ↓slD, ↓pOpt, ↓finS, ↓metB, ↓chk, ↓tyD, ↓runF, ↓noOwn, ↓finF, ↓proj, ↓ps1, ↓metW, ↓appW, ↓setI, ↓parV, ↓stoL, ↓fjoin, ↓asgStar, ↓starD, ↓chain, ↓andV, ↓orV, ↓notV, ↓igt_ii, ↓ilt_ii, ↓ile_ii, ↓ige_ii, ↓isub_ii, ↓addH_ii, ↓e0, hl, i1, i2, strG_num h]
  | @str t h =>
    have i1 : isiD "tuple" (.str t) = some (.val (.bl false)) := rfl
    have i2 : isiD "bool" (.str t) = some (.val (.bl false)) := rfl
    have i3 : strG (.str t) = some (.val (.str t)) := rfl
    simp [↓bnd, ↓Res.bind, ↓VL.ret, ↓var, ↓cst, ↓op2, ↓op1, ↓fin2, ↓fin1, ↓toO, ↓toV, ↓rdO, ↓asB, ↓tvl, ↓tru, ↓finT, ↓truthD, ↓tand, ↓tor, ↓tnot, ↓ife, ↓blk, ↓sseq, ↓setS, ↓sto, ↓asg, ↓sexp, ↓sret, ↓sif, ↓evO, ↓evV, ↓rdOs, ↓finN, ↓callB, ↓okLen, ↓tupD, ↓lstD, ↓c1, ↓lenG, ↓asgT, ↓gnm, ↓gseq, ↓gtp, ↓slD, ↓pOpt, ↓finS, ↓metB, ↓chk, ↓tyD, ↓runF, ↓noOwn, ↓finF, ↓proj, ↓ps1, ↓metW, ↓appW, ↓setI, ↓parV, ↓stoL, ↓fjoin, ↓asgStar, ↓starD, ↓chain, ↓andV, ↓orV, ↓notV, ↓igt_ii, ↓ilt_ii, ↓ile_ii, ↓ige_ii, ↓isub_ii, ↓addH_ii, ↓e0, hl, i1, i2, i3]
  | yes =>
    have i1 : isiD "tuple" (.bl true) = some (.val (.bl false)) := rfl
    have i2 : isiD "bool" (.bl true) = some (.val (.bl true)) := rfl
    simp [↓bnd, ↓Res.bind, ↓VL.ret, ↓var, ↓cst, ↓op2, ↓op1, ↓fin2, ↓fin1, ↓toO, ↓toV, ↓rdO, ↓asB, ↓tvl, ↓tru, ↓finT, ↓truthD, ↓tand, ↓tor, ↓tnot, ↓ife, ↓blk, ↓sseq, ↓setS, ↓sto, ↓asg, ↓sexp, ↓sret, ↓sif, ↓evO, ↓evV, ↓rdOs, ↓finN, ↓callB, ↓okLen, ↓tupD, ↓lstD, ↓c1, ↓lenG, ↓asgT, ↓gnm, ↓gseq, ↓gtp, ↓slD, ↓pOpt, ↓finS, ↓metB, ↓chk, ↓tyD, ↓runF, ↓noOwn, ↓finF, ↓proj, ↓ps1, ↓metW, ↓appW, ↓setI, ↓parV, ↓stoL, ↓fjoin, ↓asgStar, ↓starD, ↓chain, ↓andV, ↓orV, ↓notV, ↓igt_ii, ↓ilt_ii, ↓ile_ii, ↓ige_ii, ↓isub_ii, ↓addH_ii, ↓e0, hl, i1, i2]
  | no =>
    have i1 : isiD "tuple" (.bl false) = some (.val (.bl false)) := rfl
    have i2 : isiD "bool" (.bl false) = some (.val (.bl true)) := rfl
    simp [↓bnd, ↓Res.bind, ↓VL.ret, ↓var, ↓cst, ↓op2, ↓op1, ↓fin2, ↓fin1, ↓toO, ↓toV, ↓rdO, ↓asB, ↓tvl, ↓tru, ↓finT, ↓truthD, ↓tand, ↓tor, ↓tnot, ↓ife, ↓blk, ↓sseq, ↓setS, ↓sto, ↓asg, ↓sexp, ↓sret, ↓sif, ↓evO, ↓evV, ↓rdOs, ↓finN, ↓callB, ↓okLen, ↓tupD, ↓lstD, ↓c1, ↓lenG, ↓asgT, ↓gnm, ↓gseq, ↓gtp, ↓slD, ↓pOpt, ↓finS, ↓metB, ↓chk, ↓tyD, ↓runF, ↓noOwn, ↓finF, ↓proj, ↓ps1, ↓metW, ↓appW, ↓setI, ↓parV, ↓stoL, ↓fjoin, ↓asgStar, ↓starD, ↓chain, ↓andV, ↓orV, ↓notV, ↓igt_ii, ↓ilt_ii, ↓ile_ii, ↓ige_ii, ↓isub_ii, ↓addH_ii, ↓e0, hl, i1, i2]
theorem show_loop {ds : List D} {ws : List Str} (p : PWs ds ws) : ∀ (dd w pp : D) (ls : List D) (x : Sl) (hx : ∀ a, x ≠ .own true a) (hl : ls.length + ds.length < 100), ∃ y, forL (gnm 4) (blk [(sif (tru (op1 (isiD "tuple") (var 4))) (blk [(sexp (metW 3 appW [(callM m_stretch_text [.e (var 4)])]))]) (blk [(sif (tnot (tru (op1 (isiD "bool") (var 4)))) (blk [(sexp (metW 3 appW [(callB (c1 strG) [(var 4)])]))]) (blk [(sif (tru (var 4)) (blk [(sexp (metW 3 appW [(cst (.str "leave"))]))]) (blk []))]))]))]) ds [.val dd, .val w, .val pp, .own false ls, x]
    = .ok .nx [.val dd, .val w, .val pp, .own false (ls ++ ws.map D.str), y] := by
  induction p with
  | nil => exact fun dd w pp ls x hx hl => ⟨x, by simp [forL, VL.ret]⟩
  | @cons d ws ds vs h _ ih =>
    intro dd w pp ls x hx hl
    rw [List.length_cons] at hl
    have lw := h.len
    obtain ⟨y, ey⟩ := ih dd w pp (ls ++ ws.map D.str) (.val d) (by intro a z; cases z) (by rw [List.length_append, List.length_map]; omega)
    refine ⟨y, ?_⟩
    rw [for_step (show_turn h dd w pp ls x hx (by omega)), ey]
    simp
end L81

set_option maxRecDepth 100000
namespace L81
open PySem L2 VL
theorem joinL_len (S : List Nat) : ∀ ls : List (List Nat), (TL.joinL S ls).length ≤ (ls.map List.length).sum + ls.length * S.length
  | [] => by simp [TL.joinL]
  | [p] => by simp [TL.joinL]
  | p :: q :: r => by
    have ih := joinL_len S (q :: r)
    rw [TL.joinL, List.length_append, List.length_append, List.map_cons, List.sum_cons, List.length_cons, Nat.succ_mul]
    omega
def WordO (y : Str) : Prop := y.length ≤ 121 ∧ 32 ∉ TL.tl y
theorem sum_le {ys : List Str} (h : ∀ y ∈ ys, WordO y) : (ys.map (·.length)).sum ≤ 121 * ys.length := by
  induction ys with
  | nil => simp
  | cons y ys ih =>
    have h1 := (h y (List.mem_cons_self ..)).1
    have h2 := ih fun z hz => h z (List.mem_cons_of_mem _ hz)
    rw [List.map_cons, List.sum_cons, List.length_cons]
    omega
theorem sp_len : (" " : Str).length = 1 := rfl
theorem join_words {ys : List Str} (h : ∀ y ∈ ys, WordO y) (hl : ys.length ≤ 100) : joinG [.str " ", .lst (ys.map D.str)] = some (.val (.str (Txt.join (" " : Str) ys))) := by
  have s := sum_le h
  have l : (Txt.join (" " : Str) ys).length ≤ 13000 := by
    rw [TL.len_tl, TL.join_eq, TL.tl_join]
    have a := joinL_len (TL.tl (" " : Str)) (ys.map TL.tl)
    have e1 : (ys.map TL.tl).map List.length = ys.map (·.length) := by
      rw [List.map_map]
      exact List.map_congr_left fun y _ => (TL.len_tl y).symm
    have e2 : (TL.tl (" " : Str)).length = 1 := rfl
    rw [e1, e2, List.length_map] at a
    omega
  show joinD " " (ys.map D.str) = _
  unfold joinD
  rw [strsOf_map]
  show (if _ then _ else _) = _
  refine if_pos ⟨?_, Nat.le_trans l (by decide)⟩
  rw [sp_len]
  omega
theorem free_num {i : Int} (h : numO i) {s : Nat} (hs : s < 48 ∨ 57 < s) : s ∉ TL.tl (num i) := by
  rw [num_tl h]
  exact TL.numL_free hs
theorem wo_num {i : Int} (h : numO i) : WordO (num i) := ⟨Nat.le_trans (num_len h) (by decide), free_num h (by decide)⟩
theorem tl_plus : TL.tl ("+" : Str) = [43] := rfl
theorem wo_stx {f o : Int} (h : stO f o) : WordO (stx f o) := ⟨stx_len h, by
  unfold stx
  rw [TL.tl_append, TL.tl_append, tl_plus]
  intro z
  rcases List.mem_append.mp z with z | z
  · rcases List.mem_append.mp z with z | z
    · exact free_num (numO_f h) (by decide) z
    · simp at z
  · exact free_num (numO_o h) (by decide) z⟩
theorem wo_hand {t : Str} (h : handO t) : WordO t := ⟨Nat.le_trans h.2.1 (by decide), fun z => by
  have := (h.2.2 32 z).1
  omega⟩
theorem PW.wo {d : D} {ws : List Str} (h : PW d ws) : ∀ y ∈ ws, WordO y := by
  cases h with
  | st h => intro y hy; rw [List.mem_singleton.mp hy]; exact wo_stx h
  | int h => intro y hy; rw [List.mem_singleton.mp hy]; exact wo_num h
  | str h => intro y hy; rw [List.mem_singleton.mp hy]; exact wo_hand h
  | yes => intro y hy; rw [List.mem_singleton.mp hy]; exact ⟨by decide +kernel, by decide +kernel⟩
  | no => intro y hy; cases hy
theorem PWs.wo {ds : List D} {ws : List Str} (h : PWs ds ws) : ∀ y ∈ ws, WordO y := by
  induction h with
  | nil => intro y hy; cases hy
  | cons a _ ih =>
    intro y hy
    rcases List.mem_append.mp hy with z | z
    · exact a.wo y z
    · exact ih y z
theorem PWs.len {ds : List D} {ws : List Str} (h : PWs ds ws) : ws.length ≤ ds.length := by
  induction h with
  | nil => simp
  | cons a _ ih =>
    have := a.len
    rw [List.length_append, List.length_cons]
    omega
theorem show_any {w0 : Str} {parts : List D} {ws : List Str} (p : PWs parts ws) (hw : WordO w0) (hl : parts.length ≤ 6) : m_show_deed [.val (.tup (.str w0 :: parts))] = .ok (.val (.str (Txt.join (" " : Str) (w0 :: ws)))) [.un] := by
  have jn := join_words (ys := w0 :: ws) (by
    intro y hy
    rcases List.mem_cons.mp hy with z | z
    · rw [z]; exact hw
    · exact p.wo y z) (by have := p.len; rw [List.length_cons]; omega)
  rw [List.map_cons] at jn
  obtain ⟨y, ey⟩ := show_loop p (.tup (.str w0 :: parts)) (.str w0) (.lst parts) [.str w0] .un (by intro a z; cases z) (by simp; omega)
  have lp : parts.length + 1 + 1 - 2 = parts.length := by omega
  refine run_of (ρ0 := [.val (.tup (.str w0 :: parts)), .un, .un, .un, .un]) (r := .val (.str (Txt.join (" " : Str) (w0 :: ws)))) (ρ' := [.val (.tup (.str w0 :: parts)), .val (.str w0), .val (.lst parts), .own false ([.str w0] ++ ws.map D.str), y]) ⟨rfl, rfl⟩ rfl ?_ rfl
  unfold b_show_deed
  refine (ev_cons (ρ1 := [.val (.tup (.str w0 :: parts)), .val (.str w0), .val (.lst parts), .un, .un]) ?_).trans ((ev_cons (ρ1 := [.val (.tup (.str w0 :: parts)), .val (.str w0), .val (.lst parts), .own false [.str w0], .un]) ?_).trans ((ev_cons (ρ1 := [.val (.tup (.str w0 :: parts)), .val (.str w0), .val (.lst parts), .own false ([.str w0] ++ ws.map D.str), y]) ?_).trans ?_))
  · simp [↓bnd, ↓Res.bind, ↓VL.ret, ↓var, ↓cst, ↓op2, ↓op1, ↓fin2, ↓fin1, ↓toO, ↓toV, ↓rdO, ↓asB, ↓tvl, ↓tru, ↓finT, ↓truthD, ↓tand, ↓tor, ↓tnot, ↓ife, ↓blk, ↓sseq, ↓setS, ↓sto, ↓asg, ↓sexp, ↓sret, ↓sif, ↓evO, ↓evV, ↓rdOs, ↓finN, ↓callB, ↓okLen, ↓tupD, ↓lstD, ↓c1, ↓lenG, ↓asgT, ↓gnm, ↓gseq, ↓gtp, ↓slD, ↓pOpt, ↓finS, ↓metB, ↓chk, ↓tyD, ↓runF, ↓noOwn, ↓finF, ↓proj, ↓ps1, ↓metW, ↓appW, ↓setI, ↓parV, ↓stoL, ↓fjoin, ↓asgStar, ↓starD, ↓chain, ↓andV, ↓orV, ↓notV, ↓igt_ii, ↓ilt_ii, ↓ile_ii, ↓ige_ii, ↓isub_ii, ↓addH_ii, lp]
  · simp [↓bnd, ↓Res.bind, ↓VL.ret, ↓var, ↓cst, ↓op2, ↓op1, ↓fin2, ↓fin1, ↓toO, ↓toV, ↓rdO, ↓asB, ↓tvl, ↓tru, ↓finT, ↓truthD, ↓tand, ↓tor, ↓tnot, ↓ife, ↓blk, ↓sseq, ↓setS, ↓sto, ↓asg, ↓sexp, ↓sret, ↓sif, ↓evO, ↓evV, ↓rdOs, ↓finN, ↓callB, ↓okLen, ↓tupD, ↓lstD, ↓c1, ↓lenG, ↓asgT, ↓gnm, ↓gseq, ↓gtp, ↓slD, ↓pOpt, ↓finS, ↓metB, ↓chk, ↓tyD, ↓runF, ↓noOwn, ↓finF, ↓proj, ↓ps1, ↓metW, ↓appW, ↓setI, ↓parV, ↓stoL, ↓fjoin, ↓asgStar, ↓starD, ↓chain, ↓andV, ↓orV, ↓notV, ↓igt_ii, ↓ilt_ii, ↓ile_ii, ↓ige_ii, ↓isub_ii, ↓addH_ii]
  · simp only [↓sfor, ↓itA, ↓bnd, ↓var, ↓Res.bind, ↓toV, ↓asA, ↓VL.ret, List.getElem?_cons_succ, List.getElem?_cons_zero]
    exact ey
  · rw [ev_one]
    simp [↓bnd, ↓Res.bind, ↓VL.ret, ↓var, ↓cst, ↓op2, ↓op1, ↓fin2, ↓fin1, ↓toO, ↓toV, ↓rdO, ↓asB, ↓tvl, ↓tru, ↓finT, ↓truthD, ↓tand, ↓tor, ↓tnot, ↓ife, ↓blk, ↓sseq, ↓setS, ↓sto, ↓asg, ↓sexp, ↓sret, ↓sif, ↓evO, ↓evV, ↓rdOs, ↓finN, ↓callB, ↓okLen, ↓tupD, ↓lstD, ↓c1, ↓lenG, ↓asgT, ↓gnm, ↓gseq, ↓gtp, ↓slD, ↓pOpt, ↓finS, ↓metB, ↓chk, ↓tyD, ↓runF, ↓noOwn, ↓finF, ↓proj, ↓ps1, ↓metW, ↓appW, ↓setI, ↓parV, ↓stoL, ↓fjoin, ↓asgStar, ↓starD, ↓chain, ↓andV, ↓orV, ↓notV, ↓igt_ii, ↓ilt_ii, ↓ile_ii, ↓ige_ii, ↓isub_ii, ↓addH_ii, jn]
/-! ### the law's own text -/
theorem text_turn {d : D} {ws : List Str} (p : PW d ws) (dd : D) (ls : List D) (x : Sl) (hx : ∀ a, x ≠ .own true a) (hl : ls.length < 100) :
    (bnd (gnm 2 d) fun _ => (blk [(sif (tru (op1 (isiD "tuple") (var 2))) (blk [(sexp (metW 1 appW [(op2 addH (op2 addH (callB (c1 strG) [(op2 ixG (var 2) (cst (.int 0)))]) (cst (.str "+"))) (callB (c1 strG) [(op2 ixG (var 2) (cst (.int 1)))]))]))]) (blk [(sif (tvl (op2 isB (var 2) (cst (.bl true)))) (blk [(sexp (metW 1 appW [(cst (.str "leave"))]))]) (blk [(sif (tvl (op2 isnB (var 2) (cst (.bl false)))) (blk [(sexp (metW 1 appW [(callB (c1 strG) [(var 2)])]))]) (blk []))]))]))])) [.val dd, .own false ls, x]
    = .ok .nx [.val dd, .own false (ls ++ ws.map D.str), .val d] := by
  have hl : ls.length < 16777216 := by omega
  have e0 : gnm 2 d [.val dd, .own false ls, x] = .ok () [.val dd, .own false ls, .val d] := by
    cases x with
    | own io a =>
      cases io with
      | true => exact absurd rfl (hx a)
      | false => rfl
    | un => rfl
    | val v => rfl
  cases p with
  | @st f o h =>
    have i0 : ixG (st f o) (.int 0) = some (.val (.int f)) := rfl
    have i1 : ixG (st f o) (.int 1) = some (.val (.int o)) := rfl
    have n1 := num_len (numO_f h)
    have n2 := num_len (numO_o h)
    have a1 := addH_ss (a := num f) (b := "+") (by rw [plus_len]; omega)
    have a2 := addH_ss (a := num f ++ "+") (b := num o) (by rw [str_len, plus_len]; omega)
    simp [↓bnd, ↓Res.bind, ↓VL.ret, ↓var, ↓cst, ↓op2, ↓op1, ↓fin2, ↓fin1, ↓toO, ↓toV, ↓rdO, ↓asB, ↓tvl, ↓tru, ↓finT, ↓truthD, ↓tand, ↓tor, ↓tnot, ↓ife, ↓blk, ↓sseq, ↓setS, ↓sto, ↓asg, ↓sexp, ↓sret, ↓sif, ↓evO, ↓evV, ↓rdOs, ↓finN, ↓callB, ↓okLen, ↓tupD, ↓lstD, ↓c1, ↓lenG, ↓asgT, ↓gnm, ↓gseq, ↓gtp, ↓slD, ↓pOpt, ↓finS, ↓metB, ↓chk, ↓tyD, ↓runF, ↓noOwn, ↓finF, ↓proj, ↓ps1, ↓metW, ↓appW, ↓setI, ↓parV, ↓stoL, ↓fjoin, ↓asgStar, ↓starD, ↓chain, ↓andV, ↓orV, ↓notV, ↓igt_ii, ↓ilt_ii, ↓ile_ii, ↓ige_ii, ↓isub_ii, ↓addH_ii, ↓e0, hl, isi_tup, i0, i1, strG_num (numO_f h), strG_num (numO_o h), a1, a2, stx]
  | @int n h =>
    have i1 : isiD "tuple" (.int n) = some (.val (.bl false)) := rfl
    have i2 : isB (.int n) (.bl true) = some (.val (.bl false)) := rfl
    have i3 : isnB (.int n) (.bl false) = some (.val (.bl true)) := rfl
    simp [↓bnd, ↓Res.bind, ↓VL.ret, ↓var, ↓cst, ↓op2, ↓op1, ↓fin2, ↓fin1, ↓toO, ↓toV, ↓rdO, ↓asB, ↓tvl, ↓tru, ↓finT, ↓truthD, ↓tand, ↓tor, ↓tnot, ↓ife, ↓blk, ↓sseq, ↓setS, ↓sto, ↓asg, ↓sexp, ↓sret, ↓sif, ↓evO, ↓evV, ↓rdOs, ↓finN, ↓callB, ↓okLen, ↓tupD, ↓lstD, ↓c1, ↓lenG, ↓asgT, ↓gnm, ↓gseq, ↓gtp, ↓slD, ↓pOpt, ↓finS, ↓metB, ↓chk, ↓tyD, ↓runF, ↓noOwn, ↓finF, ↓proj, ↓ps1, ↓metW, ↓appW, ↓setI, ↓parV, ↓stoL, ↓fjoin, ↓asgStar, ↓starD, ↓chain, ↓andV, ↓orV, ↓notV, ↓igt_ii, ↓ilt_ii, ↓ile_ii, ↓ige_ii, ↓isub_ii, ↓addH_ii, ↓e0, hl, i1, i2, i3, strG_num h]
  | @str t h =>
    have i1 : isiD "tuple" (.str t) = some (.val (.bl false)) := rfl
    have i2 : isB (.str t) (.bl true) = some (.val (.bl false)) := rfl
    have i3 : isnB (.str t) (.bl false) = some (.val (.bl true)) := rfl
    have i4 : strG (.str t) = some (.val (.str t)) := rfl
    simp [↓bnd, ↓Res.bind, ↓VL.ret, ↓var, ↓cst, ↓op2, ↓op1, ↓fin2, ↓fin1, ↓toO, ↓toV, ↓rdO, ↓asB, ↓tvl, ↓tru, ↓finT, ↓truthD, ↓tand, ↓tor, ↓tnot, ↓ife, ↓blk, ↓sseq, ↓setS, ↓sto, ↓asg, ↓sexp, ↓sret, ↓sif, ↓evO, ↓evV, ↓rdOs, ↓finN, ↓callB, ↓okLen, ↓tupD, ↓lstD, ↓c1, ↓lenG, ↓asgT, ↓gnm, ↓gseq, ↓gtp, ↓slD, ↓pOpt, ↓finS, ↓metB, ↓chk, ↓tyD, ↓runF, ↓noOwn, ↓finF, ↓proj, ↓ps1, ↓metW, ↓appW, ↓setI, ↓parV, ↓stoL, ↓fjoin, ↓asgStar, ↓starD, ↓chain, ↓andV, ↓orV, ↓notV, ↓igt_ii, ↓ilt_ii, ↓ile_ii, ↓ige_ii, ↓isub_ii, ↓addH_ii, ↓e0, hl, i1, i2, i3, i4]
  | yes =>
    have i1 : isiD "tuple" (.bl true) = some (.val (.bl false)) := rfl
    have i2 : isB (.bl true) (.bl true) = some (.val (.bl true)) := rfl
    simp [↓bnd, ↓Res.bind, ↓VL.ret, ↓var, ↓cst, ↓op2, ↓op1, ↓fin2, ↓fin1, ↓toO, ↓toV, ↓rdO, ↓asB, ↓tvl, ↓tru, ↓finT, ↓truthD, ↓tand, ↓tor, ↓tnot, ↓ife, ↓blk, ↓sseq, ↓setS, ↓sto, ↓asg, ↓sexp, ↓sret, ↓sif, ↓evO, ↓evV, ↓rdOs, ↓finN, ↓callB, ↓okLen, ↓tupD, ↓lstD, ↓c1, ↓lenG, ↓asgT, ↓gnm, ↓gseq, ↓gtp, ↓slD, ↓pOpt, ↓finS, ↓metB, ↓chk, ↓tyD, ↓runF, ↓noOwn, ↓finF, ↓proj, ↓ps1, ↓metW, ↓appW, ↓setI, ↓parV, ↓stoL, ↓fjoin, ↓asgStar, ↓starD, ↓chain, ↓andV, ↓orV, ↓notV, ↓igt_ii, ↓ilt_ii, ↓ile_ii, ↓ige_ii, ↓isub_ii, ↓addH_ii, ↓e0, hl, i1, i2]
  | no =>
    have i1 : isiD "tuple" (.bl false) = some (.val (.bl false)) := rfl
    have i2 : isB (.bl false) (.bl true) = some (.val (.bl false)) := rfl
    have i3 : isnB (.bl false) (.bl false) = some (.val (.bl false)) := rfl
    simp [↓bnd, ↓Res.bind, ↓VL.ret, ↓var, ↓cst, ↓op2, ↓op1, ↓fin2, ↓fin1, ↓toO, ↓toV, ↓rdO, ↓asB, ↓tvl, ↓tru, ↓finT, ↓truthD, ↓tand, ↓tor, ↓tnot, ↓ife, ↓blk, ↓sseq, ↓setS, ↓sto, ↓asg, ↓sexp, ↓sret, ↓sif, ↓evO, ↓evV, ↓rdOs, ↓finN, ↓callB, ↓okLen, ↓tupD, ↓lstD, ↓c1, ↓lenG, ↓asgT, ↓gnm, ↓gseq, ↓gtp, ↓slD, ↓pOpt, ↓finS, ↓metB, ↓chk, ↓tyD, ↓runF, ↓noOwn, ↓finF, ↓proj, ↓ps1, ↓metW, ↓appW, ↓setI, ↓parV, ↓stoL, ↓fjoin, ↓asgStar, ↓starD, ↓chain, ↓andV, ↓orV, ↓notV, ↓igt_ii, ↓ilt_ii, ↓ile_ii, ↓ige_ii, ↓isub_ii, ↓addH_ii, ↓e0, hl, i1, i2, i3]
theorem text_loop {ds : List D} {ws : List Str} (p : PWs ds ws) : ∀ (dd : D) (ls : List D) (x : Sl) (hx : ∀ a, x ≠ .own true a) (hl : ls.length + ds.length < 100), ∃ y, forL (gnm 2) (blk [(sif (tru (op1 (isiD "tuple") (var 2))) (blk [(sexp (metW 1 appW [(op2 addH (op2 addH (callB (c1 strG) [(op2 ixG (var 2) (cst (.int 0)))]) (cst (.str "+"))) (callB (c1 strG) [(op2 ixG (var 2) (cst (.int 1)))]))]))]) (blk [(sif (tvl (op2 isB (var 2) (cst (.bl true)))) (blk [(sexp (metW 1 appW [(cst (.str "leave"))]))]) (blk [(sif (tvl (op2 isnB (var 2) (cst (.bl false)))) (blk [(sexp (metW 1 appW [(callB (c1 strG) [(var 2)])]))]) (blk []))]))]))]) ds [.val dd, .own false ls, x]
    = .ok .nx [.val dd, .own false (ls ++ ws.map D.str), y] := by
  induction p with
  | nil => exact fun dd ls x hx hl => ⟨x, by simp [forL, VL.ret]⟩
  | @cons d ws ds vs h _ ih =>
    intro dd ls x hx hl
    rw [List.length_cons] at hl
    have lw := h.len
    obtain ⟨y, ey⟩ := ih dd (ls ++ ws.map D.str) (.val d) (by intro a z; cases z) (by rw [List.length_append, List.length_map]; omega)
    refine ⟨y, ?_⟩
    rw [for_step (text_turn h dd ls x hx (by omega)), ey]
    simp
theorem text_any {w0 : Str} {parts : List D} {ws : List Str} (p : PWs parts ws) (hw : WordO w0) (hl : parts.length ≤ 6) : m__law_text [.val (.tup (.str w0 :: parts))] = .ok (.val (.str (Txt.join (" " : Str) (w0 :: ws)))) [.un] := by
  have jn := join_words (ys := w0 :: ws) (by
    intro y hy
    rcases List.mem_cons.mp hy with z | z
    · rw [z]; exact hw
    · exact p.wo y z) (by have := p.len; rw [List.length_cons]; omega)
  rw [List.map_cons] at jn
  obtain ⟨y, ey⟩ := text_loop p (.tup (.str w0 :: parts)) [.str w0] .un (by intro a z; cases z) (by simp; omega)
  have ct : slH (.tup (.str w0 :: parts)) (some 1) none = some (.val (.tup parts)) := by
    have : cutD (.str w0 :: parts) (some 1) none = parts := by
      have e1 : HT.sIx (D.str w0 :: parts).length 0 (some 1) = 1 := by
        show min 1 (parts.length + 1) = 1
        omega
      unfold cutD
      rw [e1]
      show List.take (parts.length + 1 - 1) parts = parts
      simp
    show some (R.val (.tup (cutD (.str w0 :: parts) (some 1) none))) = _
    rw [this]
  refine run_of (ρ0 := [.val (.tup (.str w0 :: parts)), .un, .un]) (r := .val (.str (Txt.join (" " : Str) (w0 :: ws)))) (ρ' := [.val (.tup (.str w0 :: parts)), .own false ([.str w0] ++ ws.map D.str), y]) ⟨rfl, rfl⟩ rfl ?_ rfl
  unfold b__law_text
  have i0 : ixG (.tup (.str w0 :: parts)) (.int 0) = some (.val (.str w0)) := by
    have : atI (D.str w0 :: parts) 0 = some (.str w0) := by
      unfold atI ixN
      have z : (0 : Int) < ((parts.length + 1 : Nat) : Int) := by omega
      simp [z]
    show (atI (D.str w0 :: parts) 0).map _ = _
    rw [this]
    rfl
  refine (ev_cons (ρ1 := [.val (.tup (.str w0 :: parts)), .own false [.str w0], .un]) ?_).trans ((ev_cons (ρ1 := [.val (.tup (.str w0 :: parts)), .own false ([.str w0] ++ ws.map D.str), y]) ?_).trans ?_)
  · simp [↓bnd, ↓Res.bind, ↓VL.ret, ↓var, ↓cst, ↓op2, ↓op1, ↓fin2, ↓fin1, ↓toO, ↓toV, ↓rdO, ↓asB, ↓tvl, ↓tru, ↓finT, ↓truthD, ↓tand, ↓tor, ↓tnot, ↓ife, ↓blk, ↓sseq, ↓setS, ↓sto, ↓asg, ↓sexp, ↓sret, ↓sif, ↓evO, ↓evV, ↓rdOs, ↓finN, ↓callB, ↓okLen, ↓tupD, ↓lstD, ↓c1, ↓lenG, ↓asgT, ↓gnm, ↓gseq, ↓gtp, ↓slD, ↓pOpt, ↓finS, ↓metB, ↓chk, ↓tyD, ↓runF, ↓noOwn, ↓finF, ↓proj, ↓ps1, ↓metW, ↓appW, ↓setI, ↓parV, ↓stoL, ↓fjoin, ↓asgStar, ↓starD, ↓chain, ↓andV, ↓orV, ↓notV, ↓igt_ii, ↓ilt_ii, ↓ile_ii, ↓ige_ii, ↓isub_ii, ↓addH_ii, i0]
  · have e2 : itA (slD slH (var 0) (some (cst (.int 1))) none) [.val (.tup (.str w0 :: parts)), .own false [.str w0], .un] = .ok parts [.val (.tup (.str w0 :: parts)), .own false [.str w0], .un] := by
      simp [↓bnd, ↓Res.bind, ↓VL.ret, ↓var, ↓cst, ↓op2, ↓op1, ↓fin2, ↓fin1, ↓toO, ↓toV, ↓rdO, ↓asB, ↓tvl, ↓tru, ↓finT, ↓truthD, ↓tand, ↓tor, ↓tnot, ↓ife, ↓blk, ↓sseq, ↓setS, ↓sto, ↓asg, ↓sexp, ↓sret, ↓sif, ↓evO, ↓evV, ↓rdOs, ↓finN, ↓callB, ↓okLen, ↓tupD, ↓lstD, ↓c1, ↓lenG, ↓asgT, ↓gnm, ↓gseq, ↓gtp, ↓slD, ↓pOpt, ↓finS, ↓metB, ↓chk, ↓tyD, ↓runF, ↓noOwn, ↓finF, ↓proj, ↓ps1, ↓metW, ↓appW, ↓setI, ↓parV, ↓stoL, ↓fjoin, ↓asgStar, ↓starD, ↓chain, ↓andV, ↓orV, ↓notV, ↓igt_ii, ↓ilt_ii, ↓ile_ii, ↓ige_ii, ↓isub_ii, ↓addH_ii, ↓itA, ↓asA, ct]
    rw [ev_for e2]
    exact ey
  · rw [ev_one]
    simp [↓bnd, ↓Res.bind, ↓VL.ret, ↓var, ↓cst, ↓op2, ↓op1, ↓fin2, ↓fin1, ↓toO, ↓toV, ↓rdO, ↓asB, ↓tvl, ↓tru, ↓finT, ↓truthD, ↓tand, ↓tor, ↓tnot, ↓ife, ↓blk, ↓sseq, ↓setS, ↓sto, ↓asg, ↓sexp, ↓sret, ↓sif, ↓evO, ↓evV, ↓rdOs, ↓finN, ↓callB, ↓okLen, ↓tupD, ↓lstD, ↓c1, ↓lenG, ↓asgT, ↓gnm, ↓gseq, ↓gtp, ↓slD, ↓pOpt, ↓finS, ↓metB, ↓chk, ↓tyD, ↓runF, ↓noOwn, ↓finF, ↓proj, ↓ps1, ↓metW, ↓appW, ↓setI, ↓parV, ↓stoL, ↓fjoin, ↓asgStar, ↓starD, ↓chain, ↓andV, ↓orV, ↓notV, ↓igt_ii, ↓ilt_ii, ↓ile_ii, ↓ige_ii, ↓isub_ii, ↓addH_ii, jn]
end L81

set_option maxRecDepth 100000
namespace L81
open PySem L2 VL
def Asc (s : Str) : Prop := ∀ c ∈ TL.tl s, c < 128
theorem asc_ok {s : Str} (h : Asc s) : okP (.str s) = true := by
  have : PyData.strOk s = true := by
    unfold PyData.strOk
    rw [Array.all_eq_true']
    intro c hc
    have := h c (by simpa [TL.tl] using hc)
    simp
    omega
  show (true && (PyData.strOk s && decide (PyData.depth (.str s) ≤ 64))) = true
  rw [this]
  rfl
theorem eq_ss {a b : Str} (ha : Asc a) (hb : Asc b) : eqG (.str a) (.str b) = some (.val (.bl (decide (a = b)))) := by
  unfold eqG
  rw [if_pos ⟨asc_ok ha, asc_ok hb⟩]
  rfl
theorem ne_ss {a b : Str} (ha : Asc a) (hb : Asc b) : neG (.str a) (.str b) = some (.val (.bl (!decide (a = b)))) := by
  unfold neG
  rw [if_pos ⟨asc_ok ha, asc_ok hb⟩]
  rfl
theorem eq_ii (a b : Int) : eqG (.int a) (.int b) = some (.val (.bl (decide (a = b)))) := by
  unfold eqG
  rw [if_pos ⟨rfl, rfl⟩]
  rfl
theorem all_true : ∀ n : Nat, allG (.lst (List.replicate n (.bl true))) = some (.val (.bl true)) := by
  intro n
  have : bools (List.replicate n (.bl true)) = some (List.replicate n true) := by
    have := bools_map (List.replicate n true)
    rwa [List.map_replicate] at this
  show (bools _).map _ = _
  rw [this]
  show some (R.val (D.bl ((List.replicate n true).all id))) = _
  congr
  rw [List.all_eq_true]
  intro x hx
  rw [List.eq_of_mem_replicate hx]
  rfl
/-- all([sign in S for sign in w]) -/
theorem all_in {S w : Str} (hw : w.length ≤ 1000) (h : ∀ c ∈ TL.tl w, c ∈ TL.tl S) : callB (c1 allG) [(lcd (itA (var 0)) [1] (gnm 1) (VL.ret true) (op2 inH (var 1) (cst (.str S))))] [.val (.str w), .un] = .ok (.val (.bl true)) [.val (.str w), .un] := by
  obtain ⟨acc, ρ1, e1, x1, rfl, rfl, n1⟩ := comp_all (vs := [1]) (t := gnm 1) (el := op2 inH (var 1) (cst (.str S))) (ds := signsD w) (acc := []) (ρ := [.val (.str w), .un])
    (fun i acc ρ => ∃ x : Sl, acc = List.replicate i (.bl true) ∧ ρ = [.val (.str w), x] ∧ ∀ a, x ≠ .own true a)
    ⟨.un, rfl, rfl, by intro a z; cases z⟩ (by
      rintro i d acc ρ hd ⟨x, rfl, rfl, nx⟩
      unfold signsD at hd
      rw [List.getElem?_map] at hd
      cases q : w.cps.toList[i]? with
      | none => rw [q] at hd; cases hd
      | some c =>
        rw [q] at hd
        have hd : d = .str ⟨#[c]⟩ := (Option.some.inj hd).symm
        subst hd
        have hc : c ∈ S.cps.toList := h c (List.mem_of_getElem? q)
        have ei : inH (.str ⟨#[c]⟩) (.str S) = some (.val (.bl true)) := by
          have : sgnIn false (.str ⟨#[c]⟩) (.str S) = some (.val (.bl (decide (c ∈ S.cps.toList)))) := rfl
          unfold inH
          rw [this, decide_eq_true hc]
          rfl
        refine ⟨.bl true, [.val (.str w), .val (.str ⟨#[c]⟩)], ?_, .val (.str ⟨#[c]⟩), by rw [List.replicate_succ'], rfl, by intro a z; cases z⟩
        cases x with
        | own io a =>
          cases io with
          | true => exact absurd rfl (nx a)
          | false => simp [↓bnd, ↓Res.bind, ↓VL.ret, ↓var, ↓cst, ↓op2, ↓op1, ↓fin2, ↓fin1, ↓toO, ↓toV, ↓rdO, ↓asB, ↓tvl, ↓tru, ↓finT, ↓truthD, ↓tand, ↓tor, ↓tnot, ↓ife, ↓blk, ↓sseq, ↓setS, ↓sto, ↓asg, ↓sexp, ↓sret, ↓sif, ↓evO, ↓evV, ↓rdOs, ↓finN, ↓callB, ↓okLen, ↓tupD, ↓lstD, ↓c1, ↓lenG, ↓asgT, ↓gnm, ↓gseq, ↓gtp, ↓slD, ↓pOpt, ↓finS, ↓metB, ↓chk, ↓tyD, ↓runF, ↓noOwn, ↓finF, ↓proj, ↓ps1, ↓metW, ↓appW, ↓setI, ↓parV, ↓stoL, ↓fjoin, ↓asgStar, ↓starD, ↓chain, ↓andV, ↓orV, ↓notV, ↓igt_ii, ↓ilt_ii, ↓ile_ii, ↓ige_ii, ↓isub_ii, ↓addH_ii, ↓wip, ↓noex, ei]
        | un => simp [↓bnd, ↓Res.bind, ↓VL.ret, ↓var, ↓cst, ↓op2, ↓op1, ↓fin2, ↓fin1, ↓toO, ↓toV, ↓rdO, ↓asB, ↓tvl, ↓tru, ↓finT, ↓truthD, ↓tand, ↓tor, ↓tnot, ↓ife, ↓blk, ↓sseq, ↓setS, ↓sto, ↓asg, ↓sexp, ↓sret, ↓sif, ↓evO, ↓evV, ↓rdOs, ↓finN, ↓callB, ↓okLen, ↓tupD, ↓lstD, ↓c1, ↓lenG, ↓asgT, ↓gnm, ↓gseq, ↓gtp, ↓slD, ↓pOpt, ↓finS, ↓metB, ↓chk, ↓tyD, ↓runF, ↓noOwn, ↓finF, ↓proj, ↓ps1, ↓metW, ↓appW, ↓setI, ↓parV, ↓stoL, ↓fjoin, ↓asgStar, ↓starD, ↓chain, ↓andV, ↓orV, ↓notV, ↓igt_ii, ↓ilt_ii, ↓ile_ii, ↓ige_ii, ↓isub_ii, ↓addH_ii, ↓wip, ↓noex, ei]
        | val v => simp [↓bnd, ↓Res.bind, ↓VL.ret, ↓var, ↓cst, ↓op2, ↓op1, ↓fin2, ↓fin1, ↓toO, ↓toV, ↓rdO, ↓asB, ↓tvl, ↓tru, ↓finT, ↓truthD, ↓tand, ↓tor, ↓tnot, ↓ife, ↓blk, ↓sseq, ↓setS, ↓sto, ↓asg, ↓sexp, ↓sret, ↓sif, ↓evO, ↓evV, ↓rdOs, ↓finN, ↓callB, ↓okLen, ↓tupD, ↓lstD, ↓c1, ↓lenG, ↓asgT, ↓gnm, ↓gseq, ↓gtp, ↓slD, ↓pOpt, ↓finS, ↓metB, ↓chk, ↓tyD, ↓runF, ↓noOwn, ↓finF, ↓proj, ↓ps1, ↓metW, ↓appW, ↓setI, ↓parV, ↓stoL, ↓fjoin, ↓asgStar, ↓starD, ↓chain, ↓andV, ↓orV, ↓notV, ↓igt_ii, ↓ilt_ii, ↓ile_ii, ↓ige_ii, ↓isub_ii, ↓addH_ii, ↓wip, ↓noex, ei])
  have e2 : wip [1] [.val (.str w), x1] = .ok () [.val (.str w), .un] := by
    cases x1 with
    | own io a =>
      cases io with
      | true => exact absurd rfl (n1 a)
      | false => rfl
    | un => rfl
    | val v => rfl
  have ln : (signsD w).length = w.length := by
    unfold signsD
    rw [List.length_map, TL.len_tl]
  have el := fun ρ => lim_ok (n := (signsD w).length) (by rw [ln]; omega) ρ
  have ea := all_true (signsD w).length
  have ei : itA (var 0) [.val (.str w), .un] = .ok (signsD w) [.val (.str w), .un] := rfl
  simp [↓bnd, ↓Res.bind, ↓VL.ret, ↓var, ↓cst, ↓op2, ↓op1, ↓fin2, ↓fin1, ↓toO, ↓toV, ↓rdO, ↓asB, ↓tvl, ↓tru, ↓finT, ↓truthD, ↓tand, ↓tor, ↓tnot, ↓ife, ↓blk, ↓sseq, ↓setS, ↓sto, ↓asg, ↓sexp, ↓sret, ↓sif, ↓evO, ↓evV, ↓rdOs, ↓finN, ↓callB, ↓okLen, ↓tupD, ↓lstD, ↓c1, ↓lenG, ↓asgT, ↓gnm, ↓gseq, ↓gtp, ↓slD, ↓pOpt, ↓finS, ↓metB, ↓chk, ↓tyD, ↓runF, ↓noOwn, ↓finF, ↓proj, ↓ps1, ↓metW, ↓appW, ↓setI, ↓parV, ↓stoL, ↓fjoin, ↓asgStar, ↓starD, ↓chain, ↓andV, ↓orV, ↓notV, ↓igt_ii, ↓ilt_ii, ↓ile_ii, ↓ige_ii, ↓isub_ii, ↓addH_ii, ↓lcd, ↓ei, ↓el, ↓e1, ↓e2, ea]
/-! ### the readers -/
theorem head_ne : ∀ n : Nat, 0 < n → (TL.numL n).head? ≠ some 48 := by
  intro n
  induction n using Nat.strongRecOn with
  | _ n ih =>
    intro h0
    by_cases h : n < 10
    · rw [TL.numL_lt h]
      simp
      omega
    · rw [TL.numL_step (by omega), List.head?_append]
      have := ih (n / 10) (by omega) (by omega)
      have ne := TL.numL_ne (n / 10)
      cases q : TL.numL (n / 10) with
      | nil => exact absurd q ne
      | cons a l =>
        rw [q] at this
        simpa using this
theorem figs : TL.tl ("0123456789" : Str) = [48, 49, 50, 51, 52, 53, 54, 55, 56, 57] := by decide +kernel
theorem fig_mem {c : Nat} (h : 48 ≤ c ∧ c ≤ 57) : c ∈ TL.tl ("0123456789" : Str) := by
  rw [figs]
  have : c = 48 ∨ c = 49 ∨ c = 50 ∨ c = 51 ∨ c = 52 ∨ c = 53 ∨ c = 54 ∨ c = 55 ∨ c = 56 ∨ c = 57 := by omega
  rcases this with rfl | rfl | rfl | rfl | rfl | rfl | rfl | rfl | rfl | rfl <;> simp
theorem num_dig {i : Int} (h : numO i) : ∀ c ∈ TL.tl (num i), c ∈ TL.tl ("0123456789" : Str) := fun c hc => by
  refine fig_mem ?_
  rw [num_tl h] at hc
  exact TL.numL_digits _ c hc
theorem int_num {i : Int} (h : numO i) : intG (.str (num i)) = some (.val (.int i)) := by
  have l := num_len h
  have e : PySem.intText? (num i) = some i := by
    obtain ⟨n, rfl⟩ := Int.eq_ofNat_of_zero_le h.1
    exact TL.int_num (n := n) (Nat.le_trans (TL.numL_len (k := 60) (by decide) (by have := h.2; omega)) (by decide))
  simp only [intG, if_pos (show (num i).length ≤ 640 by omega), e]
  rfl
theorem asc_num {i : Int} (h : numO i) : Asc (num i) := fun c hc => by
  rw [num_tl h] at hc
  have := (TL.numL_digits _ c hc).2
  omega
theorem asc_0 : Asc ("0" : Str) := by
  intro c hc
  have e : TL.tl ("0" : Str) = [48] := rfl
  rw [e, List.mem_singleton] at hc
  omega
theorem number_ok {i : Int} (h : numO i) : m_number_of [.val (.str (num i))] = .ok (.val (.int i)) [.un] := by
  have l := num_len h
  have l1 := num_pos h
  have ea := all_in (S := "0123456789") (w := num i) (by omega) (num_dig h)
  have el : lenG (.str (num i)) = some (.val (.int (num i).length)) := rfl
  have c1' : (1 : Int) ≤ ((num i).length : Int) := by omega
  have c2' : ((num i).length : Int) ≤ 60 := by omega
  have zero : ∃ c, ixG (.str (num i)) (.int 0) = some (.val (.str ⟨#[c]⟩)) ∧ (c = 48 → num i = ("0" : Str)) := by
    cases q : TL.tl (num i) with
    | nil =>
      rw [TL.len_tl, q] at l1
      simp at l1
    | cons c r =>
      refine ⟨c, ?_, fun hc => ?_⟩
      · have : atI (num i).cps.toList 0 = some c := by
          have q' : (num i).cps.toList = c :: r := q
          rw [q']
          unfold atI ixN
          have z : (0 : Int) < ((r.length + 1 : Nat) : Int) := by omega
          simp [z]
        show (atI (num i).cps.toList 0).map _ = _
        rw [this]
        rfl
      · subst hc
        have e := num_tl h
        rw [q] at e
        have z : i.toNat = 0 := by
          rcases Nat.eq_zero_or_pos i.toNat with z | z
          · exact z
          · have := head_ne _ z
            rw [← e] at this
            simp at this
        have zi : i = 0 := by have := h.1; omega
        subst zi
        rfl
  obtain ⟨c, e0, hz⟩ := zero
  have e3 : decide ((⟨#[c]⟩ : Str) = ("0" : Str)) = decide (c = 48) := by
    by_cases hc : c = 48
    · subst hc
      rfl
    · rw [decide_eq_false hc, decide_eq_false]
      intro z
      apply hc
      have e1 : TL.tl (⟨#[c]⟩ : Str) = TL.tl ("0" : Str) := congrArg TL.tl z
      have e2 : TL.tl (⟨#[c]⟩ : Str) = [c] := rfl
      have e3 : TL.tl ("0" : Str) = [48] := rfl
      rw [e2, e3] at e1
      exact (List.cons.inj e1).1
  refine run_of (ρ0 := [.val (.str (num i)), .un]) (r := .val (.int i)) (ρ' := [.val (.str (num i)), .un]) ⟨rfl, rfl⟩ rfl ?_ rfl
  unfold b_number_of
  refine (ev_cons (ρ1 := [.val (.str (num i)), .un]) ?_).trans ?_
  · simp [↓bnd, ↓Res.bind, ↓VL.ret, ↓var, ↓cst, ↓op2, ↓op1, ↓fin2, ↓fin1, ↓toO, ↓toV, ↓rdO, ↓asB, ↓tvl, ↓tru, ↓finT, ↓truthD, ↓tand, ↓tor, ↓tnot, ↓ife, ↓blk, ↓sseq, ↓setS, ↓sto, ↓asg, ↓sexp, ↓sret, ↓sif, ↓evO, ↓evV, ↓rdOs, ↓finN, ↓callB, ↓okLen, ↓tupD, ↓lstD, ↓c1, ↓lenG, ↓asgT, ↓gnm, ↓gseq, ↓gtp, ↓slD, ↓pOpt, ↓finS, ↓metB, ↓chk, ↓tyD, ↓runF, ↓noOwn, ↓finF, ↓proj, ↓ps1, ↓metW, ↓appW, ↓setI, ↓parV, ↓stoL, ↓fjoin, ↓asgStar, ↓starD, ↓chain, ↓andV, ↓orV, ↓notV, ↓igt_ii, ↓ilt_ii, ↓ile_ii, ↓ige_ii, ↓isub_ii, ↓addH_ii, ↓ea, el, c1', c2']
  · rw [ev_one]
    have q2 := ne_ss (asc_num h) asc_0
    by_cases hc : c = 48
    · have h0 := hz hc
      subst hc
      have q1 : eqG (.str ⟨#[48]⟩) (.str "0") = some (.val (.bl true)) := by
        have := eq_ss asc_0 asc_0
        rw [decide_eq_true rfl] at this
        exact this
      rw [decide_eq_true h0] at q2
      simp [↓bnd, ↓Res.bind, ↓VL.ret, ↓var, ↓cst, ↓op2, ↓op1, ↓fin2, ↓fin1, ↓toO, ↓toV, ↓rdO, ↓asB, ↓tvl, ↓tru, ↓finT, ↓truthD, ↓tand, ↓tor, ↓tnot, ↓ife, ↓blk, ↓sseq, ↓setS, ↓sto, ↓asg, ↓sexp, ↓sret, ↓sif, ↓evO, ↓evV, ↓rdOs, ↓finN, ↓callB, ↓okLen, ↓tupD, ↓lstD, ↓c1, ↓lenG, ↓asgT, ↓gnm, ↓gseq, ↓gtp, ↓slD, ↓pOpt, ↓finS, ↓metB, ↓chk, ↓tyD, ↓runF, ↓noOwn, ↓finF, ↓proj, ↓ps1, ↓metW, ↓appW, ↓setI, ↓parV, ↓stoL, ↓fjoin, ↓asgStar, ↓starD, ↓chain, ↓andV, ↓orV, ↓notV, ↓igt_ii, ↓ilt_ii, ↓ile_ii, ↓ige_ii, ↓isub_ii, ↓addH_ii, e0, q1, q2, int_num h]
    · have hc2 : c < 128 := by
        have : c ∈ TL.tl (num i) := by
          have : (atI (num i).cps.toList 0).map (fun c => R.val (D.str ⟨#[c]⟩)) = some (.val (.str ⟨#[c]⟩)) := e0
          cases q : atI (num i).cps.toList 0 with
          | none => rw [q] at this; cases this
          | some c' =>
            rw [q] at this
            have e : c' = c := by
              have := Option.some.inj this
              injection this with this
              injection this with this
              injection this with this
              simpa using this
            subst e
            unfold atI at q
            cases q2 : ixN (num i).cps.toList.length 0 with
            | none => rw [q2] at q; cases q
            | some j => rw [q2] at q; exact List.mem_of_getElem? q
        exact asc_num h c this
      have q1 := eq_ss (a := ⟨#[c]⟩) (b := "0") (by intro z hz2; have : z = c := by simpa [TL.tl] using hz2
                                                    omega) asc_0
      rw [e3, decide_eq_false hc] at q1
      simp [↓bnd, ↓Res.bind, ↓VL.ret, ↓var, ↓cst, ↓op2, ↓op1, ↓fin2, ↓fin1, ↓toO, ↓toV, ↓rdO, ↓asB, ↓tvl, ↓tru, ↓finT, ↓truthD, ↓tand, ↓tor, ↓tnot, ↓ife, ↓blk, ↓sseq, ↓setS, ↓sto, ↓asg, ↓sexp, ↓sret, ↓sif, ↓evO, ↓evV, ↓rdOs, ↓finN, ↓callB, ↓okLen, ↓tupD, ↓lstD, ↓c1, ↓lenG, ↓asgT, ↓gnm, ↓gseq, ↓gtp, ↓slD, ↓pOpt, ↓finS, ↓metB, ↓chk, ↓tyD, ↓runF, ↓noOwn, ↓finF, ↓proj, ↓ps1, ↓metW, ↓appW, ↓setI, ↓parV, ↓stoL, ↓fjoin, ↓asgStar, ↓starD, ↓chain, ↓andV, ↓orV, ↓notV, ↓igt_ii, ↓ilt_ii, ↓ile_ii, ↓ige_ii, ↓isub_ii, ↓addH_ii, e0, q1, int_num h]
end L81

set_option maxRecDepth 100000
namespace L81
open PySem L2 VL
theorem call_number {ρ : En} {fe : M R} {i : Int} (h : numO i) (hf : fe ρ = .ok (.val (.str (num i))) ρ) : callM m_number_of [.e fe] ρ = .ok (.val (.int i)) ρ := by
  simp [bnd, Res.bind, VL.ret, var, cst, op2, op1, fin2, fin1, toO, toV, rdO, asB, tvl, tru, finT, truthD, tand, tor, tnot, ife, blk, sseq, setS, sto, asg, sexp, sret, sif, evO, evV, rdOs, finN, callB, okLen, tupD, lstD, c1, lenG, asgT, gnm, gseq, gtp, slD, pOpt, finS, metB, chk, tyD, evA, mkE, finC, callM, lentOf, wbk, wb1, runF, noOwn, finF, proj, ps1, metW, appW, setI, parV, stoL, fjoin, asgStar, starD, chain, andV, orV, notV, igt_ii, ilt_ii, ile_ii, ige_ii, isub_ii, addH_ii, hf, number_ok h]
theorem part_stx {f o : Int} (h : stO f o) : partG [.str (stx f o), .str "+"] = some (.val (.tup [.str (num f), .str "+", .str (num o)])) := by
  have e : Txt.partition (stx f o) "+" = (num f, ("+" : Str), num o) := TL.partition_app (y := "+") (s := 43) (S := []) tl_plus (free_num (numO_f h) (by decide))
  have l1 := num_len (numO_f h)
  have l2 := num_len (numO_o h)
  simp only [partG, e]
  refine if_pos ⟨by decide, Nat.le_trans l1 (by decide), by decide, Nat.le_trans l2 (by decide)⟩
theorem stretch_of_ok {f o : Int} (h : stO f o) : m_stretch_of [.val (.str (stx f o))] = .ok (.val (st f o)) [.un] := by
  have pt := part_stx h
  have e1 := call_number (ρ := [.val (.str (stx f o)), .val (.str (num f)), .val (.str "+"), .val (.str (num o)), .un]) (fe := var 1) (numO_f h) rfl
  have e2 := call_number (ρ := [.val (.str (stx f o)), .val (.str (num f)), .val (.str "+"), .val (.str (num o)), .un]) (fe := var 3) (numO_o h) rfl
  have i1 : ixG (.tup [.int f, .int o]) (.int 1) = some (.val (.int o)) := rfl
  have ni : inH .non (.tup [.int f, .int o]) = some (.val (.bl false)) := rfl
  have o1 : ¬ o = 0 := by have := h.2.2.1; omega
  refine run_of (ρ0 := [.val (.str (stx f o)), .un, .un, .un, .un]) (r := .val (st f o)) (ρ' := [.val (.str (stx f o)), .val (.str (num f)), .val (.str "+"), .val (.str (num o)), .val (st f o)]) ⟨rfl, rfl⟩ rfl ?_ rfl
  unfold b_stretch_of
  refine (ev_cons (ρ1 := [.val (.str (stx f o)), .val (.str (num f)), .val (.str "+"), .val (.str (num o)), .un]) ?_).trans ((ev_cons (ρ1 := [.val (.str (stx f o)), .val (.str (num f)), .val (.str "+"), .val (.str (num o)), .val (st f o)]) ?_).trans ?_)
  · simp [↓bnd, ↓Res.bind, ↓VL.ret, ↓var, ↓cst, ↓op2, ↓op1, ↓fin2, ↓fin1, ↓toO, ↓toV, ↓rdO, ↓asB, ↓tvl, ↓tru, ↓finT, ↓truthD, ↓tand, ↓tor, ↓tnot, ↓ife, ↓blk, ↓sseq, ↓setS, ↓sto, ↓asg, ↓sexp, ↓sret, ↓sif, ↓evO, ↓evV, ↓rdOs, ↓finN, ↓callB, ↓okLen, ↓tupD, ↓lstD, ↓c1, ↓lenG, ↓asgT, ↓gnm, ↓gseq, ↓gtp, ↓slD, ↓pOpt, ↓finS, ↓metB, ↓chk, ↓tyD, ↓runF, ↓noOwn, ↓finF, ↓proj, ↓ps1, ↓metW, ↓appW, ↓setI, ↓parV, ↓stoL, ↓fjoin, ↓asgStar, ↓starD, ↓chain, ↓andV, ↓orV, ↓notV, ↓igt_ii, ↓ilt_ii, ↓ile_ii, ↓ige_ii, ↓isub_ii, ↓addH_ii, pt]
  · simp [↓bnd, ↓Res.bind, ↓VL.ret, ↓var, ↓cst, ↓op2, ↓op1, ↓fin2, ↓fin1, ↓toO, ↓toV, ↓rdO, ↓asB, ↓tvl, ↓tru, ↓finT, ↓truthD, ↓tand, ↓tor, ↓tnot, ↓ife, ↓blk, ↓sseq, ↓setS, ↓sto, ↓asg, ↓sexp, ↓sret, ↓sif, ↓evO, ↓evV, ↓rdOs, ↓finN, ↓callB, ↓okLen, ↓tupD, ↓lstD, ↓c1, ↓lenG, ↓asgT, ↓gnm, ↓gseq, ↓gtp, ↓slD, ↓pOpt, ↓finS, ↓metB, ↓chk, ↓tyD, ↓runF, ↓noOwn, ↓finF, ↓proj, ↓ps1, ↓metW, ↓appW, ↓setI, ↓parV, ↓stoL, ↓fjoin, ↓asgStar, ↓starD, ↓chain, ↓andV, ↓orV, ↓notV, ↓igt_ii, ↓ilt_ii, ↓ile_ii, ↓ige_ii, ↓isub_ii, ↓addH_ii, ↓e1, ↓e2, st]
  · rw [ev_one]
    simp [↓bnd, ↓Res.bind, ↓VL.ret, ↓var, ↓cst, ↓op2, ↓op1, ↓fin2, ↓fin1, ↓toO, ↓toV, ↓rdO, ↓asB, ↓tvl, ↓tru, ↓finT, ↓truthD, ↓tand, ↓tor, ↓tnot, ↓ife, ↓blk, ↓sseq, ↓setS, ↓sto, ↓asg, ↓sexp, ↓sret, ↓sif, ↓evO, ↓evV, ↓rdOs, ↓finN, ↓callB, ↓okLen, ↓tupD, ↓lstD, ↓c1, ↓lenG, ↓asgT, ↓gnm, ↓gseq, ↓gtp, ↓slD, ↓pOpt, ↓finS, ↓metB, ↓chk, ↓tyD, ↓runF, ↓noOwn, ↓finF, ↓proj, ↓ps1, ↓metW, ↓appW, ↓setI, ↓parV, ↓stoL, ↓fjoin, ↓asgStar, ↓starD, ↓chain, ↓andV, ↓orV, ↓notV, ↓igt_ii, ↓ilt_ii, ↓ile_ii, ↓ige_ii, ↓isub_ii, ↓addH_ii, st, ni, i1, eq_ii, o1]
theorem whole_ok (n : Int) : m_is_whole [.val (.int n)] = .ok (.val (.bl true)) [.un] := by
  have i1 : isiD "int" (.int n) = some (.val (.bl true)) := rfl
  have i2 : isiD "bool" (.int n) = some (.val (.bl false)) := rfl
  refine run_of (ρ0 := [.val (.int n)]) (r := .val (.bl true)) (ρ' := [.val (.int n)]) ⟨rfl, rfl⟩ rfl ?_ rfl
  unfold b_is_whole
  simp [↓bnd, ↓Res.bind, ↓VL.ret, ↓var, ↓cst, ↓op2, ↓op1, ↓fin2, ↓fin1, ↓toO, ↓toV, ↓rdO, ↓asB, ↓tvl, ↓tru, ↓finT, ↓truthD, ↓tand, ↓tor, ↓tnot, ↓ife, ↓blk, ↓sseq, ↓setS, ↓sto, ↓asg, ↓sexp, ↓sret, ↓sif, ↓evO, ↓evV, ↓rdOs, ↓finN, ↓callB, ↓okLen, ↓tupD, ↓lstD, ↓c1, ↓lenG, ↓asgT, ↓gnm, ↓gseq, ↓gtp, ↓slD, ↓pOpt, ↓finS, ↓metB, ↓chk, ↓tyD, ↓runF, ↓noOwn, ↓finF, ↓proj, ↓ps1, ↓metW, ↓appW, ↓setI, ↓parV, ↓stoL, ↓fjoin, ↓asgStar, ↓starD, ↓chain, ↓andV, ↓orV, ↓notV, ↓igt_ii, ↓ilt_ii, ↓ile_ii, ↓ige_ii, ↓isub_ii, ↓addH_ii, i1, i2]
theorem between_ok (n lo hi : Int) : m_is_between [.val (.int n), .val (.int lo), .val (.int hi)] = .ok (.val (.bl (decide (lo ≤ n) && decide (n ≤ hi)))) [.un, .un, .un] := by
  have e : callM m_is_whole [.e (var 0)] [.val (.int n), .val (.int lo), .val (.int hi)] = .ok (.val (.bl true)) [.val (.int n), .val (.int lo), .val (.int hi)] := by
    simp [bnd, Res.bind, VL.ret, var, cst, op2, op1, fin2, fin1, toO, toV, rdO, asB, tvl, tru, finT, truthD, tand, tor, tnot, ife, blk, sseq, setS, sto, asg, sexp, sret, sif, evO, evV, rdOs, finN, callB, okLen, tupD, lstD, c1, lenG, asgT, gnm, gseq, gtp, slD, pOpt, finS, metB, chk, tyD, evA, mkE, finC, callM, lentOf, wbk, wb1, runF, noOwn, finF, proj, ps1, metW, appW, setI, parV, stoL, fjoin, asgStar, starD, chain, andV, orV, notV, igt_ii, ilt_ii, ile_ii, ige_ii, isub_ii, addH_ii, whole_ok]
  refine run_of (ρ0 := [.val (.int n), .val (.int lo), .val (.int hi)]) (r := .val (.bl (decide (lo ≤ n) && decide (n ≤ hi)))) (ρ' := [.val (.int n), .val (.int lo), .val (.int hi)]) ⟨rfl, rfl⟩ rfl ?_ rfl
  unfold b_is_between
  by_cases h : lo ≤ n
  · simp [↓bnd, ↓Res.bind, ↓VL.ret, ↓var, ↓cst, ↓op2, ↓op1, ↓fin2, ↓fin1, ↓toO, ↓toV, ↓rdO, ↓asB, ↓tvl, ↓tru, ↓finT, ↓truthD, ↓tand, ↓tor, ↓tnot, ↓ife, ↓blk, ↓sseq, ↓setS, ↓sto, ↓asg, ↓sexp, ↓sret, ↓sif, ↓evO, ↓evV, ↓rdOs, ↓finN, ↓callB, ↓okLen, ↓tupD, ↓lstD, ↓c1, ↓lenG, ↓asgT, ↓gnm, ↓gseq, ↓gtp, ↓slD, ↓pOpt, ↓finS, ↓metB, ↓chk, ↓tyD, ↓runF, ↓noOwn, ↓finF, ↓proj, ↓ps1, ↓metW, ↓appW, ↓setI, ↓parV, ↓stoL, ↓fjoin, ↓asgStar, ↓starD, ↓chain, ↓andV, ↓orV, ↓notV, ↓igt_ii, ↓ilt_ii, ↓ile_ii, ↓ige_ii, ↓isub_ii, ↓addH_ii, ↓e, h]
  · simp [↓bnd, ↓Res.bind, ↓VL.ret, ↓var, ↓cst, ↓op2, ↓op1, ↓fin2, ↓fin1, ↓toO, ↓toV, ↓rdO, ↓asB, ↓tvl, ↓tru, ↓finT, ↓truthD, ↓tand, ↓tor, ↓tnot, ↓ife, ↓blk, ↓sseq, ↓setS, ↓sto, ↓asg, ↓sexp, ↓sret, ↓sif, ↓evO, ↓evV, ↓rdOs, ↓finN, ↓callB, ↓okLen, ↓tupD, ↓lstD, ↓c1, ↓lenG, ↓asgT, ↓gnm, ↓gseq, ↓gtp, ↓slD, ↓pOpt, ↓finS, ↓metB, ↓chk, ↓tyD, ↓runF, ↓noOwn, ↓finF, ↓proj, ↓ps1, ↓metW, ↓appW, ↓setI, ↓parV, ↓stoL, ↓fjoin, ↓asgStar, ↓starD, ↓chain, ↓andV, ↓orV, ↓notV, ↓igt_ii, ↓ilt_ii, ↓ile_ii, ↓ige_ii, ↓isub_ii, ↓addH_ii, ↓e, h]
theorem day_ok {n : Int} (h : dayO n) : m_is_day [.val (.int n)] = .ok (.val (.bl true)) [.un] := by
  have h1 := h.1
  have h2 : n ≤ 1000000000000000000000000000000 := by have := h.2; omega
  have e : callM m_is_between [.e (var 0), .e (cst (.int 0)), .e (cst (.int 1000000000000000000000000000000))] [.val (.int n)] = .ok (.val (.bl true)) [.val (.int n)] := by
    have := between_ok n 0 1000000000000000000000000000000
    simp [bnd, Res.bind, VL.ret, var, cst, op2, op1, fin2, fin1, toO, toV, rdO, asB, tvl, tru, finT, truthD, tand, tor, tnot, ife, blk, sseq, setS, sto, asg, sexp, sret, sif, evO, evV, rdOs, finN, callB, okLen, tupD, lstD, c1, lenG, asgT, gnm, gseq, gtp, slD, pOpt, finS, metB, chk, tyD, evA, mkE, finC, callM, lentOf, wbk, wb1, runF, noOwn, finF, proj, ps1, metW, appW, setI, parV, stoL, fjoin, asgStar, starD, chain, andV, orV, notV, igt_ii, ilt_ii, ile_ii, ige_ii, isub_ii, addH_ii, this, h1, h2]
  refine run_of (ρ0 := [.val (.int n)]) (r := .val (.bl true)) (ρ' := [.val (.int n)]) ⟨rfl, rfl⟩ rfl ?_ rfl
  unfold b_is_day
  simp [↓bnd, ↓Res.bind, ↓VL.ret, ↓var, ↓cst, ↓op2, ↓op1, ↓fin2, ↓fin1, ↓toO, ↓toV, ↓rdO, ↓asB, ↓tvl, ↓tru, ↓finT, ↓truthD, ↓tand, ↓tor, ↓tnot, ↓ife, ↓blk, ↓sseq, ↓setS, ↓sto, ↓asg, ↓sexp, ↓sret, ↓sif, ↓evO, ↓evV, ↓rdOs, ↓finN, ↓callB, ↓okLen, ↓tupD, ↓lstD, ↓c1, ↓lenG, ↓asgT, ↓gnm, ↓gseq, ↓gtp, ↓slD, ↓pOpt, ↓finS, ↓metB, ↓chk, ↓tyD, ↓runF, ↓noOwn, ↓finF, ↓proj, ↓ps1, ↓metW, ↓appW, ↓setI, ↓parV, ↓stoL, ↓fjoin, ↓asgStar, ↓starD, ↓chain, ↓andV, ↓orV, ↓notV, ↓igt_ii, ↓ilt_ii, ↓ile_ii, ↓ige_ii, ↓isub_ii, ↓addH_ii, ↓e]
theorem day_of_ok {n : Int} (h : dayO n) : m_day_of [.val (.str (num n))] = .ok (.val (.int n)) [.un] := by
  have e1 := call_number (ρ := [.val (.str (num n)), .un]) (fe := var 0) (numO_day h) rfl
  have e2 : callM m_is_day [.e (var 1)] [.val (.str (num n)), .val (.int n)] = .ok (.val (.bl true)) [.val (.str (num n)), .val (.int n)] := by
    simp [bnd, Res.bind, VL.ret, var, cst, op2, op1, fin2, fin1, toO, toV, rdO, asB, tvl, tru, finT, truthD, tand, tor, tnot, ife, blk, sseq, setS, sto, asg, sexp, sret, sif, evO, evV, rdOs, finN, callB, okLen, tupD, lstD, c1, lenG, asgT, gnm, gseq, gtp, slD, pOpt, finS, metB, chk, tyD, evA, mkE, finC, callM, lentOf, wbk, wb1, runF, noOwn, finF, proj, ps1, metW, appW, setI, parV, stoL, fjoin, asgStar, starD, chain, andV, orV, notV, igt_ii, ilt_ii, ile_ii, ige_ii, isub_ii, addH_ii, day_ok h]
  refine run_of (ρ0 := [.val (.str (num n)), .un]) (r := .val (.int n)) (ρ' := [.val (.str (num n)), .val (.int n)]) ⟨rfl, rfl⟩ rfl ?_ rfl
  unfold b_day_of
  refine (ev_cons (ρ1 := [.val (.str (num n)), .val (.int n)]) ?_).trans ?_
  · simp [↓bnd, ↓Res.bind, ↓VL.ret, ↓var, ↓cst, ↓op2, ↓op1, ↓fin2, ↓fin1, ↓toO, ↓toV, ↓rdO, ↓asB, ↓tvl, ↓tru, ↓finT, ↓truthD, ↓tand, ↓tor, ↓tnot, ↓ife, ↓blk, ↓sseq, ↓setS, ↓sto, ↓asg, ↓sexp, ↓sret, ↓sif, ↓evO, ↓evV, ↓rdOs, ↓finN, ↓callB, ↓okLen, ↓tupD, ↓lstD, ↓c1, ↓lenG, ↓asgT, ↓gnm, ↓gseq, ↓gtp, ↓slD, ↓pOpt, ↓finS, ↓metB, ↓chk, ↓tyD, ↓runF, ↓noOwn, ↓finF, ↓proj, ↓ps1, ↓metW, ↓appW, ↓setI, ↓parV, ↓stoL, ↓fjoin, ↓asgStar, ↓starD, ↓chain, ↓andV, ↓orV, ↓notV, ↓igt_ii, ↓ilt_ii, ↓ile_ii, ↓ige_ii, ↓isub_ii, ↓addH_ii, ↓e1]
  · rw [ev_one]
    simp [↓bnd, ↓Res.bind, ↓VL.ret, ↓var, ↓cst, ↓op2, ↓op1, ↓fin2, ↓fin1, ↓toO, ↓toV, ↓rdO, ↓asB, ↓tvl, ↓tru, ↓finT, ↓truthD, ↓tand, ↓tor, ↓tnot, ↓ife, ↓blk, ↓sseq, ↓setS, ↓sto, ↓asg, ↓sexp, ↓sret, ↓sif, ↓evO, ↓evV, ↓rdOs, ↓finN, ↓callB, ↓okLen, ↓tupD, ↓lstD, ↓c1, ↓lenG, ↓asgT, ↓gnm, ↓gseq, ↓gtp, ↓slD, ↓pOpt, ↓finS, ↓metB, ↓chk, ↓tyD, ↓runF, ↓noOwn, ↓finF, ↓proj, ↓ps1, ↓metW, ↓appW, ↓setI, ↓parV, ↓stoL, ↓fjoin, ↓asgStar, ↓starD, ↓chain, ↓andV, ↓orV, ↓notV, ↓igt_ii, ↓ilt_ii, ↓ile_ii, ↓ige_ii, ↓isub_ii, ↓addH_ii, ↓e2]
theorem lets : TL.tl ("abcdefghijklmnopqrstuvwxyz" : Str) = (List.range 26).map (97 + ·) := by decide +kernel
theorem let_mem {c : Nat} (h : Let c) : c ∈ TL.tl ("abcdefghijklmnopqrstuvwxyz" : Str) := by
  rw [lets, List.mem_map]
  exact ⟨c - 97, List.mem_range.mpr (by have := h.1; have := h.2; omega), by have := h.1; omega⟩
theorem is_hand_ok {t : Str} (h : handO t) : m_is_hand [.val (.str t)] = .ok (.val (.bl true)) [.un] := by
  have ea := all_in (S := "abcdefghijklmnopqrstuvwxyz") (w := t) (by have := h.2.1; omega) (fun c hc => let_mem (h.2.2 c hc))
  have i1 : isiD "str" (.str t) = some (.val (.bl true)) := rfl
  have el : lenG (.str t) = some (.val (.int t.length)) := rfl
  have c1' : (1 : Int) ≤ (t.length : Int) := by have := h.1; omega
  have c2' : (t.length : Int) ≤ 8 := by have := h.2.1; omega
  refine run_of (ρ0 := [.val (.str t), .un]) (r := .val (.bl true)) (ρ' := [.val (.str t), .un]) ⟨rfl, rfl⟩ rfl ?_ rfl
  unfold b_is_hand
  refine (ev_cons (ρ1 := [.val (.str t), .un]) ?_).trans ?_
  · simp [↓bnd, ↓Res.bind, ↓VL.ret, ↓var, ↓cst, ↓op2, ↓op1, ↓fin2, ↓fin1, ↓toO, ↓toV, ↓rdO, ↓asB, ↓tvl, ↓tru, ↓finT, ↓truthD, ↓tand, ↓tor, ↓tnot, ↓ife, ↓blk, ↓sseq, ↓setS, ↓sto, ↓asg, ↓sexp, ↓sret, ↓sif, ↓evO, ↓evV, ↓rdOs, ↓finN, ↓callB, ↓okLen, ↓tupD, ↓lstD, ↓c1, ↓lenG, ↓asgT, ↓gnm, ↓gseq, ↓gtp, ↓slD, ↓pOpt, ↓finS, ↓metB, ↓chk, ↓tyD, ↓runF, ↓noOwn, ↓finF, ↓proj, ↓ps1, ↓metW, ↓appW, ↓setI, ↓parV, ↓stoL, ↓fjoin, ↓asgStar, ↓starD, ↓chain, ↓andV, ↓orV, ↓notV, ↓igt_ii, ↓ilt_ii, ↓ile_ii, ↓ige_ii, ↓isub_ii, ↓addH_ii, i1, el, c1', c2']
  · rw [ev_one]
    simp [↓bnd, ↓Res.bind, ↓VL.ret, ↓var, ↓cst, ↓op2, ↓op1, ↓fin2, ↓fin1, ↓toO, ↓toV, ↓rdO, ↓asB, ↓tvl, ↓tru, ↓finT, ↓truthD, ↓tand, ↓tor, ↓tnot, ↓ife, ↓blk, ↓sseq, ↓setS, ↓sto, ↓asg, ↓sexp, ↓sret, ↓sif, ↓evO, ↓evV, ↓rdOs, ↓finN, ↓callB, ↓okLen, ↓tupD, ↓lstD, ↓c1, ↓lenG, ↓asgT, ↓gnm, ↓gseq, ↓gtp, ↓slD, ↓pOpt, ↓finS, ↓metB, ↓chk, ↓tyD, ↓runF, ↓noOwn, ↓finF, ↓proj, ↓ps1, ↓metW, ↓appW, ↓setI, ↓parV, ↓stoL, ↓fjoin, ↓asgStar, ↓starD, ↓chain, ↓andV, ↓orV, ↓notV, ↓igt_ii, ↓ilt_ii, ↓ile_ii, ↓ige_ii, ↓isub_ii, ↓addH_ii, ↓ea]
theorem hand_of_ok {t : Str} (h : handO t) : m_hand_of [.val (.str t)] = .ok (.val (.str t)) [.un] := by
  have e1 : callM m_is_hand [.e (var 0)] [.val (.str t)] = .ok (.val (.bl true)) [.val (.str t)] := by
    simp [bnd, Res.bind, VL.ret, var, cst, op2, op1, fin2, fin1, toO, toV, rdO, asB, tvl, tru, finT, truthD, tand, tor, tnot, ife, blk, sseq, setS, sto, asg, sexp, sret, sif, evO, evV, rdOs, finN, callB, okLen, tupD, lstD, c1, lenG, asgT, gnm, gseq, gtp, slD, pOpt, finS, metB, chk, tyD, evA, mkE, finC, callM, lentOf, wbk, wb1, runF, noOwn, finF, proj, ps1, metW, appW, setI, parV, stoL, fjoin, asgStar, starD, chain, andV, orV, notV, igt_ii, ilt_ii, ile_ii, ige_ii, isub_ii, addH_ii, is_hand_ok h]
  refine run_of (ρ0 := [.val (.str t)]) (r := .val (.str t)) (ρ' := [.val (.str t)]) ⟨rfl, rfl⟩ rfl ?_ rfl
  unfold b_hand_of
  simp [↓bnd, ↓Res.bind, ↓VL.ret, ↓var, ↓cst, ↓op2, ↓op1, ↓fin2, ↓fin1, ↓toO, ↓toV, ↓rdO, ↓asB, ↓tvl, ↓tru, ↓finT, ↓truthD, ↓tand, ↓tor, ↓tnot, ↓ife, ↓blk, ↓sseq, ↓setS, ↓sto, ↓asg, ↓sexp, ↓sret, ↓sif, ↓evO, ↓evV, ↓rdOs, ↓finN, ↓callB, ↓okLen, ↓tupD, ↓lstD, ↓c1, ↓lenG, ↓asgT, ↓gnm, ↓gseq, ↓gtp, ↓slD, ↓pOpt, ↓finS, ↓metB, ↓chk, ↓tyD, ↓runF, ↓noOwn, ↓finF, ↓proj, ↓ps1, ↓metW, ↓appW, ↓setI, ↓parV, ↓stoL, ↓fjoin, ↓asgStar, ↓starD, ↓chain, ↓andV, ↓orV, ↓notV, ↓igt_ii, ↓ilt_ii, ↓ile_ii, ↓ige_ii, ↓isub_ii, ↓addH_ii, ↓e1]
/-! ### the words of a text -/
theorem tl_sp : TL.tl (" " : Str) = [32] := rfl
theorem joinL_mem {S : List Nat} {c : Nat} : ∀ {ls : List (List Nat)}, c ∈ TL.joinL S ls → c ∈ S ∨ ∃ l ∈ ls, c ∈ l
  | [], h => by simp [TL.joinL] at h
  | [p], h => .inr ⟨p, List.mem_singleton_self _, by simpa [TL.joinL] using h⟩
  | p :: q :: r, h => by
    rw [TL.joinL] at h
    rcases List.mem_append.mp h with z | z
    · exact .inr ⟨p, List.mem_cons_self .., z⟩
    · rcases List.mem_append.mp z with z | z
      · exact .inl z
      · rcases joinL_mem z with y | ⟨l, hl, y⟩
        · exact .inl y
        · exact .inr ⟨l, List.mem_cons_of_mem _ hl, y⟩
theorem words_ok {ys : List Str} (hne : ys ≠ []) (h : ∀ y ∈ ys, WordO y) (ha : ∀ y ∈ ys, Asc y) (hl : ys.length ≤ 100) (h0 : 1 ≤ (Txt.join (" " : Str) ys).length) : m_words_of [.val (.str (Txt.join (" " : Str) ys))] = .ok (.fresh (ys.map D.str)) [.un] := by
  have sp : Txt.split (Txt.join (" " : Str) ys) " " = ys := TL.split_join (y := " ") (s := 32) (S := []) tl_sp (by decide +kernel) hne fun y hy => (h y hy).2
  have ln : (Txt.join (" " : Str) ys).length ≤ 13000 := by
    have s := sum_le h
    rw [TL.len_tl, TL.join_eq, TL.tl_join]
    have a := joinL_len (TL.tl (" " : Str)) (ys.map TL.tl)
    have e1 : (ys.map TL.tl).map List.length = ys.map (·.length) := by
      rw [List.map_map]
      exact List.map_congr_left fun y _ => (TL.len_tl y).symm
    have e2 : (TL.tl (" " : Str)).length = 1 := rfl
    rw [e1, e2, List.length_map] at a
    omega
  have asc : Asc (Txt.join (" " : Str) ys) := fun c hc => by
    rw [TL.join_eq, TL.tl_join] at hc
    rcases joinL_mem hc with z | ⟨l, hl, z⟩
    · rw [tl_sp, List.mem_singleton] at z
      omega
    · obtain ⟨y, hy, rfl⟩ := List.mem_map.mp hl
      exact ha y hy c z
  have e1 : splitG [.str (Txt.join (" " : Str) ys), .str " "] = some (.fresh (ys.map D.str)) := by
    simp only [splitG, sp]
    refine if_pos ⟨by decide, Nat.le_trans (Nat.add_le_add_right ln 2) (by decide), ?_⟩
    rw [List.all_eq_true]
    intro y hy
    exact decide_eq_true (Nat.le_trans (h y hy).1 (by decide))
  generalize Txt.join (" " : Str) ys = t at *
  have ne : ¬ t = ("" : Str) := fun z => by
    rw [z] at h0
    exact absurd h0 (by decide)
  have e2 := ne_ss asc (b := "") (by intro c hc; cases hc)
  rw [decide_eq_false ne] at e2
  have i1 : isiD "str" (.str t) = some (.val (.bl true)) := rfl
  refine run_of (ρ0 := [.val (.str t)]) (r := .fresh (ys.map D.str)) (ρ' := [.val (.str t)]) ⟨rfl, rfl⟩ rfl ?_ rfl
  unfold b_words_of
  refine (ev_cons (ρ1 := [.val (.str t)]) ?_).trans ?_
  · simp [↓bnd, ↓Res.bind, ↓VL.ret, ↓var, ↓cst, ↓op2, ↓op1, ↓fin2, ↓fin1, ↓toO, ↓toV, ↓rdO, ↓asB, ↓tvl, ↓tru, ↓finT, ↓truthD, ↓tand, ↓tor, ↓tnot, ↓ife, ↓blk, ↓sseq, ↓setS, ↓sto, ↓asg, ↓sexp, ↓sret, ↓sif, ↓evO, ↓evV, ↓rdOs, ↓finN, ↓callB, ↓okLen, ↓tupD, ↓lstD, ↓c1, ↓lenG, ↓asgT, ↓gnm, ↓gseq, ↓gtp, ↓slD, ↓pOpt, ↓finS, ↓metB, ↓chk, ↓tyD, ↓runF, ↓noOwn, ↓finF, ↓proj, ↓ps1, ↓metW, ↓appW, ↓setI, ↓parV, ↓stoL, ↓fjoin, ↓asgStar, ↓starD, ↓chain, ↓andV, ↓orV, ↓notV, ↓igt_ii, ↓ilt_ii, ↓ile_ii, ↓ige_ii, ↓isub_ii, ↓addH_ii, i1]
  · rw [ev_one]
    generalize ys.map D.str = els at e1 ⊢
    simp [↓bnd, ↓Res.bind, ↓VL.ret, ↓var, ↓cst, ↓op2, ↓op1, ↓fin2, ↓fin1, ↓toO, ↓toV, ↓rdO, ↓asB, ↓tvl, ↓tru, ↓finT, ↓truthD, ↓tand, ↓tor, ↓tnot, ↓ife, ↓blk, ↓sseq, ↓setS, ↓sto, ↓asg, ↓sexp, ↓sret, ↓sif, ↓evO, ↓evV, ↓rdOs, ↓finN, ↓callB, ↓okLen, ↓tupD, ↓lstD, ↓c1, ↓lenG, ↓asgT, ↓gnm, ↓gseq, ↓gtp, ↓slD, ↓pOpt, ↓finS, ↓metB, ↓chk, ↓tyD, ↓runF, ↓noOwn, ↓finF, ↓proj, ↓ps1, ↓metW, ↓appW, ↓setI, ↓parV, ↓stoL, ↓fjoin, ↓asgStar, ↓starD, ↓chain, ↓andV, ↓orV, ↓notV, ↓igt_ii, ↓ilt_ii, ↓ile_ii, ↓ige_ii, ↓isub_ii, ↓addH_ii, e2, e1]
end L81

set_option maxRecDepth 100000
namespace L81
open PySem L2 VL
def nm : Option D → Sl
  | none => .un
  | some d => .val d
abbrev envR (els fnd : List D) (K : Sl) (a k p r : Option D) : En := [.val (.lst els), .val (.int 0), .own false fnd, K, nm a, nm k, nm p, nm r]
def rdF : List (Str × M R) := [("day", m_day_of), ("hand", m_hand_of), ("stretch", m_stretch_of)]
def rdBody : SM := (blk [(asg 6 (ife (tvl (op2 ilt (var 4) (callB (c1 lenG) [(var 0)]))) (tabCall [("day", m_day_of), ("hand", m_hand_of), ("stretch", m_stretch_of)] (var 5) [.e (op2 ixG (var 0) (var 4))]) (cst .non))),
      (sif (tor (tvl (op2 isN (var 6) (cst .non))) (tand (tvl (op2 eqG (var 5) (cst (.str "day")))) (tand (tvl (op2 eqG (callB (c1 lenG) [(var 2)]) (cst (.int 2)))) (tvl (op2 ilt (var 6) (op2 ixG (var 2) (cst (.int 1)))))))) (blk [(fun _ => .bad)]) (blk [])),
      (sexp (metW 2 appW [(var 6)]))])
theorem lk_day : rdF.lookup ("day" : Str) = some m_day_of := rfl
theorem lk_hand : rdF.lookup ("hand" : Str) = some m_hand_of := rfl
theorem lk_stretch : rdF.lookup ("stretch" : Str) = some m_stretch_of := rfl
theorem asc_lit {s : Str} (h : (TL.tl s).all (fun c => decide (c < 128)) = true) : Asc s := fun c hc => of_decide_eq_true (List.all_eq_true.mp h c hc)
/-- one part read -/
theorem turn_any {els fnd : List D} {K : Sl} {a k p r : Option D} {i : Int} {kind wrd : Str} {d : D} {m : M R} (hx : ixG (.lst els) (.int i) = some (.val (.str wrd))) (hi : i < els.length) (hc : m [.val (.str wrd)] = .ok (.val d) [.un])
    (lk : rdF.lookup kind = some m) (hn : isN d .non = some (.val (.bl false))) (hf : fnd.length < 100)
    (ht : (tand (tvl (op2 eqG (var 5) (cst (.str "day")))) (tand (tvl (op2 eqG (callB (c1 lenG) [(var 2)]) (cst (.int 2)))) (tvl (op2 ilt (var 6) (op2 ixG (var 2) (cst (.int 1))))))) (envR els fnd K (some (.int i)) (some (.str kind)) (some d) r) = .ok false (envR els fnd K (some (.int i)) (some (.str kind)) (some d) r)) :
    (bnd (gtp [(gnm 4), (gnm 5)] (.tup [.int i, .str kind])) fun _ => rdBody) (envR els fnd K a k p r) = .ok .nx (envR els (fnd ++ [d]) K (some (.int i)) (some (.str kind)) (some d) r) := by
  have e0 : gtp [(gnm 4), (gnm 5)] (.tup [.int i, .str kind]) (envR els fnd K a k p r) = .ok () (envR els fnd K (some (.int i)) (some (.str kind)) p r) := by
    cases a <;> cases k <;> rfl
  have e1 : callM m [.e (op2 ixG (var 0) (var 4))] (envR els fnd K (some (.int i)) (some (.str kind)) p r) = .ok (.val d) (envR els fnd K (some (.int i)) (some (.str kind)) p r) := by
    simp [bnd, Res.bind, VL.ret, var, cst, op2, op1, fin2, fin1, toO, toV, rdO, asB, tvl, tru, finT, truthD, tand, tor, tnot, ife, blk, sseq, setS, sto, asg, sexp, sret, sif, evO, evV, rdOs, finN, callB, okLen, tupD, lstD, c1, lenG, asgT, gnm, gseq, gtp, slD, pOpt, finS, metB, chk, tyD, evA, mkE, finC, callM, lentOf, wbk, wb1, runF, noOwn, finF, proj, ps1, metW, appW, setI, parV, stoL, fjoin, asgStar, starD, chain, andV, orV, notV, igt_ii, ilt_ii, ile_ii, ige_ii, isub_ii, addH_ii, nm, hx, hc]
  have e2 : tabCall [("day", m_day_of), ("hand", m_hand_of), ("stretch", m_stretch_of)] (var 5) [.e (op2 ixG (var 0) (var 4))] (envR els fnd K (some (.int i)) (some (.str kind)) p r) = .ok (.val d) (envR els fnd K (some (.int i)) (some (.str kind)) p r) := by
    show (match rdF.lookup kind with
      | some m => callM m [.e (op2 ixG (var 0) (var 4))] (envR els fnd K (some (.int i)) (some (.str kind)) p r)
      | none => .bad) = _
    rw [lk]
    exact e1
  have el : lenG (.lst els) = some (.val (.int els.length)) := rfl
  show (gtp [(gnm 4), (gnm 5)] (.tup [.int i, .str kind]) (envR els fnd K a k p r)).bind _ = _
  rw [e0]
  show rdBody (envR els fnd K (some (.int i)) (some (.str kind)) p r) = _
  unfold rdBody
  refine (ev_cons (ρ1 := envR els fnd K (some (.int i)) (some (.str kind)) (some d) r) ?_).trans ((ev_cons (ρ1 := envR els fnd K (some (.int i)) (some (.str kind)) (some d) r) ?_).trans ?_)
  · have t1 : tvl (op2 ilt (var 4) (callB (c1 lenG) [(var 0)])) (envR els fnd K (some (.int i)) (some (.str kind)) p r) = .ok true (envR els fnd K (some (.int i)) (some (.str kind)) p r) := by
      simp [↓bnd, ↓Res.bind, ↓VL.ret, ↓var, ↓cst, ↓op2, ↓op1, ↓fin2, ↓fin1, ↓toO, ↓toV, ↓rdO, ↓asB, ↓tvl, ↓tru, ↓finT, ↓truthD, ↓tand, ↓tor, ↓tnot, ↓ife, ↓blk, ↓sseq, ↓setS, ↓sto, ↓asg, ↓sexp, ↓sret, ↓sif, ↓evO, ↓evV, ↓rdOs, ↓finN, ↓callB, ↓okLen, ↓tupD, ↓lstD, ↓c1, ↓lenG, ↓asgT, ↓gnm, ↓gseq, ↓gtp, ↓slD, ↓pOpt, ↓finS, ↓metB, ↓chk, ↓tyD, ↓runF, ↓noOwn, ↓finF, ↓proj, ↓ps1, ↓metW, ↓appW, ↓setI, ↓parV, ↓stoL, ↓fjoin, ↓asgStar, ↓starD, ↓chain, ↓andV, ↓orV, ↓notV, ↓igt_ii, ↓ilt_ii, ↓ile_ii, ↓ige_ii, ↓isub_ii, ↓addH_ii, nm, el, hi]
    have t2 : ife (tvl (op2 ilt (var 4) (callB (c1 lenG) [(var 0)]))) (tabCall [("day", m_day_of), ("hand", m_hand_of), ("stretch", m_stretch_of)] (var 5) [.e (op2 ixG (var 0) (var 4))]) (cst .non) (envR els fnd K (some (.int i)) (some (.str kind)) p r) = .ok (.val d) (envR els fnd K (some (.int i)) (some (.str kind)) p r) := by
      unfold ife bnd
      rw [t1]
      exact e2
    unfold asg bnd
    rw [t2]
    cases p <;> rfl
  · have t1 : tvl (op2 isN (var 6) (cst .non)) (envR els fnd K (some (.int i)) (some (.str kind)) (some d) r) = .ok false (envR els fnd K (some (.int i)) (some (.str kind)) (some d) r) := by
      simp [↓bnd, ↓Res.bind, ↓VL.ret, ↓var, ↓cst, ↓op2, ↓op1, ↓fin2, ↓fin1, ↓toO, ↓toV, ↓rdO, ↓asB, ↓tvl, ↓tru, ↓finT, ↓truthD, ↓tand, ↓tor, ↓tnot, ↓ife, ↓blk, ↓sseq, ↓setS, ↓sto, ↓asg, ↓sexp, ↓sret, ↓sif, ↓evO, ↓evV, ↓rdOs, ↓finN, ↓callB, ↓okLen, ↓tupD, ↓lstD, ↓c1, ↓lenG, ↓asgT, ↓gnm, ↓gseq, ↓gtp, ↓slD, ↓pOpt, ↓finS, ↓metB, ↓chk, ↓tyD, ↓runF, ↓noOwn, ↓finF, ↓proj, ↓ps1, ↓metW, ↓appW, ↓setI, ↓parV, ↓stoL, ↓fjoin, ↓asgStar, ↓starD, ↓chain, ↓andV, ↓orV, ↓notV, ↓igt_ii, ↓ilt_ii, ↓ile_ii, ↓ige_ii, ↓isub_ii, ↓addH_ii, nm, hn]
    have t2 : ∀ (x y : M Bool) (ρ : En), x ρ = .ok false ρ → y ρ = .ok false ρ → tor x y ρ = .ok false ρ := fun x y ρ h1 h2 => by
      unfold tor bnd
      rw [h1]
      exact h2
    rw [ev_if (t2 _ _ _ t1 ht)]
    rfl
  · rw [ev_one]
    have hf : fnd.length < 16777216 := by omega
    simp [↓bnd, ↓Res.bind, ↓VL.ret, ↓var, ↓cst, ↓op2, ↓op1, ↓fin2, ↓fin1, ↓toO, ↓toV, ↓rdO, ↓asB, ↓tvl, ↓tru, ↓finT, ↓truthD, ↓tand, ↓tor, ↓tnot, ↓ife, ↓blk, ↓sseq, ↓setS, ↓sto, ↓asg, ↓sexp, ↓sret, ↓sif, ↓evO, ↓evV, ↓rdOs, ↓finN, ↓callB, ↓okLen, ↓tupD, ↓lstD, ↓c1, ↓lenG, ↓asgT, ↓gnm, ↓gseq, ↓gtp, ↓slD, ↓pOpt, ↓finS, ↓metB, ↓chk, ↓tyD, ↓runF, ↓noOwn, ↓finF, ↓proj, ↓ps1, ↓metW, ↓appW, ↓setI, ↓parV, ↓stoL, ↓fjoin, ↓asgStar, ↓starD, ↓chain, ↓andV, ↓orV, ↓notV, ↓igt_ii, ↓ilt_ii, ↓ile_ii, ↓ige_ii, ↓isub_ii, ↓addH_ii, nm, hf]
theorem kind_no {els fnd : List D} {K : Sl} {a : Option D} {kind : Str} {d : D} {r : Option D} (h : eqG (.str kind) (.str "day") = some (.val (.bl false))) :
    (tand (tvl (op2 eqG (var 5) (cst (.str "day")))) (tand (tvl (op2 eqG (callB (c1 lenG) [(var 2)]) (cst (.int 2)))) (tvl (op2 ilt (var 6) (op2 ixG (var 2) (cst (.int 1))))))) (envR els fnd K a (some (.str kind)) (some d) r) = .ok false (envR els fnd K a (some (.str kind)) (some d) r) := by
  simp [↓bnd, ↓Res.bind, ↓VL.ret, ↓var, ↓cst, ↓op2, ↓op1, ↓fin2, ↓fin1, ↓toO, ↓toV, ↓rdO, ↓asB, ↓tvl, ↓tru, ↓finT, ↓truthD, ↓tand, ↓tor, ↓tnot, ↓ife, ↓blk, ↓sseq, ↓setS, ↓sto, ↓asg, ↓sexp, ↓sret, ↓sif, ↓evO, ↓evV, ↓rdOs, ↓finN, ↓callB, ↓okLen, ↓tupD, ↓lstD, ↓c1, ↓lenG, ↓asgT, ↓gnm, ↓gseq, ↓gtp, ↓slD, ↓pOpt, ↓finS, ↓metB, ↓chk, ↓tyD, ↓runF, ↓noOwn, ↓finF, ↓proj, ↓ps1, ↓metW, ↓appW, ↓setI, ↓parV, ↓stoL, ↓fjoin, ↓asgStar, ↓starD, ↓chain, ↓andV, ↓orV, ↓notV, ↓igt_ii, ↓ilt_ii, ↓ile_ii, ↓ige_ii, ↓isub_ii, ↓addH_ii, nm, h]
theorem day_one {els : List D} {w0 : D} {K : Sl} {a : Option D} {d : D} {r : Option D} :
    (tand (tvl (op2 eqG (var 5) (cst (.str "day")))) (tand (tvl (op2 eqG (callB (c1 lenG) [(var 2)]) (cst (.int 2)))) (tvl (op2 ilt (var 6) (op2 ixG (var 2) (cst (.int 1))))))) (envR els [w0] K a (some (.str "day")) (some d) r) = .ok false (envR els [w0] K a (some (.str "day")) (some d) r) := by
  have e : eqG (.str "day") (.str "day") = some (.val (.bl true)) := by
    have := eq_ss (a := "day") (b := "day") (asc_lit (by decide +kernel)) (asc_lit (by decide +kernel))
    rwa [decide_eq_true rfl] at this
  simp [↓bnd, ↓Res.bind, ↓VL.ret, ↓var, ↓cst, ↓op2, ↓op1, ↓fin2, ↓fin1, ↓toO, ↓toV, ↓rdO, ↓asB, ↓tvl, ↓tru, ↓finT, ↓truthD, ↓tand, ↓tor, ↓tnot, ↓ife, ↓blk, ↓sseq, ↓setS, ↓sto, ↓asg, ↓sexp, ↓sret, ↓sif, ↓evO, ↓evV, ↓rdOs, ↓finN, ↓callB, ↓okLen, ↓tupD, ↓lstD, ↓c1, ↓lenG, ↓asgT, ↓gnm, ↓gseq, ↓gtp, ↓slD, ↓pOpt, ↓finS, ↓metB, ↓chk, ↓tyD, ↓runF, ↓noOwn, ↓finF, ↓proj, ↓ps1, ↓metW, ↓appW, ↓setI, ↓parV, ↓stoL, ↓fjoin, ↓asgStar, ↓starD, ↓chain, ↓andV, ↓orV, ↓notV, ↓igt_ii, ↓ilt_ii, ↓ile_ii, ↓ige_ii, ↓isub_ii, ↓addH_ii, nm, e, eq_ii]
theorem day_two {els : List D} {w0 : D} {K : Sl} {a : Option D} {n m : Int} {r : Option D} (h : n ≤ m) :
    (tand (tvl (op2 eqG (var 5) (cst (.str "day")))) (tand (tvl (op2 eqG (callB (c1 lenG) [(var 2)]) (cst (.int 2)))) (tvl (op2 ilt (var 6) (op2 ixG (var 2) (cst (.int 1))))))) (envR els [w0, .int n] K a (some (.str "day")) (some (.int m)) r) = .ok false (envR els [w0, .int n] K a (some (.str "day")) (some (.int m)) r) := by
  have e : eqG (.str "day") (.str "day") = some (.val (.bl true)) := by
    have := eq_ss (a := "day") (b := "day") (asc_lit (by decide +kernel)) (asc_lit (by decide +kernel))
    rwa [decide_eq_true rfl] at this
  have i1 : ixG (.lst [w0, .int n]) (.int 1) = some (.val (.int n)) := rfl
  have nl : ¬ m < n := by omega
  simp [↓bnd, ↓Res.bind, ↓VL.ret, ↓var, ↓cst, ↓op2, ↓op1, ↓fin2, ↓fin1, ↓toO, ↓toV, ↓rdO, ↓asB, ↓tvl, ↓tru, ↓finT, ↓truthD, ↓tand, ↓tor, ↓tnot, ↓ife, ↓blk, ↓sseq, ↓setS, ↓sto, ↓asg, ↓sexp, ↓sret, ↓sif, ↓evO, ↓evV, ↓rdOs, ↓finN, ↓callB, ↓okLen, ↓tupD, ↓lstD, ↓c1, ↓lenG, ↓asgT, ↓gnm, ↓gseq, ↓gtp, ↓slD, ↓pOpt, ↓finS, ↓metB, ↓chk, ↓tyD, ↓runF, ↓noOwn, ↓finF, ↓proj, ↓ps1, ↓metW, ↓appW, ↓setI, ↓parV, ↓stoL, ↓fjoin, ↓asgStar, ↓starD, ↓chain, ↓andV, ↓orV, ↓notV, ↓igt_ii, ↓ilt_ii, ↓ile_ii, ↓ige_ii, ↓isub_ii, ↓addH_ii, nm, e, eq_ii, i1, nl]
theorem hand_no : eqG (.str "hand") (.str "day") = some (.val (.bl false)) := by
  have := eq_ss (a := "hand") (b := "day") (asc_lit (by decide +kernel)) (asc_lit (by decide +kernel))
  rwa [decide_eq_false (by decide +kernel)] at this
theorem stretch_no : eqG (.str "stretch") (.str "day") = some (.val (.bl false)) := by
  have := eq_ss (a := "stretch") (b := "day") (asc_lit (by decide +kernel)) (asc_lit (by decide +kernel))
  rwa [decide_eq_false (by decide +kernel)] at this
end L81

set_option maxRecDepth 100000
namespace L81
open PySem L2 VL
abbrev rw1 : SM := (sif (tor (tvl (op2 ile (callB (c1 lenG) [(var 0)]) (var 1))) (tvl (op1 (tabIn true ["sale", "grant", "end", "use"]) (op2 ixG (var 0) (var 1))))) (blk [(fun _ => .bad)]) (blk []))
abbrev rw3 : SM := (asg 3 (lcd (itA (op1 (tabIx [("sale", (.tup [(.str "day"), (.str "stretch"), (.str "hand")])), ("grant", (.tup [(.str "day"), (.str "hand"), (.str "stretch"), (.str "stretch")])), ("end", (.tup [(.str "day"), (.str "hand"), (.str "stretch"), (.str "stretch")])), ("use", (.tup [(.str "day"), (.str "day"), (.str "stretch"), (.str "stretch"), (.str "leave")]))]) (op2 ixG (var 0) (var 1)))) [5] (gnm 5) (tvl (op1 (tabIn false ["day", "hand", "stretch"]) (var 5))) (var 5)))
theorem in_day : tabIn false ["day", "hand", "stretch"] (.str "day") = some (.val (.bl true)) := rfl
theorem in_hand : tabIn false ["day", "hand", "stretch"] (.str "hand") = some (.val (.bl true)) := rfl
theorem in_stretch : tabIn false ["day", "hand", "stretch"] (.str "stretch") = some (.val (.bl true)) := rfl
theorem in_leave : tabIn false ["day", "hand", "stretch"] (.str "leave") = some (.val (.bl false)) := rfl
theorem ix0 (x : D) (xs : List D) : ixG (.lst (x :: xs)) (.int 0) = some (.val x) := by
  have : atI (x :: xs) 0 = some x := by
    unfold atI ixN
    have z : (0 : Int) < ((xs.length + 1 : Nat) : Int) := by omega
    simp [z]
  show (atI (x :: xs) 0).map _ = _
  rw [this]
  rfl
theorem rw1_ok {w0 : Str} {els : List D} (h : tabIn true ["sale", "grant", "end", "use"] (.str w0) = some (.val (.bl false))) : rw1 [.val (.lst (.str w0 :: els)), .val (.int 0), .un, .un, .un, .un, .un, .un] = .ok .nx [.val (.lst (.str w0 :: els)), .val (.int 0), .un, .un, .un, .un, .un, .un] := by
  have el : lenG (.lst (.str w0 :: els)) = some (.val (.int ((els.length : Int) + 1))) := by
    show some (R.val (D.int ((els.length + 1 : Nat) : Int))) = _
    congr
  have nl : ¬ ((els.length : Int) + 1 ≤ 0) := by omega
  simp [↓bnd, ↓Res.bind, ↓VL.ret, ↓var, ↓cst, ↓op2, ↓op1, ↓fin2, ↓fin1, ↓toO, ↓toV, ↓rdO, ↓asB, ↓tvl, ↓tru, ↓finT, ↓truthD, ↓tand, ↓tor, ↓tnot, ↓ife, ↓blk, ↓sseq, ↓setS, ↓sto, ↓asg, ↓sexp, ↓sret, ↓sif, ↓evO, ↓evV, ↓rdOs, ↓finN, ↓callB, ↓okLen, ↓tupD, ↓lstD, ↓c1, ↓lenG, ↓asgT, ↓gnm, ↓gseq, ↓gtp, ↓slD, ↓pOpt, ↓finS, ↓metB, ↓chk, ↓tyD, ↓runF, ↓noOwn, ↓finF, ↓proj, ↓ps1, ↓metW, ↓appW, ↓setI, ↓parV, ↓stoL, ↓fjoin, ↓asgStar, ↓starD, ↓chain, ↓andV, ↓orV, ↓notV, ↓igt_ii, ↓ilt_ii, ↓ile_ii, ↓ige_ii, ↓isub_ii, ↓addH_ii, el, nl, ix0, h]
theorem rw2_ok {w0 : Str} {els : List D} : (asg 2 (lstD [(op2 ixG (var 0) (var 1))])) [.val (.lst (.str w0 :: els)), .val (.int 0), .un, .un, .un, .un, .un, .un] = .ok .nx [.val (.lst (.str w0 :: els)), .val (.int 0), .own false [.str w0], .un, .un, .un, .un, .un] := by
  simp [↓bnd, ↓Res.bind, ↓VL.ret, ↓var, ↓cst, ↓op2, ↓op1, ↓fin2, ↓fin1, ↓toO, ↓toV, ↓rdO, ↓asB, ↓tvl, ↓tru, ↓finT, ↓truthD, ↓tand, ↓tor, ↓tnot, ↓ife, ↓blk, ↓sseq, ↓setS, ↓sto, ↓asg, ↓sexp, ↓sret, ↓sif, ↓evO, ↓evV, ↓rdOs, ↓finN, ↓callB, ↓okLen, ↓tupD, ↓lstD, ↓c1, ↓lenG, ↓asgT, ↓gnm, ↓gseq, ↓gtp, ↓slD, ↓pOpt, ↓finS, ↓metB, ↓chk, ↓tyD, ↓runF, ↓noOwn, ↓finF, ↓proj, ↓ps1, ↓metW, ↓appW, ↓setI, ↓parV, ↓stoL, ↓fjoin, ↓asgStar, ↓starD, ↓chain, ↓andV, ↓orV, ↓notV, ↓igt_ii, ↓ilt_ii, ↓ile_ii, ↓ige_ii, ↓isub_ii, ↓addH_ii, ix0]
theorem rw3_ok {w0 : Str} {els : List D} {ks : List D} {kk : List D} (h : tabIx [("sale", (.tup [(.str "day"), (.str "stretch"), (.str "hand")])), ("grant", (.tup [(.str "day"), (.str "hand"), (.str "stretch"), (.str "stretch")])), ("end", (.tup [(.str "day"), (.str "hand"), (.str "stretch"), (.str "stretch")])), ("use", (.tup [(.str "day"), (.str "day"), (.str "stretch"), (.str "stretch"), (.str "leave")]))] (.str w0) = some (.val (.tup ks)))
    (hk : (ks = [.str "day", .str "stretch", .str "hand"] ∧ kk = ks) ∨ (ks = [.str "day", .str "hand", .str "stretch", .str "stretch"] ∧ kk = ks) ∨ (ks = [.str "day", .str "day", .str "stretch", .str "stretch", .str "leave"] ∧ kk = [.str "day", .str "day", .str "stretch", .str "stretch"])) :
    rw3 [.val (.lst (.str w0 :: els)), .val (.int 0), .own false [.str w0], .un, .un, .un, .un, .un] = .ok .nx [.val (.lst (.str w0 :: els)), .val (.int 0), .own false [.str w0], .own false kk, .un, .un, .un, .un] := by
  have e0 : itA (op1 (tabIx [("sale", (.tup [(.str "day"), (.str "stretch"), (.str "hand")])), ("grant", (.tup [(.str "day"), (.str "hand"), (.str "stretch"), (.str "stretch")])), ("end", (.tup [(.str "day"), (.str "hand"), (.str "stretch"), (.str "stretch")])), ("use", (.tup [(.str "day"), (.str "day"), (.str "stretch"), (.str "stretch"), (.str "leave")]))]) (op2 ixG (var 0) (var 1))) [.val (.lst (.str w0 :: els)), .val (.int 0), .own false [.str w0], .un, .un, .un, .un, .un] = .ok ks [.val (.lst (.str w0 :: els)), .val (.int 0), .own false [.str w0], .un, .un, .un, .un, .un] := by
    simp [↓bnd, ↓Res.bind, ↓VL.ret, ↓var, ↓cst, ↓op2, ↓op1, ↓fin2, ↓fin1, ↓toO, ↓toV, ↓rdO, ↓asB, ↓tvl, ↓tru, ↓finT, ↓truthD, ↓tand, ↓tor, ↓tnot, ↓ife, ↓blk, ↓sseq, ↓setS, ↓sto, ↓asg, ↓sexp, ↓sret, ↓sif, ↓evO, ↓evV, ↓rdOs, ↓finN, ↓callB, ↓okLen, ↓tupD, ↓lstD, ↓c1, ↓lenG, ↓asgT, ↓gnm, ↓gseq, ↓gtp, ↓slD, ↓pOpt, ↓finS, ↓metB, ↓chk, ↓tyD, ↓runF, ↓noOwn, ↓finF, ↓proj, ↓ps1, ↓metW, ↓appW, ↓setI, ↓parV, ↓stoL, ↓fjoin, ↓asgStar, ↓starD, ↓chain, ↓andV, ↓orV, ↓notV, ↓igt_ii, ↓ilt_ii, ↓ile_ii, ↓ige_ii, ↓isub_ii, ↓addH_ii, ↓itA, ↓asA, ix0, h]
  rcases hk with ⟨rfl, rfl⟩ | ⟨rfl, rfl⟩ | ⟨rfl, rfl⟩
  · have el := fun ρ => lim_ok (n := 3) (by omega) ρ
    unfold rw3
    simp [↓bnd, ↓Res.bind, ↓VL.ret, ↓var, ↓cst, ↓op2, ↓op1, ↓fin2, ↓fin1, ↓toO, ↓toV, ↓rdO, ↓asB, ↓tvl, ↓tru, ↓finT, ↓truthD, ↓tand, ↓tor, ↓tnot, ↓ife, ↓blk, ↓sseq, ↓setS, ↓sto, ↓asg, ↓sexp, ↓sret, ↓sif, ↓evO, ↓evV, ↓rdOs, ↓finN, ↓callB, ↓okLen, ↓tupD, ↓lstD, ↓c1, ↓lenG, ↓asgT, ↓gnm, ↓gseq, ↓gtp, ↓slD, ↓pOpt, ↓finS, ↓metB, ↓chk, ↓tyD, ↓runF, ↓noOwn, ↓finF, ↓proj, ↓ps1, ↓metW, ↓appW, ↓setI, ↓parV, ↓stoL, ↓fjoin, ↓asgStar, ↓starD, ↓chain, ↓andV, ↓orV, ↓notV, ↓igt_ii, ↓ilt_ii, ↓ile_ii, ↓ige_ii, ↓isub_ii, ↓addH_ii, ↓lcd, ↓e0, ↓el, el, ↓compL, ↓wip, ↓noex, in_day, in_hand, in_stretch]
  · have el := fun ρ => lim_ok (n := 4) (by omega) ρ
    unfold rw3
    simp [↓bnd, ↓Res.bind, ↓VL.ret, ↓var, ↓cst, ↓op2, ↓op1, ↓fin2, ↓fin1, ↓toO, ↓toV, ↓rdO, ↓asB, ↓tvl, ↓tru, ↓finT, ↓truthD, ↓tand, ↓tor, ↓tnot, ↓ife, ↓blk, ↓sseq, ↓setS, ↓sto, ↓asg, ↓sexp, ↓sret, ↓sif, ↓evO, ↓evV, ↓rdOs, ↓finN, ↓callB, ↓okLen, ↓tupD, ↓lstD, ↓c1, ↓lenG, ↓asgT, ↓gnm, ↓gseq, ↓gtp, ↓slD, ↓pOpt, ↓finS, ↓metB, ↓chk, ↓tyD, ↓runF, ↓noOwn, ↓finF, ↓proj, ↓ps1, ↓metW, ↓appW, ↓setI, ↓parV, ↓stoL, ↓fjoin, ↓asgStar, ↓starD, ↓chain, ↓andV, ↓orV, ↓notV, ↓igt_ii, ↓ilt_ii, ↓ile_ii, ↓ige_ii, ↓isub_ii, ↓addH_ii, ↓lcd, ↓e0, ↓el, el, ↓compL, ↓wip, ↓noex, in_day, in_hand, in_stretch]
  · have el := fun ρ => lim_ok (n := 5) (by omega) ρ
    unfold rw3
    simp [↓bnd, ↓Res.bind, ↓VL.ret, ↓var, ↓cst, ↓op2, ↓op1, ↓fin2, ↓fin1, ↓toO, ↓toV, ↓rdO, ↓asB, ↓tvl, ↓tru, ↓finT, ↓truthD, ↓tand, ↓tor, ↓tnot, ↓ife, ↓blk, ↓sseq, ↓setS, ↓sto, ↓asg, ↓sexp, ↓sret, ↓sif, ↓evO, ↓evV, ↓rdOs, ↓finN, ↓callB, ↓okLen, ↓tupD, ↓lstD, ↓c1, ↓lenG, ↓asgT, ↓gnm, ↓gseq, ↓gtp, ↓slD, ↓pOpt, ↓finS, ↓metB, ↓chk, ↓tyD, ↓runF, ↓noOwn, ↓finF, ↓proj, ↓ps1, ↓metW, ↓appW, ↓setI, ↓parV, ↓stoL, ↓fjoin, ↓asgStar, ↓starD, ↓chain, ↓andV, ↓orV, ↓notV, ↓igt_ii, ↓ilt_ii, ↓ile_ii, ↓ige_ii, ↓isub_ii, ↓addH_ii, ↓lcd, ↓e0, ↓el, el, ↓compL, ↓wip, ↓noex, in_day, in_hand, in_stretch, in_leave]
theorem enum_ok {els fnd kk : List D} : (bnd (evV [(var 3)]) fun ds => bnd (evV [(op2 addH (var 1) (cst (.int 1)))]) fun es => enmN ds es) [.val (.lst els), .val (.int 0), .own false fnd, .own false kk, .un, .un, .un, .un] = .ok (enumD 1 kk) (envR els fnd (.val (.lst kk)) none none none none) := by
  have e : ∀ ρ, enmN [.lst kk] [.int 1] ρ = .ok (enumD 1 kk) ρ := fun ρ => by
    simp only [enmN]
    rw [if_pos (by omega)]
  simp [↓bnd, ↓Res.bind, ↓VL.ret, ↓var, ↓cst, ↓op2, ↓op1, ↓fin2, ↓fin1, ↓toO, ↓toV, ↓rdO, ↓asB, ↓tvl, ↓tru, ↓finT, ↓truthD, ↓tand, ↓tor, ↓tnot, ↓ife, ↓blk, ↓sseq, ↓setS, ↓sto, ↓asg, ↓sexp, ↓sret, ↓sif, ↓evO, ↓evV, ↓rdOs, ↓finN, ↓callB, ↓okLen, ↓tupD, ↓lstD, ↓c1, ↓lenG, ↓asgT, ↓gnm, ↓gseq, ↓gtp, ↓slD, ↓pOpt, ↓finS, ↓metB, ↓chk, ↓tyD, ↓runF, ↓noOwn, ↓finF, ↓proj, ↓ps1, ↓metW, ↓appW, ↓setI, ↓parV, ↓stoL, ↓fjoin, ↓asgStar, ↓starD, ↓chain, ↓andV, ↓orV, ↓notV, ↓igt_ii, ↓ilt_ii, ↓ile_ii, ↓ige_ii, ↓isub_ii, ↓addH_ii, ↓e, nm]
end L81

set_option maxRecDepth 100000
namespace L81
open PySem L2 VL
abbrev rw4 : SM := (sfor (bnd (evV [(var 3)]) fun ds => bnd (evV [(op2 addH (var 1) (cst (.int 1)))]) fun es => enmN ds es) (gtp [(gnm 4), (gnm 5)]) rdBody)
abbrev rw5 : SM := (asg 7 (slD slH (var 0) (some (op2 addH (op2 addH (var 1) (cst (.int 1))) (callB (c1 lenG) [(var 3)]))) none))
abbrev rw6 : SM := (sif (tvl (op2 eqG (op2 ixG (var 2) (cst (.int 0))) (cst (.str "use")))) (blk [(sexp (metW 2 appW [(op2 eqG (slD slH (var 7) none (some (cst (.int 1)))) (lstD [(cst (.str "leave"))]))])),
      (asg 7 (ife (tvl (op2 eqG (slD slH (var 7) none (some (cst (.int 1)))) (lstD [(cst (.str "leave"))]))) (slD slH (var 7) (some (cst (.int 1))) none) (var 7)))]) (blk []))
abbrev rw7 : SM := (sif (tvl (op2 neG (var 7) (lstD []))) (blk [(fun _ => .bad)]) (blk []))
abbrev rw8 : SM := (sret (callB (c1 tupG) [(var 2)]))
/-- behind the loop -/
abbrev envS (els fnd kk : List D) (a k p : D) (s : Sl) : En := [.val (.lst els), .val (.int 0), .own false fnd, .val (.lst kk), .val a, .val k, .val p, s]
theorem read_of {w0 : Str} {els kk found found2 : List D} {a k p : D} {s : Sl} (h1 : tabIn true ["sale", "grant", "end", "use"] (.str w0) = some (.val (.bl false)))
    (h3 : rw3 [.val (.lst (.str w0 :: els)), .val (.int 0), .own false [.str w0], .un, .un, .un, .un, .un] = .ok .nx [.val (.lst (.str w0 :: els)), .val (.int 0), .own false [.str w0], .own false kk, .un, .un, .un, .un])
    (h4 : forL (gtp [(gnm 4), (gnm 5)]) rdBody (enumD 1 kk) (envR (.str w0 :: els) [.str w0] (.val (.lst kk)) none none none none) = .ok .nx (envS (.str w0 :: els) found kk a k p .un))
    (h56 : blk [rw5, rw6, rw7, rw8] (envS (.str w0 :: els) found kk a k p .un) = .ok (.ret (.val (.tup found2))) (envS (.str w0 :: els) found2 kk a k p s)) :
    m_read_words [.val (.lst (.str w0 :: els)), .val (.int 0)] = .ok (.val (.tup found2)) [.un, .un] := by
  refine run_of (ρ0 := [.val (.lst (.str w0 :: els)), .val (.int 0), .un, .un, .un, .un, .un, .un]) (r := .val (.tup found2)) (ρ' := envS (.str w0 :: els) found2 kk a k p s) ⟨rfl, rfl⟩ rfl ?_ rfl
  have e4 : rw4 [.val (.lst (.str w0 :: els)), .val (.int 0), .own false [.str w0], .own false kk, .un, .un, .un, .un] = .ok .nx (envS (.str w0 :: els) found kk a k p .un) := by
    rw [show rw4 [.val (.lst (.str w0 :: els)), .val (.int 0), .own false [.str w0], .own false kk, .un, .un, .un, .un] = _ from ev_for enum_ok]
    exact h4
  show blk [rw1, (asg 2 (lstD [(op2 ixG (var 0) (var 1))])), rw3, rw4, rw5, rw6, rw7, rw8] _ = _
  exact (ev_cons (rw1_ok h1)).trans ((ev_cons rw2_ok).trans ((ev_cons h3).trans ((ev_cons e4).trans h56)))
theorem use_no {s : Str} (ha : Asc s) (h : decide (s = ("use" : Str)) = false) : eqG (.str s) (.str "use") = some (.val (.bl false)) := by
  have := eq_ss (a := s) (b := "use") ha (asc_lit (by decide +kernel))
  rwa [h] at this
theorem ne_nil : neG (.lst []) (.lst []) = some (.val (.bl false)) := by
  unfold neG
  rw [if_pos ⟨by decide +kernel, by decide +kernel⟩]
  rfl
/-- the tail where the word is not use -/
theorem tail_plain {els fnd kk : List D} {w0 : Str} {a k p : D} (hw : eqG (.str w0) (.str "use") = some (.val (.bl false))) (cut : slH (.lst els) (some (1 + (kk.length : Int))) none = some (.fresh [])) :
    blk [rw5, rw6, rw7, rw8] (envS els (.str w0 :: fnd) kk a k p .un) = .ok (.ret (.val (.tup (.str w0 :: fnd)))) (envS els (.str w0 :: fnd) kk a k p (.own false [])) := by
  refine (ev_cons (ρ1 := envS els (.str w0 :: fnd) kk a k p (.own false [])) ?_).trans ((ev_cons (ρ1 := envS els (.str w0 :: fnd) kk a k p (.own false [])) ?_).trans ((ev_cons (ρ1 := envS els (.str w0 :: fnd) kk a k p (.own false [])) ?_).trans ?_))
  · simp [↓bnd, ↓Res.bind, ↓VL.ret, ↓var, ↓cst, ↓op2, ↓op1, ↓fin2, ↓fin1, ↓toO, ↓toV, ↓rdO, ↓asB, ↓tvl, ↓tru, ↓finT, ↓truthD, ↓tand, ↓tor, ↓tnot, ↓ife, ↓blk, ↓sseq, ↓setS, ↓sto, ↓asg, ↓sexp, ↓sret, ↓sif, ↓evO, ↓evV, ↓rdOs, ↓finN, ↓callB, ↓okLen, ↓tupD, ↓lstD, ↓c1, ↓lenG, ↓asgT, ↓gnm, ↓gseq, ↓gtp, ↓slD, ↓pOpt, ↓finS, ↓metB, ↓chk, ↓tyD, ↓runF, ↓noOwn, ↓finF, ↓proj, ↓ps1, ↓metW, ↓appW, ↓setI, ↓parV, ↓stoL, ↓fjoin, ↓asgStar, ↓starD, ↓chain, ↓andV, ↓orV, ↓notV, ↓igt_ii, ↓ilt_ii, ↓ile_ii, ↓ige_ii, ↓isub_ii, ↓addH_ii, cut]
  · simp [↓bnd, ↓Res.bind, ↓VL.ret, ↓var, ↓cst, ↓op2, ↓op1, ↓fin2, ↓fin1, ↓toO, ↓toV, ↓rdO, ↓asB, ↓tvl, ↓tru, ↓finT, ↓truthD, ↓tand, ↓tor, ↓tnot, ↓ife, ↓blk, ↓sseq, ↓setS, ↓sto, ↓asg, ↓sexp, ↓sret, ↓sif, ↓evO, ↓evV, ↓rdOs, ↓finN, ↓callB, ↓okLen, ↓tupD, ↓lstD, ↓c1, ↓lenG, ↓asgT, ↓gnm, ↓gseq, ↓gtp, ↓slD, ↓pOpt, ↓finS, ↓metB, ↓chk, ↓tyD, ↓runF, ↓noOwn, ↓finF, ↓proj, ↓ps1, ↓metW, ↓appW, ↓setI, ↓parV, ↓stoL, ↓fjoin, ↓asgStar, ↓starD, ↓chain, ↓andV, ↓orV, ↓notV, ↓igt_ii, ↓ilt_ii, ↓ile_ii, ↓ige_ii, ↓isub_ii, ↓addH_ii, ix0, hw]
  · simp [↓bnd, ↓Res.bind, ↓VL.ret, ↓var, ↓cst, ↓op2, ↓op1, ↓fin2, ↓fin1, ↓toO, ↓toV, ↓rdO, ↓asB, ↓tvl, ↓tru, ↓finT, ↓truthD, ↓tand, ↓tor, ↓tnot, ↓ife, ↓blk, ↓sseq, ↓setS, ↓sto, ↓asg, ↓sexp, ↓sret, ↓sif, ↓evO, ↓evV, ↓rdOs, ↓finN, ↓callB, ↓okLen, ↓tupD, ↓lstD, ↓c1, ↓lenG, ↓asgT, ↓gnm, ↓gseq, ↓gtp, ↓slD, ↓pOpt, ↓finS, ↓metB, ↓chk, ↓tyD, ↓runF, ↓noOwn, ↓finF, ↓proj, ↓ps1, ↓metW, ↓appW, ↓setI, ↓parV, ↓stoL, ↓fjoin, ↓asgStar, ↓starD, ↓chain, ↓andV, ↓orV, ↓notV, ↓igt_ii, ↓ilt_ii, ↓ile_ii, ↓ige_ii, ↓isub_ii, ↓addH_ii, ne_nil]
  · rw [ev_one]
    have t : tupG (.lst (.str w0 :: fnd)) = some (.val (.tup (.str w0 :: fnd))) := rfl
    simp [↓bnd, ↓Res.bind, ↓VL.ret, ↓var, ↓cst, ↓op2, ↓op1, ↓fin2, ↓fin1, ↓toO, ↓toV, ↓rdO, ↓asB, ↓tvl, ↓tru, ↓finT, ↓truthD, ↓tand, ↓tor, ↓tnot, ↓ife, ↓blk, ↓sseq, ↓setS, ↓sto, ↓asg, ↓sexp, ↓sret, ↓sif, ↓evO, ↓evV, ↓rdOs, ↓finN, ↓callB, ↓okLen, ↓tupD, ↓lstD, ↓c1, ↓lenG, ↓asgT, ↓gnm, ↓gseq, ↓gtp, ↓slD, ↓pOpt, ↓finS, ↓metB, ↓chk, ↓tyD, ↓runF, ↓noOwn, ↓finF, ↓proj, ↓ps1, ↓metW, ↓appW, ↓setI, ↓parV, ↓stoL, ↓fjoin, ↓asgStar, ↓starD, ↓chain, ↓andV, ↓orV, ↓notV, ↓igt_ii, ↓ilt_ii, ↓ile_ii, ↓ige_ii, ↓isub_ii, ↓addH_ii, t]
theorem use_yes : eqG (.str "use") (.str "use") = some (.val (.bl true)) := by
  have := eq_ss (a := "use") (b := "use") (asc_lit (by decide +kernel)) (asc_lit (by decide +kernel))
  rwa [decide_eq_true rfl] at this
theorem leave_yes : eqG (.lst [.str "leave"]) (.lst [.str "leave"]) = some (.val (.bl true)) := by
  unfold eqG
  rw [if_pos ⟨by decide +kernel, by decide +kernel⟩]
  have : PyData.eqv (toP (.lst [.str "leave"])) (toP (.lst [.str "leave"])) = true := by decide +kernel
  rw [this]
theorem leave_no : eqG (.lst []) (.lst [.str "leave"]) = some (.val (.bl false)) := by
  unfold eqG
  rw [if_pos ⟨by decide +kernel, by decide +kernel⟩]
  rfl
/-- the tail where the word is use -/
theorem tail_use {els fnd kk : List D} {a k p : D} (b : Bool) (hf : fnd.length < 90) (cut : slH (.lst els) (some (1 + (kk.length : Int))) none = some (.fresh (if b then [.str "leave"] else []))) :
    ∃ s, blk [rw5, rw6, rw7, rw8] (envS els (.str "use" :: fnd) kk a k p .un) = .ok (.ret (.val (.tup (.str "use" :: (fnd ++ [.bl b]))))) (envS els (.str "use" :: (fnd ++ [.bl b])) kk a k p s) := by
  have hf2 : fnd.length + 1 < 16777216 := by omega
  have t : tupG (.lst (.str "use" :: (fnd ++ [.bl b]))) = some (.val (.tup (.str "use" :: (fnd ++ [.bl b])))) := rfl
  cases b with
  | true =>
    refine ⟨.own false [], ?_⟩
    have q1 : slH (.lst [.str "leave"]) none (some 1) = some (.fresh [.str "leave"]) := rfl
    have q2 : slH (.lst [.str "leave"]) (some 1) none = some (.fresh []) := rfl
    refine (ev_cons (ρ1 := envS els (.str "use" :: fnd) kk a k p (.own false [.str "leave"])) ?_).trans ((ev_cons (ρ1 := envS els (.str "use" :: (fnd ++ [.bl true])) kk a k p (.own false [])) ?_).trans ((ev_cons (ρ1 := envS els (.str "use" :: (fnd ++ [.bl true])) kk a k p (.own false [])) ?_).trans ?_))
    · simp [↓bnd, ↓Res.bind, ↓VL.ret, ↓var, ↓cst, ↓op2, ↓op1, ↓fin2, ↓fin1, ↓toO, ↓toV, ↓rdO, ↓asB, ↓tvl, ↓tru, ↓finT, ↓truthD, ↓tand, ↓tor, ↓tnot, ↓ife, ↓blk, ↓sseq, ↓setS, ↓sto, ↓asg, ↓sexp, ↓sret, ↓sif, ↓evO, ↓evV, ↓rdOs, ↓finN, ↓callB, ↓okLen, ↓tupD, ↓lstD, ↓c1, ↓lenG, ↓asgT, ↓gnm, ↓gseq, ↓gtp, ↓slD, ↓pOpt, ↓finS, ↓metB, ↓chk, ↓tyD, ↓runF, ↓noOwn, ↓finF, ↓proj, ↓ps1, ↓metW, ↓appW, ↓setI, ↓parV, ↓stoL, ↓fjoin, ↓asgStar, ↓starD, ↓chain, ↓andV, ↓orV, ↓notV, ↓igt_ii, ↓ilt_ii, ↓ile_ii, ↓ige_ii, ↓isub_ii, ↓addH_ii, cut]
    · simp [↓bnd, ↓Res.bind, ↓VL.ret, ↓var, ↓cst, ↓op2, ↓op1, ↓fin2, ↓fin1, ↓toO, ↓toV, ↓rdO, ↓asB, ↓tvl, ↓tru, ↓finT, ↓truthD, ↓tand, ↓tor, ↓tnot, ↓ife, ↓blk, ↓sseq, ↓setS, ↓sto, ↓asg, ↓sexp, ↓sret, ↓sif, ↓evO, ↓evV, ↓rdOs, ↓finN, ↓callB, ↓okLen, ↓tupD, ↓lstD, ↓c1, ↓lenG, ↓asgT, ↓gnm, ↓gseq, ↓gtp, ↓slD, ↓pOpt, ↓finS, ↓metB, ↓chk, ↓tyD, ↓runF, ↓noOwn, ↓finF, ↓proj, ↓ps1, ↓metW, ↓appW, ↓setI, ↓parV, ↓stoL, ↓fjoin, ↓asgStar, ↓starD, ↓chain, ↓andV, ↓orV, ↓notV, ↓igt_ii, ↓ilt_ii, ↓ile_ii, ↓ige_ii, ↓isub_ii, ↓addH_ii, ix0, use_yes, q1, q2, leave_yes, hf2]
    · simp [↓bnd, ↓Res.bind, ↓VL.ret, ↓var, ↓cst, ↓op2, ↓op1, ↓fin2, ↓fin1, ↓toO, ↓toV, ↓rdO, ↓asB, ↓tvl, ↓tru, ↓finT, ↓truthD, ↓tand, ↓tor, ↓tnot, ↓ife, ↓blk, ↓sseq, ↓setS, ↓sto, ↓asg, ↓sexp, ↓sret, ↓sif, ↓evO, ↓evV, ↓rdOs, ↓finN, ↓callB, ↓okLen, ↓tupD, ↓lstD, ↓c1, ↓lenG, ↓asgT, ↓gnm, ↓gseq, ↓gtp, ↓slD, ↓pOpt, ↓finS, ↓metB, ↓chk, ↓tyD, ↓runF, ↓noOwn, ↓finF, ↓proj, ↓ps1, ↓metW, ↓appW, ↓setI, ↓parV, ↓stoL, ↓fjoin, ↓asgStar, ↓starD, ↓chain, ↓andV, ↓orV, ↓notV, ↓igt_ii, ↓ilt_ii, ↓ile_ii, ↓ige_ii, ↓isub_ii, ↓addH_ii, ne_nil]
    · rw [ev_one]
      simp [↓bnd, ↓Res.bind, ↓VL.ret, ↓var, ↓cst, ↓op2, ↓op1, ↓fin2, ↓fin1, ↓toO, ↓toV, ↓rdO, ↓asB, ↓tvl, ↓tru, ↓finT, ↓truthD, ↓tand, ↓tor, ↓tnot, ↓ife, ↓blk, ↓sseq, ↓setS, ↓sto, ↓asg, ↓sexp, ↓sret, ↓sif, ↓evO, ↓evV, ↓rdOs, ↓finN, ↓callB, ↓okLen, ↓tupD, ↓lstD, ↓c1, ↓lenG, ↓asgT, ↓gnm, ↓gseq, ↓gtp, ↓slD, ↓pOpt, ↓finS, ↓metB, ↓chk, ↓tyD, ↓runF, ↓noOwn, ↓finF, ↓proj, ↓ps1, ↓metW, ↓appW, ↓setI, ↓parV, ↓stoL, ↓fjoin, ↓asgStar, ↓starD, ↓chain, ↓andV, ↓orV, ↓notV, ↓igt_ii, ↓ilt_ii, ↓ile_ii, ↓ige_ii, ↓isub_ii, ↓addH_ii, t]
  | false =>
    refine ⟨.val (.lst []), ?_⟩
    have q1 : slH (.lst []) none (some 1) = some (.fresh []) := rfl
    refine (ev_cons (ρ1 := envS els (.str "use" :: fnd) kk a k p (.own false [])) ?_).trans ((ev_cons (ρ1 := envS els (.str "use" :: (fnd ++ [.bl false])) kk a k p (.val (.lst []))) ?_).trans ((ev_cons (ρ1 := envS els (.str "use" :: (fnd ++ [.bl false])) kk a k p (.val (.lst []))) ?_).trans ?_))
    · simp [↓bnd, ↓Res.bind, ↓VL.ret, ↓var, ↓cst, ↓op2, ↓op1, ↓fin2, ↓fin1, ↓toO, ↓toV, ↓rdO, ↓asB, ↓tvl, ↓tru, ↓finT, ↓truthD, ↓tand, ↓tor, ↓tnot, ↓ife, ↓blk, ↓sseq, ↓setS, ↓sto, ↓asg, ↓sexp, ↓sret, ↓sif, ↓evO, ↓evV, ↓rdOs, ↓finN, ↓callB, ↓okLen, ↓tupD, ↓lstD, ↓c1, ↓lenG, ↓asgT, ↓gnm, ↓gseq, ↓gtp, ↓slD, ↓pOpt, ↓finS, ↓metB, ↓chk, ↓tyD, ↓runF, ↓noOwn, ↓finF, ↓proj, ↓ps1, ↓metW, ↓appW, ↓setI, ↓parV, ↓stoL, ↓fjoin, ↓asgStar, ↓starD, ↓chain, ↓andV, ↓orV, ↓notV, ↓igt_ii, ↓ilt_ii, ↓ile_ii, ↓ige_ii, ↓isub_ii, ↓addH_ii, cut]
    · simp [↓bnd, ↓Res.bind, ↓VL.ret, ↓var, ↓cst, ↓op2, ↓op1, ↓fin2, ↓fin1, ↓toO, ↓toV, ↓rdO, ↓asB, ↓tvl, ↓tru, ↓finT, ↓truthD, ↓tand, ↓tor, ↓tnot, ↓ife, ↓blk, ↓sseq, ↓setS, ↓sto, ↓asg, ↓sexp, ↓sret, ↓sif, ↓evO, ↓evV, ↓rdOs, ↓finN, ↓callB, ↓okLen, ↓tupD, ↓lstD, ↓c1, ↓lenG, ↓asgT, ↓gnm, ↓gseq, ↓gtp, ↓slD, ↓pOpt, ↓finS, ↓metB, ↓chk, ↓tyD, ↓runF, ↓noOwn, ↓finF, ↓proj, ↓ps1, ↓metW, ↓appW, ↓setI, ↓parV, ↓stoL, ↓fjoin, ↓asgStar, ↓starD, ↓chain, ↓andV, ↓orV, ↓notV, ↓igt_ii, ↓ilt_ii, ↓ile_ii, ↓ige_ii, ↓isub_ii, ↓addH_ii, ix0, use_yes, q1, leave_no, hf2]
    · simp [↓bnd, ↓Res.bind, ↓VL.ret, ↓var, ↓cst, ↓op2, ↓op1, ↓fin2, ↓fin1, ↓toO, ↓toV, ↓rdO, ↓asB, ↓tvl, ↓tru, ↓finT, ↓truthD, ↓tand, ↓tor, ↓tnot, ↓ife, ↓blk, ↓sseq, ↓setS, ↓sto, ↓asg, ↓sexp, ↓sret, ↓sif, ↓evO, ↓evV, ↓rdOs, ↓finN, ↓callB, ↓okLen, ↓tupD, ↓lstD, ↓c1, ↓lenG, ↓asgT, ↓gnm, ↓gseq, ↓gtp, ↓slD, ↓pOpt, ↓finS, ↓metB, ↓chk, ↓tyD, ↓runF, ↓noOwn, ↓finF, ↓proj, ↓ps1, ↓metW, ↓appW, ↓setI, ↓parV, ↓stoL, ↓fjoin, ↓asgStar, ↓starD, ↓chain, ↓andV, ↓orV, ↓notV, ↓igt_ii, ↓ilt_ii, ↓ile_ii, ↓ige_ii, ↓isub_ii, ↓addH_ii, ne_nil]
    · rw [ev_one]
      simp [↓bnd, ↓Res.bind, ↓VL.ret, ↓var, ↓cst, ↓op2, ↓op1, ↓fin2, ↓fin1, ↓toO, ↓toV, ↓rdO, ↓asB, ↓tvl, ↓tru, ↓finT, ↓truthD, ↓tand, ↓tor, ↓tnot, ↓ife, ↓blk, ↓sseq, ↓setS, ↓sto, ↓asg, ↓sexp, ↓sret, ↓sif, ↓evO, ↓evV, ↓rdOs, ↓finN, ↓callB, ↓okLen, ↓tupD, ↓lstD, ↓c1, ↓lenG, ↓asgT, ↓gnm, ↓gseq, ↓gtp, ↓slD, ↓pOpt, ↓finS, ↓metB, ↓chk, ↓tyD, ↓runF, ↓noOwn, ↓finF, ↓proj, ↓ps1, ↓metW, ↓appW, ↓setI, ↓parV, ↓stoL, ↓fjoin, ↓asgStar, ↓starD, ↓chain, ↓andV, ↓orV, ↓notV, ↓igt_ii, ↓ilt_ii, ↓ile_ii, ↓ige_ii, ↓isub_ii, ↓addH_ii, t]
end L81

set_option maxRecDepth 100000
namespace L81
open PySem L2 VL
def Dd.w0 : Dd → Str
  | .sale .. => "sale"
  | .two w .. => word w
  | .use .. => "use"
def Dd.parts : Dd → List D
  | .sale n f o h => [.int n, st f o, .str h]
  | .two w n h f o g p => [.int n, .str h, st f o, st g p]
  | .use n m f o g p b => [.int n, .int m, st f o, st g p, .bl b]
def Dd.ws : Dd → List Str
  | .sale n f o h => [num n, stx f o, h]
  | .two w n h f o g p => [num n, h, stx f o, stx g p]
  | .use n m f o g p b => [num n, num m, stx f o, stx g p] ++ (if b then [("leave" : Str)] else [])
theorem Dd.d_eq (x : Dd) : x.d = .tup (.str x.w0 :: x.parts) := by cases x <;> rfl
theorem Dd.pws {x : Dd} (h : x.ok) : PWs x.parts x.ws := by
  cases x with
  | sale n f o t =>
    obtain ⟨h1, h2, h3⟩ := h
    exact .cons (.int (numO_day h1)) (.cons (.st h2) (.cons (.str h3) .nil))
  | two w n t f o g p =>
    obtain ⟨h1, h2, h3, h4⟩ := h
    exact .cons (.int (numO_day h1)) (.cons (.str h2) (.cons (.st h3) (.cons (.st h4) .nil)))
  | use n m f o g p b =>
    obtain ⟨h1, h2, h3, h4, h5⟩ := h
    cases b with
    | true =>
      have z := PWs.cons (PW.int (numO_day h1)) (.cons (.int (numO_day h2)) (.cons (.st h4) (.cons (.st h5) (.cons .yes .nil))))
      exact z
    | false =>
      have z := PWs.cons (PW.int (numO_day h1)) (.cons (.int (numO_day h2)) (.cons (.st h4) (.cons (.st h5) (.cons .no .nil))))
      exact z
theorem wlits : ∀ s ∈ (["sale", "grant", "end", "use"] : List Str), s.length ≤ 121 ∧ 32 ∉ TL.tl s ∧ (TL.tl s).all (fun c => decide (c < 128)) = true ∧ 1 ≤ (TL.tl s).length := by decide +kernel
theorem Dd.w0m (x : Dd) : x.w0 ∈ (["sale", "grant", "end", "use"] : List Str) := by
  cases x with
  | sale => exact List.mem_cons_self ..
  | two w => cases w <;> simp [Dd.w0, word]
  | use => simp [Dd.w0]
theorem Dd.w0o (x : Dd) : WordO x.w0 := ⟨(wlits _ x.w0m).1, (wlits _ x.w0m).2.1⟩
theorem Dd.w0a (x : Dd) : Asc x.w0 := asc_lit (wlits _ x.w0m).2.2.1
theorem Dd.plen (x : Dd) : x.parts.length ≤ 6 := by cases x <;> simp [Dd.parts]
def Dd.txt (x : Dd) : Str := Txt.join (" " : Str) (x.w0 :: x.ws)
theorem show_dd {x : Dd} (h : x.ok) : m_show_deed [.val x.d] = .ok (.val (.str x.txt)) [.un] := by
  rw [Dd.d_eq]
  exact show_any (Dd.pws h) x.w0o x.plen
theorem text_dd {x : Dd} (h : x.ok) : m__law_text [.val x.d] = .ok (.val (.str x.txt)) [.un] := by
  rw [Dd.d_eq]
  exact text_any (Dd.pws h) x.w0o x.plen
theorem asc_hand {t : Str} (h : handO t) : Asc t := fun c hc => by have := (h.2.2 c hc).2; omega
theorem asc_app {a b : Str} (ha : Asc a) (hb : Asc b) : Asc (a ++ b) := fun c hc => by
  rw [TL.tl_append] at hc
  rcases List.mem_append.mp hc with z | z
  · exact ha c z
  · exact hb c z
theorem asc_stx {f o : Int} (h : stO f o) : Asc (stx f o) := asc_app (asc_app (asc_num (numO_f h)) (asc_lit (by decide +kernel))) (asc_num (numO_o h))
theorem PW.asc {d : D} {ws : List Str} (h : PW d ws) : ∀ y ∈ ws, Asc y := by
  cases h with
  | st h => intro y hy; rw [List.mem_singleton.mp hy]; exact asc_stx h
  | int h => intro y hy; rw [List.mem_singleton.mp hy]; exact asc_num h
  | str h => intro y hy; rw [List.mem_singleton.mp hy]; exact asc_hand h
  | yes => intro y hy; rw [List.mem_singleton.mp hy]; exact asc_lit (by decide +kernel)
  | no => intro y hy; cases hy
theorem PWs.asc {ds : List D} {ws : List Str} (h : PWs ds ws) : ∀ y ∈ ws, Asc y := by
  induction h with
  | nil => intro y hy; cases hy
  | cons a _ ih =>
    intro y hy
    rcases List.mem_append.mp hy with z | z
    · exact a.asc y z
    · exact ih y z
theorem Dd.tlen (x : Dd) : 1 ≤ x.txt.length := by
  unfold Dd.txt
  rw [TL.len_tl, TL.join_eq, TL.tl_join]
  have h1 := (wlits _ x.w0m).2.2.2
  cases x.ws with
  | nil => simpa [TL.joinL] using h1
  | cons q r =>
    rw [List.map_cons, List.map_cons, TL.joinL, List.length_append]
    omega
theorem read_use {n m f o g p : Int} {b : Bool} {els : List D} {w1 w2 w3 w4 : Str} (he : els = [.str w1, .str w2, .str w3, .str w4] ++ (if b then [.str "leave"] else [])) (h1 : m_day_of [.val (.str w1)] = .ok (.val (.int n)) [.un]) (h2 : m_day_of [.val (.str w2)] = .ok (.val (.int m)) [.un]) (h3 : m_stretch_of [.val (.str w3)] = .ok (.val (st f o)) [.un]) (h4 : m_stretch_of [.val (.str w4)] = .ok (.val (st g p)) [.un]) (nm_ : n ≤ m) :
    m_read_words [.val (.lst (.str "use" :: els)), .val (.int 0)] = .ok (.val (Dd.use n m f o g p b).d) [.un, .un] := by
  obtain ⟨s, hs⟩ := tail_use (els := .str "use" :: els) (fnd := [.int n, .int m, st f o, st g p]) (kk := [.str "day", .str "day", .str "stretch", .str "stretch"]) (a := .int 4) (k := .str "stretch") (p := st g p) b (by simp) (by subst he; cases b <;> rfl)
  refine read_of rfl (rw3_ok (ks := [.str "day", .str "day", .str "stretch", .str "stretch", .str "leave"]) rfl (.inr (.inr ⟨rfl, rfl⟩))) ?_ hs
  have hl : (4 : Int) < ((D.str "use" :: els).length : Int) := by
    subst he
    cases b <;> simp
  subst he
  have e : enumD 1 [.str "day", .str "day", .str "stretch", .str "stretch"] = [.tup [.int 1, .str "day"], .tup [.int 2, .str "day"], .tup [.int 3, .str "stretch"], .tup [.int 4, .str "stretch"]] := rfl
  rw [e]
  cases b with
  | true =>
    rw [for_step (turn_any (m := m_day_of) (wrd := w1) (i := 1) rfl (by simp) h1 lk_day rfl (by simp) day_one)]
    refine (for_step (turn_any (fnd := [.str "use", .int n]) (m := m_day_of) (wrd := w2) (i := 2) rfl (by simp) h2 lk_day rfl (by simp) (day_two nm_))).trans ?_
    rw [for_step (turn_any (m := m_stretch_of) (wrd := w3) (i := 3) rfl (by simp) h3 lk_stretch rfl (by simp) (kind_no stretch_no))]
    rw [for_step (turn_any (m := m_stretch_of) (wrd := w4) (i := 4) rfl (by simp) h4 lk_stretch rfl (by simp) (kind_no stretch_no))]
    rfl
  | false =>
    rw [for_step (turn_any (m := m_day_of) (wrd := w1) (i := 1) rfl (by simp) h1 lk_day rfl (by simp) day_one)]
    refine (for_step (turn_any (fnd := [.str "use", .int n]) (m := m_day_of) (wrd := w2) (i := 2) rfl (by simp) h2 lk_day rfl (by simp) (day_two nm_))).trans ?_
    rw [for_step (turn_any (m := m_stretch_of) (wrd := w3) (i := 3) rfl (by simp) h3 lk_stretch rfl (by simp) (kind_no stretch_no))]
    rw [for_step (turn_any (m := m_stretch_of) (wrd := w4) (i := 4) rfl (by simp) h4 lk_stretch rfl (by simp) (kind_no stretch_no))]
    rfl
theorem read_two {n f o g p : Int} {h : Str} {w : Bool} {w1 w3 w4 : Str} (h1 : m_day_of [.val (.str w1)] = .ok (.val (.int n)) [.un]) (h2 : m_hand_of [.val (.str h)] = .ok (.val (.str h)) [.un]) (h3 : m_stretch_of [.val (.str w3)] = .ok (.val (st f o)) [.un]) (h4 : m_stretch_of [.val (.str w4)] = .ok (.val (st g p)) [.un]) :
    m_read_words [.val (.lst [.str (word w), .str w1, .str h, .str w3, .str w4]), .val (.int 0)] = .ok (.val (Dd.two w n h f o g p).d) [.un, .un] := by
  have t1 : tabIn true ["sale", "grant", "end", "use"] (.str (word w)) = some (.val (.bl false)) := by cases w <;> rfl
  have nu : eqG (.str (word w)) (.str "use") = some (.val (.bl false)) := by
    cases w
    · exact use_no (asc_lit (by decide +kernel)) (by decide +kernel)
    · exact use_no (asc_lit (by decide +kernel)) (by decide +kernel)
  refine read_of (els := [.str w1, .str h, .str w3, .str w4]) t1 (rw3_ok (ks := [.str "day", .str "hand", .str "stretch", .str "stretch"]) (by cases w <;> rfl) (.inr (.inl ⟨rfl, rfl⟩))) ?_ (tail_plain (fnd := [.int n, .str h, st f o, st g p]) (a := .int 4) (k := .str "stretch") (p := st g p) nu rfl)
  have e : enumD 1 [.str "day", .str "hand", .str "stretch", .str "stretch"] = [.tup [.int 1, .str "day"], .tup [.int 2, .str "hand"], .tup [.int 3, .str "stretch"], .tup [.int 4, .str "stretch"]] := rfl
  rw [e]
  rw [for_step (turn_any (m := m_day_of) (wrd := w1) (i := 1) rfl (by simp) h1 lk_day rfl (by simp) day_one)]
  rw [for_step (turn_any (m := m_hand_of) (wrd := h) (i := 2) rfl (by simp) h2 lk_hand rfl (by simp) (kind_no hand_no))]
  rw [for_step (turn_any (m := m_stretch_of) (wrd := w3) (i := 3) rfl (by simp) h3 lk_stretch rfl (by simp) (kind_no stretch_no))]
  rw [for_step (turn_any (m := m_stretch_of) (wrd := w4) (i := 4) rfl (by simp) h4 lk_stretch rfl (by simp) (kind_no stretch_no))]
  rfl
theorem read_sale {n f o : Int} {h w1 w3 : Str} (h1 : m_day_of [.val (.str w1)] = .ok (.val (.int n)) [.un]) (h2 : m_hand_of [.val (.str h)] = .ok (.val (.str h)) [.un]) (h3 : m_stretch_of [.val (.str w3)] = .ok (.val (st f o)) [.un]) :
    m_read_words [.val (.lst [.str "sale", .str w1, .str w3, .str h]), .val (.int 0)] = .ok (.val (Dd.sale n f o h).d) [.un, .un] := by
  have nu : eqG (.str "sale") (.str "use") = some (.val (.bl false)) := use_no (asc_lit (by decide +kernel)) (by decide +kernel)
  refine read_of (els := [.str w1, .str w3, .str h]) rfl (rw3_ok (ks := [.str "day", .str "stretch", .str "hand"]) rfl (.inl ⟨rfl, rfl⟩)) ?_ (tail_plain (fnd := [.int n, st f o, .str h]) (a := .int 3) (k := .str "hand") (p := .str h) nu rfl)
  have e : enumD 1 [.str "day", .str "stretch", .str "hand"] = [.tup [.int 1, .str "day"], .tup [.int 2, .str "stretch"], .tup [.int 3, .str "hand"]] := rfl
  rw [e]
  rw [for_step (turn_any (m := m_day_of) (wrd := w1) (i := 1) rfl (by simp) h1 lk_day rfl (by simp) day_one)]
  rw [for_step (turn_any (m := m_stretch_of) (wrd := w3) (i := 2) rfl (by simp) h3 lk_stretch rfl (by simp) (kind_no stretch_no))]
  rw [for_step (turn_any (m := m_hand_of) (wrd := h) (i := 3) rfl (by simp) h2 lk_hand rfl (by simp) (kind_no hand_no))]
  rfl
theorem read_words_dd {x : Dd} (h : x.ok) : m_read_words [.val (.lst ((x.w0 :: x.ws).map D.str)), .val (.int 0)] = .ok (.val x.d) [.un, .un] := by
  cases x with
  | sale n f o t => exact read_sale (day_of_ok h.1) (hand_of_ok h.2.2) (stretch_of_ok h.2.1)
  | two w n t f o g p => exact read_two (day_of_ok h.1) (hand_of_ok h.2.1) (stretch_of_ok h.2.2.1) (stretch_of_ok h.2.2.2)
  | use n m f o g p b => exact read_use (by cases b <;> rfl) (day_of_ok h.1) (day_of_ok h.2.1) (stretch_of_ok h.2.2.2.1) (stretch_of_ok h.2.2.2.2) h.2.2.1
theorem read_dd {x : Dd} (h : x.ok) : m_read_deed [.val (.str x.txt)] = .ok (.val x.d) [.un] := by
  have wo : ∀ y ∈ x.w0 :: x.ws, WordO y := by
    intro y hy
    rcases List.mem_cons.mp hy with z | z
    · rw [z]; exact x.w0o
    · exact (Dd.pws h).wo y z
  have wa : ∀ y ∈ x.w0 :: x.ws, Asc y := by
    intro y hy
    rcases List.mem_cons.mp hy with z | z
    · rw [z]; exact x.w0a
    · exact (Dd.pws h).asc y z
  have e0 := words_ok (ys := x.w0 :: x.ws) (by simp) wo wa (by have := (Dd.pws h).len; have := x.plen; rw [List.length_cons]; omega) x.tlen
  have e0 : m_words_of [.val (.str x.txt)] = .ok (.fresh ((x.w0 :: x.ws).map D.str)) [.un] := e0
  have e1 := read_words_dd h
  generalize (x.w0 :: x.ws).map D.str = els at e0 e1
  generalize x.txt = t at e0 ⊢
  refine run_of (ρ0 := [.val (.str t)]) (r := .val x.d) (ρ' := [.val (.str t)]) ⟨rfl, rfl⟩ rfl ?_ rfl
  unfold b_read_deed
  rw [ev_one]
  simp [bnd, Res.bind, VL.ret, var, cst, op2, op1, fin2, fin1, toO, toV, rdO, asB, tvl, tru, finT, truthD, tand, tor, tnot, ife, blk, sseq, setS, sto, asg, sexp, sret, sif, evO, evV, rdOs, finN, callB, okLen, tupD, lstD, c1, lenG, asgT, gnm, gseq, gtp, slD, pOpt, finS, metB, chk, tyD, evA, mkE, finC, callM, lentOf, wbk, wb1, runF, noOwn, finF, proj, ps1, metW, appW, setI, parV, stoL, fjoin, asgStar, starD, chain, andV, orV, notV, igt_ii, ilt_ii, ile_ii, ige_ii, isub_ii, addH_ii, e0, e1]
end L81

set_option maxRecDepth 100000
namespace L81
open PySem L2 VL
theorem rep_let : ∀ n ∈ List.range 26, Builtin.Str.reprChar 39 (97 + n) = [97 + n] ∧ Builtin.Str.reprChar 34 (97 + n) = [97 + n] := by decide +kernel
theorem fold_let {q : Nat} (hq : q = 39 ∨ q = 34) : ∀ (l : List Nat) (acc : Array Nat), (∀ c ∈ l, Let c) → (l.foldl (fun out c => out ++ (Builtin.Str.reprChar q c).toArray) acc).toList = acc.toList ++ l
  | [], acc, _ => by simp
  | c :: l, acc, h => by
    have hc := h c (List.mem_cons_self ..)
    have e : Builtin.Str.reprChar q c = [c] := by
      obtain ⟨k, rfl⟩ : ∃ k, c = 97 + k := ⟨c - 97, by have := hc.1; omega⟩
      have := rep_let k (List.mem_range.mpr (by have := hc.2; omega))
      rcases hq with rfl | rfl
      · exact this.1
      · exact this.2
    rw [List.foldl_cons, fold_let hq l _ fun z hz => h z (List.mem_cons_of_mem _ hz), e]
    simp
theorem tl_repr {x : Str} (h : ∀ c ∈ TL.tl x, Let c) : ∃ q, (q = 39 ∨ q = 34) ∧ TL.tl (reprText x) = [q] ++ TL.tl x ++ [q] := by
  have hq : reprQuote x = 39 ∨ reprQuote x = 34 := by
    unfold reprQuote
    split
    · exact .inr rfl
    · exact .inl rfl
  refine ⟨reprQuote x, hq, ?_⟩
  show ((x.cps.foldl (fun out c => out ++ (Builtin.Str.reprChar (reprQuote x) c).toArray) #[reprQuote x]).push (reprQuote x)).toList = _
  rw [Array.toList_push, ← Array.foldl_toList, fold_let hq _ _ h]
/-- a shown thing is short and plain -/
def Sh (p : PyData) : Prop := Asc p.shown ∧ p.shown.length ≤ 5000
def Sh1 (s : Str) : Prop := Asc s ∧ s.length ≤ 300
theorem sh_let {x : Str} (h : ∀ c ∈ TL.tl x, Let c) (l : x.length ≤ 100) : Sh1 (reprText x) := by
  obtain ⟨q, hq, e⟩ := tl_repr h
  refine ⟨fun c hc => ?_, ?_⟩
  · rw [e] at hc
    simp only [List.mem_append, List.mem_singleton] at hc
    rcases hc with (rfl | z) | rfl
    · omega
    · have := (h c z).2
      omega
    · omega
  · rw [TL.len_tl, e, List.length_append, List.length_append, List.length_singleton]
    rw [TL.len_tl] at l
    omega
theorem sh_tup {ts : List Str} (h : ∀ t ∈ ts, Sh1 t) (l : ts.length ≤ 8) : Asc (tupleText ts) ∧ (tupleText ts).length ≤ 2500 := by
  have hs : (ts.map (·.length)).sum ≤ 300 * ts.length := by
    clear l
    induction ts with
    | nil => simp
    | cons t ts ih =>
      have h1 := (h t (List.mem_cons_self ..)).2
      have h2 := ih fun z hz => h z (List.mem_cons_of_mem _ hz)
      rw [List.map_cons, List.sum_cons, List.length_cons]
      omega
  have e2 : TL.tl (", " : Str) = [44, 32] := rfl
  have e1 : TL.tl ("(" : Str) = [40] := rfl
  have hj : Asc (Str.join (", " : Str) ts) := fun c hc => by
    rw [TL.tl_join] at hc
    rcases joinL_mem hc with z | ⟨m, hm, z⟩
    · rw [e2] at z
      simp at z
      omega
    · obtain ⟨y, hy, rfl⟩ := List.mem_map.mp hm
      exact (h y hy).1 c z
  have lj : (Str.join (", " : Str) ts).length ≤ 302 * ts.length := by
    rw [TL.len_tl, TL.tl_join, e2]
    have a := joinL_len (TL.tl (", " : Str)) (ts.map TL.tl)
    have e3 : (ts.map TL.tl).map List.length = ts.map (·.length) := by
      rw [List.map_map]
      exact List.map_congr_left fun y _ => (TL.len_tl y).symm
    rw [e3, e2, List.length_map] at a
    simp at a
    omega
  have ho : Asc ("(" : Str) := asc_lit (by decide +kernel)
  have hc : Asc (Str.ofString (if ts.length == 1 then ",)" else ")" : String)) ∧ (Str.ofString (if ts.length == 1 then ",)" else ")" : String)).length ≤ 2 := by
    split
    · exact ⟨asc_lit (by decide +kernel), by decide +kernel⟩
    · exact ⟨asc_lit (by decide +kernel), by decide +kernel⟩
  have lo : ("(" : Str).length = 1 := rfl
  unfold tupleText
  refine ⟨asc_app (asc_app ho hj) hc.1, ?_⟩
  rw [str_len, str_len, lo]
  have := hc.2
  omega
theorem sh_num {i : Int} (h : numO i) : Sh1 (num i) := ⟨asc_num h, Nat.le_trans (num_len h) (by decide)⟩
theorem sh_st {f o : Int} (h : stO f o) : Asc (toP (st f o)).shown ∧ (toP (st f o)).shown.length ≤ 300 := by
  have e : (toP (st f o)).shown = tupleText [num f, num o] := by
    simp only [st, toP, toPs, PyData.shown, PyData.shownAll]
    rfl
  rw [e]
  refine ⟨(sh_tup (ts := [num f, num o]) (by
    intro t ht
    simp at ht
    rcases ht with rfl | rfl
    · exact sh_num (numO_f h)
    · exact sh_num (numO_o h)) (by simp)).1, ?_⟩
  have l1 := num_len (numO_f h)
  have l2 := num_len (numO_o h)
  have e2 : TL.tl (", " : Str) = [44, 32] := rfl
  have lj : (Str.join (", " : Str) [num f, num o]).length ≤ 130 := by
    rw [TL.len_tl, TL.tl_join]
    have a := joinL_len (TL.tl (", " : Str)) [TL.tl (num f), TL.tl (num o)]
    rw [TL.len_tl] at l1 l2
    rw [e2] at a ⊢
    have a2 : (TL.joinL [44, 32] [TL.tl (num f), TL.tl (num o)]).length ≤ ((TL.tl (num f)).length + ((TL.tl (num o)).length + 0)) + 4 := a
    show (TL.joinL [44, 32] [TL.tl (num f), TL.tl (num o)]).length ≤ 130
    omega
  unfold tupleText
  have lo : ("(" : Str).length = 1 := rfl
  have lc : (Str.ofString (if [num f, num o].length == 1 then ",)" else ")" : String)).length = 1 := rfl
  rw [str_len, str_len, lo, lc]
  omega
theorem numO_show {i : Int} (h : numO i) : PyData.showable (.int i) = true := by
  have : i.natAbs.log2 < 1920 := log2_lt (by decide) (by
    have h1 := h.1
    have h2 := h.2
    have : (10 : Nat) ^ 60 < 2 ^ 1920 := by decide +kernel
    omega)
  simp [PyData.showable, this]
theorem let_word : ∀ s ∈ (["sale", "grant", "end", "use"] : List Str), (TL.tl s).all (fun c => decide (97 ≤ c ∧ c ≤ 122)) = true := by decide +kernel
theorem sh_w0 (x : Dd) : Sh1 (reprText x.w0) := sh_let (fun c hc => by
  have := List.all_eq_true.mp (let_word _ x.w0m) c hc
  exact of_decide_eq_true (p := 97 ≤ c ∧ c ≤ 122) this) (by
  have h := x.w0m
  have : ∀ s ∈ (["sale", "grant", "end", "use"] : List Str), s.length ≤ 100 := by decide +kernel
  exact this _ h)
theorem repr_dd {x : Dd} (h : x.ok) : ∃ t, reprG x.d = some (.val (.str t)) ∧ Asc t := by
  have key : ∀ ts : List Str, (toP x.d).shown = tupleText ts → (∀ t ∈ ts, Sh1 t) → ts.length ≤ 8 → (toP x.d).showable = true → (toP x.d).hasDict = false → (toP x.d).depth ≤ 64 → noScr x.d = true → ∃ t, reprG x.d = some (.val (.str t)) ∧ Asc t := fun ts e h1 h2 h3 h4 h5 h6 => by
    obtain ⟨a, l⟩ := sh_tup h1 h2
    rw [← e] at a l
    refine ⟨(toP x.d).shown, ?_, a⟩
    rw [Dd.d_eq] at h3 h4 h5 h6 l ⊢
    unfold reprG
    exact if_pos ⟨h6, h3, h4, h5, Nat.le_trans l (by decide)⟩
  cases x with
  | sale n f o t =>
    obtain ⟨h1, h2, h3⟩ := h
    have s2 := sh_st h2
    refine key [reprText "sale", num n, (toP (st f o)).shown, reprText t] (by simp only [Dd.d, toP, toPs, PyData.shown, PyData.shownAll]; rfl) ?_ (by simp) ?_ (by simp [Dd.d, st, toP, toPs, PyData.hasDict, PyData.hasDictAll]) (by simp [Dd.d, st, toP, toPs, PyData.depth, PyData.depthAll]) (by simp [Dd.d, st, noScr, noScrs])
    · intro z hz
      simp at hz
      rcases hz with rfl | rfl | rfl | rfl
      · exact sh_w0 (.sale n f o t)
      · exact sh_num (numO_day h1)
      · exact s2
      · exact sh_let h3.2.2 (Nat.le_trans h3.2.1 (by decide))
    · have := numO_show (numO_day h1)
      have := numO_show (numO_f h2)
      have := numO_show (numO_o h2)
      simp_all [Dd.d, st, toP, toPs, PyData.showable, PyData.showableAll]
  | two w n t f o g p =>
    obtain ⟨h1, h2, h3, h4⟩ := h
    have s3 := sh_st h3
    have s4 := sh_st h4
    refine key [reprText (word w), num n, reprText t, (toP (st f o)).shown, (toP (st g p)).shown] (by simp only [Dd.d, toP, toPs, PyData.shown, PyData.shownAll]; rfl) ?_ (by simp) ?_ (by simp [Dd.d, st, toP, toPs, PyData.hasDict, PyData.hasDictAll]) (by simp [Dd.d, st, toP, toPs, PyData.depth, PyData.depthAll]) (by simp [Dd.d, st, noScr, noScrs])
    · intro z hz
      simp at hz
      rcases hz with rfl | rfl | rfl | rfl | rfl
      · exact sh_w0 (.two w n t f o g p)
      · exact sh_num (numO_day h1)
      · exact sh_let h2.2.2 (Nat.le_trans h2.2.1 (by decide))
      · exact s3
      · exact s4
    · have := numO_show (numO_day h1)
      have := numO_show (numO_f h3)
      have := numO_show (numO_o h3)
      have := numO_show (numO_f h4)
      have := numO_show (numO_o h4)
      simp_all [Dd.d, st, toP, toPs, PyData.showable, PyData.showableAll]
  | use n m f o g p b =>
    obtain ⟨h1, h2, h3, h4, h5⟩ := h
    have s3 := sh_st h4
    have s4 := sh_st h5
    refine key [reprText "use", num n, num m, (toP (st f o)).shown, (toP (st g p)).shown, (PyData.bool b).shown] (by simp only [Dd.d, toP, toPs, PyData.shown, PyData.shownAll]; rfl) ?_ (by simp) ?_ (by simp [Dd.d, st, toP, toPs, PyData.hasDict, PyData.hasDictAll]) (by simp [Dd.d, st, toP, toPs, PyData.depth, PyData.depthAll]) (by simp [Dd.d, st, noScr, noScrs])
    · intro z hz
      simp at hz
      rcases hz with rfl | rfl | rfl | rfl | rfl | rfl
      · exact sh_w0 (.use n m f o g p b)
      · exact sh_num (numO_day h1)
      · exact sh_num (numO_day h2)
      · exact s3
      · exact s4
      · cases b
        · exact ⟨asc_lit (by decide +kernel), by decide +kernel⟩
        · exact ⟨asc_lit (by decide +kernel), by decide +kernel⟩
    · have := numO_show (numO_day h1)
      have := numO_show (numO_day h2)
      have := numO_show (numO_f h4)
      have := numO_show (numO_o h4)
      have := numO_show (numO_f h5)
      have := numO_show (numO_o h5)
      simp_all [Dd.d, st, toP, toPs, PyData.showable, PyData.showableAll]
end L81

set_option maxRecDepth 100000
namespace L81
open PySem L2 VL
theorem asc_txt {x : Dd} (h : x.ok) : Asc x.txt := fun c hc => by
  unfold Dd.txt at hc
  rw [TL.join_eq, TL.tl_join] at hc
  rcases joinL_mem hc with z | ⟨l, hl, z⟩
  · rw [tl_sp, List.mem_singleton] at z
    omega
  · obtain ⟨y, hy, rfl⟩ := List.mem_map.mp hl
    rcases List.mem_cons.mp hy with e | e
    · rw [e] at z
      exact x.w0a c z
    · exact (Dd.pws h).asc y e c z
theorem txt_inj {x y : Dd} (hx : x.ok) (hy : y.ok) (h : x.txt = y.txt) : x.d = y.d := by
  have a := read_dd hx
  have b := read_dd hy
  rw [h, b] at a
  injection a with a
  injection a with a
  exact a.symm
theorem okP_let {t : Str} (h : Asc t) : SeqAt.shaped (toP (.str t)) = true := by
  have := asc_ok h
  unfold okP at this
  rw [Bool.and_eq_true] at this
  exact this.2
theorem strOk_of {t : Str} (h : Asc t) : PyData.strOk t = true := by
  have := okP_let h
  unfold SeqAt.shaped at this
  rw [Bool.and_eq_true] at this
  exact this.1
theorem okP_dd {x : Dd} (h : x.ok) : okP x.d = true := by
  have w := strOk_of x.w0a
  cases x with
  | sale n f o t =>
    have s := strOk_of (asc_hand h.2.2)
    have w : PyData.strOk "sale" = true := w
    simp [Dd.d, st, okP, noScr, noScrs, SeqAt.shaped, toP, toPs, PyData.canLay0, PyData.canLayAll0, PyData.depth, PyData.depthAll, s, w]
  | two w' n t f o g p =>
    have s := strOk_of (asc_hand h.2.1)
    have w : PyData.strOk (word w') = true := w
    simp [Dd.d, st, okP, noScr, noScrs, SeqAt.shaped, toP, toPs, PyData.canLay0, PyData.canLayAll0, PyData.depth, PyData.depthAll, s, w]
  | use n m f o g p b =>
    have w : PyData.strOk "use" = true := w
    simp [Dd.d, st, okP, noScr, noScrs, SeqAt.shaped, toP, toPs, PyData.canLay0, PyData.canLayAll0, PyData.depth, PyData.depthAll, w]
theorem eqv_dd (x y : Dd) : PyData.eqv (toP x.d) (toP y.d) = true ↔ x.d = y.d := by
  cases x <;> cases y <;> simp [Dd.d, st, toP, toPs, PyData.eqv, PyData.eqvAll]
theorem eq_dd {x y : Dd} (hx : x.ok) (hy : y.ok) : eqG x.d y.d = some (.val (.bl (decide (x.txt = y.txt)))) := by
  unfold eqG
  rw [if_pos ⟨okP_dd hx, okP_dd hy⟩]
  have : PyData.eqv (toP x.d) (toP y.d) = decide (x.txt = y.txt) := by
    by_cases h : x.txt = y.txt
    · rw [decide_eq_true h, (eqv_dd x y).mpr (txt_inj hx hy h)]
    · rw [decide_eq_false h]
      cases q : PyData.eqv (toP x.d) (toP y.d) with
      | false => rfl
      | true =>
        exfalso
        have z := (eqv_dd x y).mp q
        have a := show_dd hx
        have b := show_dd hy
        rw [z, b] at a
        injection a with a
        injection a with a
        injection a with a
        exact h a.symm
  rw [this]
theorem ne_bb (a b : Bool) : neG (.bl a) (.bl b) = some (.val (.bl (!(a == b)))) := by
  unfold neG
  rw [if_pos ⟨rfl, rfl⟩]
  rfl
abbrev envQ (bag : List D) (s1 s2 s3 s4 s5 s6 s7 s8 : Sl) : En := [.own true bag, s1, s2, s3, s4, s5, s6, s7, s8]
def Free (x : Sl) : Prop := ∀ a, x ≠ .own true a
theorem set_free {ρ : En} {i : Nat} {x : Sl} {y : Sl} (h : ρ[i]? = some x) (f : Free x) : setS i y ρ = .ok () (ρ.set i y) := by
  unfold setS
  rw [h]
  cases x with
  | own io a =>
    cases io with
    | true => exact absurd rfl (f a)
    | false => rfl
  | un => rfl
  | val v => rfl
theorem free_un : Free .un := fun a z => by cases z
theorem free_val (d : D) : Free (.val d) := fun a z => by cases z
theorem lcd_eq {it : M (List D)} {vs : List Nat} {t : D → M Unit} {c : M Bool} {el : M R} {ρ ρ1 ρ2 ρ3 : En} {ds acc : List D} (h1 : it ρ = .ok ds ρ1) (hl : ds.length ≤ 1000000) (h2 : compL vs t c el ds [] ρ1 = .ok acc ρ2) (h3 : wip vs ρ2 = .ok () ρ3) : lcd it vs t c el ρ = .ok (.fresh acc) ρ3 := by
  have h4 := lim_ok hl ρ1
  unfold lcd bnd
  rw [h1]
  show ((lim ds.length ρ1).bind _) = _
  rw [h4]
  show ((compL vs t c el ds [] ρ1).bind _) = _
  rw [h2]
  show ((wip vs ρ2).bind _) = _
  rw [h3]
  rfl
theorem asg_fresh {i : Nat} {fe : M R} {ρ ρ1 : En} {ds : List D} {x : Sl} (h : fe ρ = .ok (.fresh ds) ρ1) (hx : ρ1[i]? = some x) (f : Free x) : asg i fe ρ = .ok .nx (ρ1.set i (.own false ds)) := by
  unfold asg bnd
  rw [h]
  show ((setS i (.own false ds) ρ1).bind _) = _
  rw [set_free hx f]
  rfl
theorem deeds_ok {bag : List D} (b : Bag bag) : ∃ (xs : List Dd) (bag' : List D), (asg 1 (lcd (bnd (evO [(cst (.int 6))]) rng1) [8] (gnm 8) (VL.ret true) (callM m__law_any_deed [.io (var 0)]))) (envQ bag .un .un .un .un .un .un .un .un) = .ok .nx (envQ bag' (.own false (xs.map Dd.d)) .un .un .un .un .un .un .un) ∧ xs.length = 6 ∧ (∀ x ∈ xs, x.ok) ∧ Bag bag' := by
  obtain ⟨acc, ρ1, e1, xs, bag1, x1, rfl, rfl, l1, h1, b1, f1⟩ := comp_all (vs := [8]) (t := gnm 8) (el := callM m__law_any_deed [.io (var 0)]) (ds := rngD 0 6) (acc := []) (ρ := envQ bag .un .un .un .un .un .un .un .un)
    (fun i acc ρ => ∃ (xs : List Dd) (bg : List D) (x : Sl), acc = xs.map Dd.d ∧ ρ = envQ bg .un .un .un .un .un .un .un x ∧ xs.length = i ∧ (∀ x ∈ xs, x.ok) ∧ Bag bg ∧ Free x)
    ⟨[], bag, .un, rfl, rfl, rfl, by simp, b, free_un⟩ (by
      rintro i d acc ρ hd ⟨xs, bg, x, rfl, rfl, l, h, b, fx⟩
      obtain ⟨y, bg', e, oy, b'⟩ := any_ok b
      refine ⟨y.d, envQ bg' .un .un .un .un .un .un .un (.val d), ?_, xs ++ [y], bg', .val d, by simp, rfl, by simp [l], ?_, b', free_val d⟩
      · have w1 : wip [8] (envQ bg .un .un .un .un .un .un .un x) = .ok () (envQ bg .un .un .un .un .un .un .un .un) := set_free (i := 8) rfl fx
        have w2 : gnm 8 d (envQ bg .un .un .un .un .un .un .un .un) = .ok () (envQ bg .un .un .un .un .un .un .un (.val d)) := set_free (i := 8) rfl free_un
        have w3 : callM m__law_any_deed [.io (var 0)] (envQ bg .un .un .un .un .un .un .un (.val d)) = .ok (.val y.d) (envQ bg' .un .un .un .un .un .un .un (.val d)) := by
          simp [bnd, Res.bind, VL.ret, var, cst, op2, op1, fin2, fin1, toO, toV, rdO, asB, tvl, tru, finT, truthD, tand, tor, tnot, ife, blk, sseq, setS, sto, asg, sexp, sret, sif, evO, evV, rdOs, finN, callB, okLen, tupD, lstD, c1, lenG, asgT, gnm, gseq, gtp, slD, pOpt, finS, metB, chk, tyD, evA, mkE, finC, callM, lentOf, wbk, wb1, runF, noOwn, finF, proj, ps1, metW, appW, setI, parV, stoL, fjoin, asgStar, starD, chain, andV, orV, notV, igt_ii, ilt_ii, ile_ii, ige_ii, isub_ii, addH_ii, e]
        simp only [bnd, Res.bind, w1, w2, noex, w3, toV, VL.ret]
      · intro z hz
        rcases List.mem_append.mp hz with q | q
        · exact h z q
        · rw [List.mem_singleton.mp q]
          exact oy)
  refine ⟨xs, bag1, ?_, l1, h1, b1⟩
  have w1 : wip [8] (envQ bag1 .un .un .un .un .un .un .un x1) = .ok () (envQ bag1 .un .un .un .un .un .un .un .un) := set_free (i := 8) rfl f1
  have er : (bnd (evO [(cst (.int 6))]) rng1) (envQ bag .un .un .un .un .un .un .un .un) = .ok (rngD 0 6) (envQ bag .un .un .un .un .un .un .un .un) := rng1_ok (k := 6) (by omega) _
  exact asg_fresh (lcd_eq er (by decide) e1 w1) rfl free_un
theorem said_ok {bag : List D} {xs : List Dd} (h : ∀ x ∈ xs, x.ok) (hl : xs.length = 6) : (asg 2 (lcd (itA (var 1)) [3] (gnm 3) (VL.ret true) (callM m_show_deed [.e (var 3)]))) (envQ bag (.own false (xs.map Dd.d)) .un .un .un .un .un .un .un) = .ok .nx (envQ bag (.val (.lst (xs.map Dd.d))) (.own false (xs.map fun x => .str x.txt)) .un .un .un .un .un .un) := by
  obtain ⟨acc, ρ1, e1, x1, rfl, rfl, f1⟩ := comp_all (vs := [3]) (t := gnm 3) (el := callM m_show_deed [.e (var 3)]) (ds := xs.map Dd.d) (acc := []) (ρ := envQ bag (.val (.lst (xs.map Dd.d))) .un .un .un .un .un .un .un)
    (fun i acc ρ => ∃ (x : Sl), acc = (xs.take i).map (fun x => D.str x.txt) ∧ ρ = envQ bag (.val (.lst (xs.map Dd.d))) .un x .un .un .un .un .un ∧ Free x)
    ⟨.un, by simp, rfl, free_un⟩ (by
      rintro i d acc ρ hd ⟨x, rfl, rfl, fx⟩
      rw [List.getElem?_map] at hd
      cases q : xs[i]? with
      | none => rw [q] at hd; cases hd
      | some y =>
        rw [q] at hd
        have hd : d = y.d := (Option.some.inj hd).symm
        subst hd
        have oy := h y (List.mem_of_getElem? q)
        refine ⟨.str y.txt, envQ bag (.val (.lst (xs.map Dd.d))) .un (.val y.d) .un .un .un .un .un, ?_, .val y.d, ?_, rfl, free_val _⟩
        · have w1 : wip [3] (envQ bag (.val (.lst (xs.map Dd.d))) .un x .un .un .un .un .un) = .ok () (envQ bag (.val (.lst (xs.map Dd.d))) .un .un .un .un .un .un .un) := set_free (i := 3) rfl fx
          have w2 : gnm 3 y.d (envQ bag (.val (.lst (xs.map Dd.d))) .un .un .un .un .un .un .un) = .ok () (envQ bag (.val (.lst (xs.map Dd.d))) .un (.val y.d) .un .un .un .un .un) := set_free (i := 3) rfl free_un
          have w3 : callM m_show_deed [.e (var 3)] (envQ bag (.val (.lst (xs.map Dd.d))) .un (.val y.d) .un .un .un .un .un) = .ok (.val (.str y.txt)) (envQ bag (.val (.lst (xs.map Dd.d))) .un (.val y.d) .un .un .un .un .un) := by
            simp [bnd, Res.bind, VL.ret, var, cst, op2, op1, fin2, fin1, toO, toV, rdO, asB, tvl, tru, finT, truthD, tand, tor, tnot, ife, blk, sseq, setS, sto, asg, sexp, sret, sif, evO, evV, rdOs, finN, callB, okLen, tupD, lstD, c1, lenG, asgT, gnm, gseq, gtp, slD, pOpt, finS, metB, chk, tyD, evA, mkE, finC, callM, lentOf, wbk, wb1, runF, noOwn, finF, proj, ps1, metW, appW, setI, parV, stoL, fjoin, asgStar, starD, chain, andV, orV, notV, igt_ii, ilt_ii, ile_ii, ige_ii, isub_ii, addH_ii, show_dd oy]
          simp only [bnd, Res.bind, w1, w2, noex, w3, toV, VL.ret]
        · have hi := (List.getElem?_eq_some_iff.mp q).1
          have e : xs.take (i + 1) = xs.take i ++ [y] := by
            rw [List.take_add_one, q]
            rfl
          rw [e, List.map_append]
          rfl)
  have w1 : wip [3] (envQ bag (.val (.lst (xs.map Dd.d))) .un x1 .un .un .un .un .un) = .ok () (envQ bag (.val (.lst (xs.map Dd.d))) .un .un .un .un .un .un .un) := set_free (i := 3) rfl f1
  have ei : itA (var 1) (envQ bag (.own false (xs.map Dd.d)) .un .un .un .un .un .un .un) = .ok (xs.map Dd.d) (envQ bag (.val (.lst (xs.map Dd.d))) .un .un .un .un .un .un .un) := rfl
  have ln : xs.take (xs.map Dd.d).length = xs := by rw [List.length_map, List.take_length]
  rw [ln] at e1
  exact asg_fresh (lcd_eq ei (by rw [List.length_map]; omega) e1 w1) rfl free_un
end L81

set_option maxRecDepth 100000
namespace L81
open PySem L2 VL
theorem ixG_at {ds : List D} {k : Nat} {d : D} (h : ds[k]? = some d) : ixG (.lst ds) (.int (k : Int)) = some (.val d) := by
  have hk := (List.getElem?_eq_some_iff.mp h).1
  have : atI ds (k : Int) = some d := by
    unfold atI ixN
    have z : (k : Int) < (ds.length : Int) := by omega
    simp [z, h]
  show (atI ds k).map _ = _
  rw [this]
  rfl
theorem rngD_get {n i : Nat} {d : D} (h : (rngD 0 n)[i]? = some d) : i < n ∧ d = .int (i : Int) := by
  unfold rngD at h
  rw [List.getElem?_map] at h
  by_cases hi : i < n
  · rw [List.getElem?_range hi] at h
    have := Option.some.inj h
    refine ⟨hi, ?_⟩
    rw [← this]
    simp
  · rw [List.getElem?_eq_none (by simp; omega)] at h
    cases h
theorem asg_val {i : Nat} {fe : M R} {ρ ρ1 : En} {d : D} {x : Sl} (h : fe ρ = .ok (.val d) ρ1) (hx : ρ1[i]? = some x) (f : Free x) : asg i fe ρ = .ok .nx (ρ1.set i (.val d)) := by
  unfold asg bnd
  rw [h]
  show ((setS i (.val d) ρ1).bind _) = _
  rw [set_free hx f]
  rfl
theorem it_eq {fs : List (M R)} {k : List Od → M (List D)} {os : List Od} {ds : List D} {ρ ρ1 ρ2 : En} (h : evO fs ρ = .ok os ρ1) (h2 : k os ρ1 = .ok ds ρ2) : (bnd (evO fs) k) ρ = .ok ds ρ2 := by
  unfold bnd
  rw [h]
  exact h2
theorem step_of {f : M Unit} {body : SM} {ρ ρ1 : En} (h : f ρ = .ok () ρ1) : (bnd f fun _ => body) ρ = body ρ1 := by
  unfold bnd
  rw [h]
  rfl
def lrBody : SM := (blk [(sif (tor (tnot (tru (op1 (isiD "str") (var 4)))) (tvl (op2 neG (var 4) (callM m__law_text [.e (var 3)])))) (blk [(sret (cst (.bl false)))]) (blk [])),
      (asg 5 (callM m_read_deed [.e (var 4)])),
      (sif (tor (tvl (op2 neG (callB (c1 reprG) [(var 5)]) (callB (c1 reprG) [(var 3)]))) (tor (tvl (op2 neG (callB (c1 reprG) [(callM m_read_deed [.e (var 4)])]) (callB (c1 reprG) [(var 3)]))) (tvl (op2 neG (callM m_show_deed [.e (var 5)]) (var 4))))) (blk [(sret (cst (.bl false)))]) (blk []))])
theorem lr_turn {bag : List D} {L1 L2 : D} {x : Dd} (h : x.ok) {s3 s4 s5 : Sl} (f3 : Free s3) (f4 : Free s4) (f5 : Free s5) :
    (bnd (gtp [(gnm 3), (gnm 4)] (.tup [x.d, .str x.txt])) fun _ => lrBody) (envQ bag (.val L1) (.val L2) s3 s4 s5 .un .un .un) = .ok .nx (envQ bag (.val L1) (.val L2) (.val x.d) (.val (.str x.txt)) (.val x.d) .un .un .un) := by
  have q1 : neG (.str x.txt) (.str x.txt) = some (.val (.bl false)) := by
    have := ne_ss (asc_txt h) (asc_txt h)
    rwa [decide_eq_true rfl] at this
  obtain ⟨t, er, at_⟩ := repr_dd h
  have q2 : neG (.str t) (.str t) = some (.val (.bl false)) := by
    have := ne_ss at_ at_
    rwa [decide_eq_true rfl] at this
  have i1 : isiD "str" (.str x.txt) = some (.val (.bl true)) := rfl
  have w1 : gnm 3 x.d (envQ bag (.val L1) (.val L2) s3 s4 s5 .un .un .un) = .ok () (envQ bag (.val L1) (.val L2) (.val x.d) s4 s5 .un .un .un) := set_free (i := 3) rfl f3
  have w2 : gnm 4 (.str x.txt) (envQ bag (.val L1) (.val L2) (.val x.d) s4 s5 .un .un .un) = .ok () (envQ bag (.val L1) (.val L2) (.val x.d) (.val (.str x.txt)) s5 .un .un .un) := set_free (i := 4) rfl f4
  have w3 : gtp [(gnm 3), (gnm 4)] (.tup [x.d, .str x.txt]) (envQ bag (.val L1) (.val L2) s3 s4 s5 .un .un .un) = .ok () (envQ bag (.val L1) (.val L2) (.val x.d) (.val (.str x.txt)) s5 .un .un .un) := by
    simp only [gtp, gseq, bnd, w1, w2, Res.bind, VL.ret]
  have w11 : callM m__law_text [.e (var 3)] (envQ bag (.val L1) (.val L2) (.val x.d) (.val (.str x.txt)) s5 .un .un .un) = .ok (.val (.str x.txt)) (envQ bag (.val L1) (.val L2) (.val x.d) (.val (.str x.txt)) s5 .un .un .un) := by
    simp [bnd, Res.bind, VL.ret, var, cst, op2, op1, fin2, fin1, toO, toV, rdO, asB, tvl, tru, finT, truthD, tand, tor, tnot, ife, blk, sseq, setS, sto, asg, sexp, sret, sif, evO, evV, rdOs, finN, callB, okLen, tupD, lstD, c1, lenG, asgT, gnm, gseq, gtp, slD, pOpt, finS, metB, chk, tyD, evA, mkE, finC, callM, lentOf, wbk, wb1, runF, noOwn, finF, proj, ps1, metW, appW, setI, parV, stoL, fjoin, asgStar, starD, chain, andV, orV, notV, igt_ii, ilt_ii, ile_ii, ige_ii, isub_ii, addH_ii, text_dd h]
  have w12 : callM m_read_deed [.e (var 4)] (envQ bag (.val L1) (.val L2) (.val x.d) (.val (.str x.txt)) s5 .un .un .un) = .ok (.val x.d) (envQ bag (.val L1) (.val L2) (.val x.d) (.val (.str x.txt)) s5 .un .un .un) := by
    simp [bnd, Res.bind, VL.ret, var, cst, op2, op1, fin2, fin1, toO, toV, rdO, asB, tvl, tru, finT, truthD, tand, tor, tnot, ife, blk, sseq, setS, sto, asg, sexp, sret, sif, evO, evV, rdOs, finN, callB, okLen, tupD, lstD, c1, lenG, asgT, gnm, gseq, gtp, slD, pOpt, finS, metB, chk, tyD, evA, mkE, finC, callM, lentOf, wbk, wb1, runF, noOwn, finF, proj, ps1, metW, appW, setI, parV, stoL, fjoin, asgStar, starD, chain, andV, orV, notV, igt_ii, ilt_ii, ile_ii, ige_ii, isub_ii, addH_ii, read_dd h]
  have w13 : callM m_read_deed [.e (var 4)] (envQ bag (.val L1) (.val L2) (.val x.d) (.val (.str x.txt)) (.val x.d) .un .un .un) = .ok (.val x.d) (envQ bag (.val L1) (.val L2) (.val x.d) (.val (.str x.txt)) (.val x.d) .un .un .un) := by
    simp [bnd, Res.bind, VL.ret, var, cst, op2, op1, fin2, fin1, toO, toV, rdO, asB, tvl, tru, finT, truthD, tand, tor, tnot, ife, blk, sseq, setS, sto, asg, sexp, sret, sif, evO, evV, rdOs, finN, callB, okLen, tupD, lstD, c1, lenG, asgT, gnm, gseq, gtp, slD, pOpt, finS, metB, chk, tyD, evA, mkE, finC, callM, lentOf, wbk, wb1, runF, noOwn, finF, proj, ps1, metW, appW, setI, parV, stoL, fjoin, asgStar, starD, chain, andV, orV, notV, igt_ii, ilt_ii, ile_ii, ige_ii, isub_ii, addH_ii, read_dd h]
  have w14 : callM m_show_deed [.e (var 5)] (envQ bag (.val L1) (.val L2) (.val x.d) (.val (.str x.txt)) (.val x.d) .un .un .un) = .ok (.val (.str x.txt)) (envQ bag (.val L1) (.val L2) (.val x.d) (.val (.str x.txt)) (.val x.d) .un .un .un) := by
    simp [bnd, Res.bind, VL.ret, var, cst, op2, op1, fin2, fin1, toO, toV, rdO, asB, tvl, tru, finT, truthD, tand, tor, tnot, ife, blk, sseq, setS, sto, asg, sexp, sret, sif, evO, evV, rdOs, finN, callB, okLen, tupD, lstD, c1, lenG, asgT, gnm, gseq, gtp, slD, pOpt, finS, metB, chk, tyD, evA, mkE, finC, callM, lentOf, wbk, wb1, runF, noOwn, finF, proj, ps1, metW, appW, setI, parV, stoL, fjoin, asgStar, starD, chain, andV, orV, notV, igt_ii, ilt_ii, ile_ii, ige_ii, isub_ii, addH_ii, show_dd h]
  show (gtp [(gnm 3), (gnm 4)] (.tup [x.d, .str x.txt]) _).bind _ = _
  rw [w3]
  show lrBody _ = _
  unfold lrBody
  refine (ev_cons (ρ1 := envQ bag (.val L1) (.val L2) (.val x.d) (.val (.str x.txt)) s5 .un .un .un) ?_).trans ((ev_cons (ρ1 := envQ bag (.val L1) (.val L2) (.val x.d) (.val (.str x.txt)) (.val x.d) .un .un .un) ?_).trans ?_)
  · simp [↓bnd, ↓Res.bind, ↓VL.ret, ↓var, ↓cst, ↓op2, ↓op1, ↓fin2, ↓fin1, ↓toO, ↓toV, ↓rdO, ↓asB, ↓tvl, ↓tru, ↓finT, ↓truthD, ↓tand, ↓tor, ↓tnot, ↓ife, ↓blk, ↓sseq, ↓setS, ↓sto, ↓asg, ↓sexp, ↓sret, ↓sif, ↓evO, ↓evV, ↓rdOs, ↓finN, ↓callB, ↓okLen, ↓tupD, ↓lstD, ↓c1, ↓lenG, ↓asgT, ↓gnm, ↓gseq, ↓gtp, ↓slD, ↓pOpt, ↓finS, ↓metB, ↓chk, ↓tyD, ↓runF, ↓noOwn, ↓finF, ↓proj, ↓ps1, ↓metW, ↓appW, ↓setI, ↓parV, ↓stoL, ↓fjoin, ↓asgStar, ↓starD, ↓chain, ↓andV, ↓orV, ↓notV, ↓igt_ii, ↓ilt_ii, ↓ile_ii, ↓ige_ii, ↓isub_ii, ↓addH_ii, i1, ↓w11, q1]
  · exact asg_val w12 rfl f5
  · rw [ev_one]
    simp [↓bnd, ↓Res.bind, ↓VL.ret, ↓var, ↓cst, ↓op2, ↓op1, ↓fin2, ↓fin1, ↓toO, ↓toV, ↓rdO, ↓asB, ↓tvl, ↓tru, ↓finT, ↓truthD, ↓tand, ↓tor, ↓tnot, ↓ife, ↓blk, ↓sseq, ↓setS, ↓sto, ↓asg, ↓sexp, ↓sret, ↓sif, ↓evO, ↓evV, ↓rdOs, ↓finN, ↓callB, ↓okLen, ↓tupD, ↓lstD, ↓c1, ↓lenG, ↓asgT, ↓gnm, ↓gseq, ↓gtp, ↓slD, ↓pOpt, ↓finS, ↓metB, ↓chk, ↓tyD, ↓runF, ↓noOwn, ↓finF, ↓proj, ↓ps1, ↓metW, ↓appW, ↓setI, ↓parV, ↓stoL, ↓fjoin, ↓asgStar, ↓starD, ↓chain, ↓andV, ↓orV, ↓notV, ↓igt_ii, ↓ilt_ii, ↓ile_ii, ↓ige_ii, ↓isub_ii, ↓addH_ii, er, q2, ↓w13, ↓w14, q1]
def inBody : SM := (blk [(sif (tvl (op2 neG (op2 eqG (op2 ixG (var 2) (var 6)) (op2 ixG (var 2) (var 7))) (op2 eqG (op2 ixG (var 1) (var 6)) (op2 ixG (var 1) (var 7))))) (blk [(sret (cst (.bl false)))]) (blk []))])
theorem in_turn {bag : List D} {xs : List Dd} (ho : ∀ x ∈ xs, x.ok) {i j : Nat} (hi : i < xs.length) (hj : j < xs.length) {s3 s4 s5 s7 : Sl} (f7 : Free s7) :
    (bnd (gnm 7 (.int (j : Int))) fun _ => inBody) (envQ bag (.val (.lst (xs.map Dd.d))) (.val (.lst (xs.map fun x => .str x.txt))) s3 s4 s5 (.val (.int (i : Int))) s7 .un)
    = .ok .nx (envQ bag (.val (.lst (xs.map Dd.d))) (.val (.lst (xs.map fun x => .str x.txt))) s3 s4 s5 (.val (.int (i : Int))) (.val (.int (j : Int))) .un) := by
  have gi : xs[i]? = some xs[i] := List.getElem?_eq_getElem hi
  have gj : xs[j]? = some xs[j] := List.getElem?_eq_getElem hj
  have oi := ho _ (List.getElem_mem hi)
  have oj := ho _ (List.getElem_mem hj)
  generalize xs[i] = x at gi oi
  generalize xs[j] = y at gj oj
  have a1 : ixG (.lst (xs.map Dd.d)) (.int (i : Int)) = some (.val x.d) := ixG_at (by rw [List.getElem?_map, gi]; rfl)
  have a2 : ixG (.lst (xs.map Dd.d)) (.int (j : Int)) = some (.val y.d) := ixG_at (by rw [List.getElem?_map, gj]; rfl)
  have a3 : ixG (.lst (xs.map fun x => .str x.txt)) (.int (i : Int)) = some (.val (.str x.txt)) := ixG_at (by rw [List.getElem?_map, gi]; rfl)
  have a4 : ixG (.lst (xs.map fun x => .str x.txt)) (.int (j : Int)) = some (.val (.str y.txt)) := ixG_at (by rw [List.getElem?_map, gj]; rfl)
  have b1 := eq_dd oi oj
  have b2 := eq_ss (asc_txt oi) (asc_txt oj)
  have b3 := ne_bb (decide (x.txt = y.txt)) (decide (x.txt = y.txt))
  rw [beq_self_eq_true] at b3
  generalize xs.map Dd.d = l1 at a1 a2 ⊢
  generalize (xs.map fun x => D.str x.txt) = l2 at a3 a4 ⊢
  generalize decide (x.txt = y.txt) = k at b1 b2 b3
  have w : gnm 7 (.int (j : Int)) (envQ bag (.val (.lst l1)) (.val (.lst l2)) s3 s4 s5 (.val (.int (i : Int))) s7 .un) = .ok () (envQ bag (.val (.lst l1)) (.val (.lst l2)) s3 s4 s5 (.val (.int (i : Int))) (.val (.int (j : Int))) .un) := set_free (i := 7) rfl f7
  show (gnm 7 (.int (j : Int)) _).bind _ = _
  rw [w]
  show inBody _ = _
  unfold inBody
  rw [ev_one]
  simp [↓bnd, ↓Res.bind, ↓VL.ret, ↓var, ↓cst, ↓op2, ↓op1, ↓fin2, ↓fin1, ↓toO, ↓toV, ↓rdO, ↓asB, ↓tvl, ↓tru, ↓finT, ↓truthD, ↓tand, ↓tor, ↓tnot, ↓ife, ↓blk, ↓sseq, ↓setS, ↓sto, ↓asg, ↓sexp, ↓sret, ↓sif, ↓evO, ↓evV, ↓rdOs, ↓finN, ↓callB, ↓okLen, ↓tupD, ↓lstD, ↓c1, ↓lenG, ↓asgT, ↓gnm, ↓gseq, ↓gtp, ↓slD, ↓pOpt, ↓finS, ↓metB, ↓chk, ↓tyD, ↓runF, ↓noOwn, ↓finF, ↓proj, ↓ps1, ↓metW, ↓appW, ↓setI, ↓parV, ↓stoL, ↓fjoin, ↓asgStar, ↓starD, ↓chain, ↓andV, ↓orV, ↓notV, ↓igt_ii, ↓ilt_ii, ↓ile_ii, ↓ige_ii, ↓isub_ii, ↓addH_ii, a1, a2, a3, a4, b1, b2, b3]
def outBody : SM := (blk [(sfor (bnd (evO [(var 6)]) rng1) (gnm 7) inBody)])
theorem out_turn {bag : List D} {xs : List Dd} (ho : ∀ x ∈ xs, x.ok) (hl : xs.length = 6) {i : Nat} (hi : i < 6) {s3 s4 s5 s6 s7 : Sl} (f6 : Free s6) (f7 : Free s7) :
    ∃ t7, Free t7 ∧ (bnd (gnm 6 (.int (i : Int))) fun _ => outBody) (envQ bag (.val (.lst (xs.map Dd.d))) (.val (.lst (xs.map fun x => .str x.txt))) s3 s4 s5 s6 s7 .un)
    = .ok .nx (envQ bag (.val (.lst (xs.map Dd.d))) (.val (.lst (xs.map fun x => .str x.txt))) s3 s4 s5 (.val (.int (i : Int))) t7 .un) := by
  obtain ⟨ρ', e, t7, rfl, ft⟩ := for_all (t := gnm 7) (body := inBody) (ds := rngD 0 i) (ρ := envQ bag (.val (.lst (xs.map Dd.d))) (.val (.lst (xs.map fun x => .str x.txt))) s3 s4 s5 (.val (.int (i : Int))) s7 .un)
    (fun _ ρ => ∃ t7, ρ = envQ bag (.val (.lst (xs.map Dd.d))) (.val (.lst (xs.map fun x => .str x.txt))) s3 s4 s5 (.val (.int (i : Int))) t7 .un ∧ Free t7) ⟨s7, rfl, f7⟩ (by
      rintro j d ρ hd ⟨t7, rfl, ft⟩
      obtain ⟨hj, rfl⟩ := rngD_get hd
      exact ⟨_, in_turn ho (by omega) (by omega) ft, _, rfl, free_val _⟩)
  refine ⟨t7, ft, ?_⟩
  have w : gnm 6 (.int (i : Int)) (envQ bag (.val (.lst (xs.map Dd.d))) (.val (.lst (xs.map fun x => .str x.txt))) s3 s4 s5 s6 s7 .un) = .ok () (envQ bag (.val (.lst (xs.map Dd.d))) (.val (.lst (xs.map fun x => .str x.txt))) s3 s4 s5 (.val (.int (i : Int))) s7 .un) := set_free (i := 6) rfl f6
  rw [step_of w]
  unfold outBody
  rw [ev_one]
  have er : (bnd (evO [(var 6)]) rng1) (envQ bag (.val (.lst (xs.map Dd.d))) (.val (.lst (xs.map fun x => .str x.txt))) s3 s4 s5 (.val (.int (i : Int))) s7 .un) = .ok (rngD 0 i) (envQ bag (.val (.lst (xs.map Dd.d))) (.val (.lst (xs.map fun x => .str x.txt))) s3 s4 s5 (.val (.int (i : Int))) s7 .un) := by
    exact it_eq (os := [.val (.int (i : Int))]) rfl (rng1_ok (k := i) (by omega) _)
  rw [ev_for er]
  exact e
theorem zip_map (xs : List Dd) : zipD (xs.map Dd.d) (xs.map fun x => D.str x.txt) = xs.map fun x => D.tup [x.d, .str x.txt] := by
  induction xs with
  | nil => rfl
  | cons x xs ih =>
    show D.tup [x.d, .str x.txt] :: zipD _ _ = _
    rw [ih]
    rfl
theorem right_ok {bag : List D} (b : Bag bag) : ∃ bag', m__law_right [.own true bag] = .ok (.val (.bl true)) [.own true bag'] ∧ Bag bag' := by
  obtain ⟨xs, bag', s1, hl, ho, b'⟩ := deeds_ok b
  have s2 := said_ok (bag := bag') ho hl
  refine ⟨bag', ?_, b'⟩
  obtain ⟨ρ3, e3, s3, s4, s5, rfl, f3, f4, f5⟩ := for_all (t := gtp [(gnm 3), (gnm 4)]) (body := lrBody) (ds := xs.map fun x => D.tup [x.d, .str x.txt]) (ρ := envQ bag' (.val (.lst (xs.map Dd.d))) (.val (.lst (xs.map fun x => .str x.txt))) .un .un .un .un .un .un)
    (fun _ ρ => ∃ s3 s4 s5, ρ = envQ bag' (.val (.lst (xs.map Dd.d))) (.val (.lst (xs.map fun x => .str x.txt))) s3 s4 s5 .un .un .un ∧ Free s3 ∧ Free s4 ∧ Free s5) ⟨.un, .un, .un, rfl, free_un, free_un, free_un⟩ (by
      rintro j d ρ hd ⟨s3, s4, s5, rfl, f3, f4, f5⟩
      rw [List.getElem?_map] at hd
      cases q : xs[j]? with
      | none => rw [q] at hd; cases hd
      | some x =>
        rw [q] at hd
        have hd : d = .tup [x.d, .str x.txt] := (Option.some.inj hd).symm
        subst hd
        exact ⟨_, lr_turn (ho x (List.mem_of_getElem? q)) f3 f4 f5, _, _, _, rfl, free_val _, free_val _, free_val _⟩)
  obtain ⟨ρ4, e4, s6, s7, rfl, f6, f7⟩ := for_all (t := gnm 6) (body := outBody) (ds := rngD 0 6) (ρ := envQ bag' (.val (.lst (xs.map Dd.d))) (.val (.lst (xs.map fun x => .str x.txt))) s3 s4 s5 .un .un .un)
    (fun _ ρ => ∃ s6 s7, ρ = envQ bag' (.val (.lst (xs.map Dd.d))) (.val (.lst (xs.map fun x => .str x.txt))) s3 s4 s5 s6 s7 .un ∧ Free s6 ∧ Free s7) ⟨.un, .un, rfl, free_un, free_un⟩ (by
      rintro j d ρ hd ⟨s6, s7, rfl, f6, f7⟩
      obtain ⟨hj, rfl⟩ := rngD_get hd
      obtain ⟨t7, ft, e⟩ := out_turn (bag := bag') ho hl hj (s3 := s3) (s4 := s4) (s5 := s5) f6 f7
      exact ⟨_, e, _, _, rfl, free_val _, ft⟩)
  refine run_of (ρ0 := envQ bag .un .un .un .un .un .un .un .un) (r := .val (.bl true)) (ρ' := envQ bag' (.val (.lst (xs.map Dd.d))) (.val (.lst (xs.map fun x => .str x.txt))) s3 s4 s5 s6 s7 .un) ⟨rfl, rfl⟩ rfl ?_ rfl
  have z : (bnd (evV [(var 1), (var 2)]) zip2) (envQ bag' (.val (.lst (xs.map Dd.d))) (.own false (xs.map fun x => .str x.txt)) .un .un .un .un .un .un) = .ok (xs.map fun x => D.tup [x.d, .str x.txt]) (envQ bag' (.val (.lst (xs.map Dd.d))) (.val (.lst (xs.map fun x => .str x.txt))) .un .un .un .un .un .un) := by
    rw [← zip_map]
    rfl
  have r6 : (bnd (evO [(cst (.int 6))]) rng1) (envQ bag' (.val (.lst (xs.map Dd.d))) (.val (.lst (xs.map fun x => .str x.txt))) s3 s4 s5 .un .un .un) = .ok (rngD 0 6) (envQ bag' (.val (.lst (xs.map Dd.d))) (.val (.lst (xs.map fun x => .str x.txt))) s3 s4 s5 .un .un .un) := rng1_ok (k := 6) (by omega) _
  have t3 := (ev_for (t := gtp [(gnm 3), (gnm 4)]) (body := lrBody) z).trans e3
  have t4 := (ev_for (t := gnm 6) (body := outBody) r6).trans e4
  exact (ev_cons s1).trans ((ev_cons s2).trans ((ev_cons t3).trans ((ev_cons t4).trans (by rw [ev_one]; rfl))))
end L81

set_option maxRecDepth 100000
namespace L81
open PySem L2 VL
def primes : D := .tup [.int 2147483647, .int 2147483629, .int 2147483587, .int 2147483579, .int 2147483563, .int 2147483549, .int 2147483543]
theorem scr_ix {ns : List Int} {k : Nat} (h : k < ns.length) : ∃ n, ixG (.scr ns) (.int (k : Int)) = some (.val (.int n)) := by
  have : atI ns (k : Int) = some ns[k] := by
    unfold atI ixN
    have z : (k : Int) < (ns.length : Int) := by omega
    simp [z, h]
  refine ⟨ns[k], ?_⟩
  show (atI ns k).map _ = _
  rw [this]
  rfl
abbrev envB (ns : List Int) (k : Nat) (s2 s3 s4 s5 : Sl) : En := [.val (.scr ns), .val (.int (k : Int)), s2, s3, s4, s5]
theorem bag_ok {ns : List Int} {k : Nat} (hk : k < 4) : ∃ ds, m__law_bag [.val (.scr ns), .val (.int (k : Int))] = .ok (.fresh ds) [.un, .un] ∧ Bag ds := by
  have here : ∃ h : Int, (asg 3 (ife (tvl (op2 ilt (var 1) (callB (c1 lenG) [(var 0)]))) (op2 ixG (var 0) (var 1)) (cst (.int 0)))) (envB ns k (.val primes) .un .un .un) = .ok .nx (envB ns k (.val primes) (.val (.int h)) .un .un) := by
    by_cases c : k < ns.length
    · obtain ⟨n, e⟩ := scr_ix c
      refine ⟨n, ?_⟩
      simp [↓bnd, ↓Res.bind, ↓VL.ret, ↓var, ↓cst, ↓op2, ↓op1, ↓fin2, ↓fin1, ↓toO, ↓toV, ↓rdO, ↓asB, ↓tvl, ↓tru, ↓finT, ↓truthD, ↓tand, ↓tor, ↓tnot, ↓ife, ↓blk, ↓sseq, ↓setS, ↓sto, ↓asg, ↓sexp, ↓sret, ↓sif, ↓evO, ↓evV, ↓rdOs, ↓finN, ↓callB, ↓okLen, ↓tupD, ↓lstD, ↓c1, ↓lenG, ↓asgT, ↓gnm, ↓gseq, ↓gtp, ↓slD, ↓pOpt, ↓finS, ↓metB, ↓chk, ↓tyD, ↓runF, ↓noOwn, ↓finF, ↓proj, ↓ps1, ↓metW, ↓appW, ↓setI, ↓parV, ↓stoL, ↓fjoin, ↓asgStar, ↓starD, ↓chain, ↓andV, ↓orV, ↓notV, ↓igt_ii, ↓ilt_ii, ↓ile_ii, ↓ige_ii, ↓isub_ii, ↓addH_ii, c, e]
    · refine ⟨0, ?_⟩
      simp [↓bnd, ↓Res.bind, ↓VL.ret, ↓var, ↓cst, ↓op2, ↓op1, ↓fin2, ↓fin1, ↓toO, ↓toV, ↓rdO, ↓asB, ↓tvl, ↓tru, ↓finT, ↓truthD, ↓tand, ↓tor, ↓tnot, ↓ife, ↓blk, ↓sseq, ↓setS, ↓sto, ↓asg, ↓sexp, ↓sret, ↓sif, ↓evO, ↓evV, ↓rdOs, ↓finN, ↓callB, ↓okLen, ↓tupD, ↓lstD, ↓c1, ↓lenG, ↓asgT, ↓gnm, ↓gseq, ↓gtp, ↓slD, ↓pOpt, ↓finS, ↓metB, ↓chk, ↓tyD, ↓runF, ↓noOwn, ↓finF, ↓proj, ↓ps1, ↓metW, ↓appW, ↓setI, ↓parV, ↓stoL, ↓fjoin, ↓asgStar, ↓starD, ↓chain, ↓andV, ↓orV, ↓notV, ↓igt_ii, ↓ilt_ii, ↓ile_ii, ↓ige_ii, ↓isub_ii, ↓addH_ii, c]
  obtain ⟨h, e3⟩ := here
  have e2 : (asg 2 (tupD [(cst (.int 2147483647)), (cst (.int 2147483629)), (cst (.int 2147483587)), (cst (.int 2147483579)), (cst (.int 2147483563)), (cst (.int 2147483549)), (cst (.int 2147483543))])) (envB ns k .un .un .un .un) = .ok .nx (envB ns k (.val primes) .un .un .un) := by
    simp [↓bnd, ↓Res.bind, ↓VL.ret, ↓var, ↓cst, ↓op2, ↓op1, ↓fin2, ↓fin1, ↓toO, ↓toV, ↓rdO, ↓asB, ↓tvl, ↓tru, ↓finT, ↓truthD, ↓tand, ↓tor, ↓tnot, ↓ife, ↓blk, ↓sseq, ↓setS, ↓sto, ↓asg, ↓sexp, ↓sret, ↓sif, ↓evO, ↓evV, ↓rdOs, ↓finN, ↓callB, ↓okLen, ↓tupD, ↓lstD, ↓c1, ↓lenG, ↓asgT, ↓gnm, ↓gseq, ↓gtp, ↓slD, ↓pOpt, ↓finS, ↓metB, ↓chk, ↓tyD, ↓runF, ↓noOwn, ↓finF, ↓proj, ↓ps1, ↓metW, ↓appW, ↓setI, ↓parV, ↓stoL, ↓fjoin, ↓asgStar, ↓starD, ↓chain, ↓andV, ↓orV, ↓notV, ↓igt_ii, ↓ilt_ii, ↓ile_ii, ↓ige_ii, ↓isub_ii, ↓addH_ii, primes]
  have great : ∃ g : Int, 0 ≤ g ∧ (asg 4 (ife (tvl (op2 ige (callB (c1 absG) [(var 3)]) (op2 ipow (cst (.int 10)) (cst (.int 18))))) (callB (c1 absG) [(var 3)]) (cst (.int 0)))) (envB ns k (.val primes) (.val (.int h)) .un .un) = .ok .nx (envB ns k (.val primes) (.val (.int h)) (.val (.int g)) .un) := by
    have ab : absG (.int h) = some (.val (.int (if h < 0 then -h else h))) := rfl
    have p0 : 0 ≤ (if h < 0 then -h else h) := by split <;> omega
    have pw : ipow (.int 10) (.int 18) = some (.val (.int 1000000000000000000)) := (ipow_ii (by decide)).trans rfl
    generalize (if h < 0 then -h else h) = a at ab p0
    by_cases c : 1000000000000000000 ≤ a
    · exact ⟨a, p0, by simp [↓bnd, ↓Res.bind, ↓VL.ret, ↓var, ↓cst, ↓op2, ↓op1, ↓fin2, ↓fin1, ↓toO, ↓toV, ↓rdO, ↓asB, ↓tvl, ↓tru, ↓finT, ↓truthD, ↓tand, ↓tor, ↓tnot, ↓ife, ↓blk, ↓sseq, ↓setS, ↓sto, ↓asg, ↓sexp, ↓sret, ↓sif, ↓evO, ↓evV, ↓rdOs, ↓finN, ↓callB, ↓okLen, ↓tupD, ↓lstD, ↓c1, ↓lenG, ↓asgT, ↓gnm, ↓gseq, ↓gtp, ↓slD, ↓pOpt, ↓finS, ↓metB, ↓chk, ↓tyD, ↓runF, ↓noOwn, ↓finF, ↓proj, ↓ps1, ↓metW, ↓appW, ↓setI, ↓parV, ↓stoL, ↓fjoin, ↓asgStar, ↓starD, ↓chain, ↓andV, ↓orV, ↓notV, ↓igt_ii, ↓ilt_ii, ↓ile_ii, ↓ige_ii, ↓isub_ii, ↓addH_ii, ab, pw, c]⟩
    · exact ⟨0, by omega, by simp [↓bnd, ↓Res.bind, ↓VL.ret, ↓var, ↓cst, ↓op2, ↓op1, ↓fin2, ↓fin1, ↓toO, ↓toV, ↓rdO, ↓asB, ↓tvl, ↓tru, ↓finT, ↓truthD, ↓tand, ↓tor, ↓tnot, ↓ife, ↓blk, ↓sseq, ↓setS, ↓sto, ↓asg, ↓sexp, ↓sret, ↓sif, ↓evO, ↓evV, ↓rdOs, ↓finN, ↓callB, ↓okLen, ↓tupD, ↓lstD, ↓c1, ↓lenG, ↓asgT, ↓gnm, ↓gseq, ↓gtp, ↓slD, ↓pOpt, ↓finS, ↓metB, ↓chk, ↓tyD, ↓runF, ↓noOwn, ↓finF, ↓proj, ↓ps1, ↓metW, ↓appW, ↓setI, ↓parV, ↓stoL, ↓fjoin, ↓asgStar, ↓starD, ↓chain, ↓andV, ↓orV, ↓notV, ↓igt_ii, ↓ilt_ii, ↓ile_ii, ↓ige_ii, ↓isub_ii, ↓addH_ii, ab, pw, c]⟩
  obtain ⟨g, g0, e4⟩ := great
  have cases4 : k = 0 ∨ k = 1 ∨ k = 2 ∨ k = 3 := by omega
  have pick : ∀ j : Int, 0 ≤ j → j < 7 → ∃ p : Int, ixG primes (.int j) = some (.val (.int p)) ∧ 2147483543 ≤ p ∧ p ≤ 2147483647 := fun j j0 j1 => by
    have : j = 0 ∨ j = 1 ∨ j = 2 ∨ j = 3 ∨ j = 4 ∨ j = 5 ∨ j = 6 := by omega
    rcases this with rfl | rfl | rfl | rfl | rfl | rfl | rfl
    · exact ⟨_, rfl, by decide, by decide⟩
    · exact ⟨_, rfl, by decide, by decide⟩
    · exact ⟨_, rfl, by decide, by decide⟩
    · exact ⟨_, rfl, by decide, by decide⟩
    · exact ⟨_, rfl, by decide, by decide⟩
    · exact ⟨_, rfl, by decide, by decide⟩
    · exact ⟨_, rfl, by decide, by decide⟩
  have lg : ∀ (i j : Int), i.natAbs < 2 ^ 100 → j.natAbs < 2 ^ 100 → imul (.int i) (.int j) = some (.val (.int (i * j))) := fun i j h1 h2 => imul_ii (by
    have := log2_lt (by decide) h1
    have := log2_lt (by decide) h2
    omega)
  obtain ⟨p, ep, pa, pb⟩ := pick ((k : Int) % 7) (Int.emod_nonneg _ (by decide)) (Int.emod_lt_of_pos _ (by decide))
  obtain ⟨p', ep', pa', pb'⟩ := pick (((k : Int) + 2) % 7) (Int.emod_nonneg _ (by decide)) (Int.emod_lt_of_pos _ (by decide))
  have m7 : ∀ i, imod (.int i) (.int 7) = some (.val (.int (i % 7))) := fun i => imod_ii (by decide)
  have mM : imod (.int h) (.int 2305843009213693951) = some (.val (.int (h % 2305843009213693951))) := imod_ii (by decide)
  have b0 : 0 ≤ h % 2305843009213693951 := Int.emod_nonneg _ (by decide)
  have b1 : h % 2305843009213693951 < 2305843009213693951 := Int.emod_lt_of_pos _ (by decide)
  have k4 : imul (.int 40961) (.int (k : Int)) = some (.val (.int (40961 * (k : Int)))) := lg _ _ (by decide) (by omega)
  have k3 : imul (.int 3) (.int (k : Int)) = some (.val (.int (3 * (k : Int)))) := lg _ _ (by decide) (by omega)
  generalize hq : h % 2305843009213693951 + 40961 * (k : Int) + 19 = q
  have q64 : q.natAbs < 2 ^ 64 := by omega
  have pq : ipow (.int q) (.int 3) = some (.val (.int (q ^ 3))) := (ipow_ii ⟨by decide, by decide, q64⟩).trans rfl
  have mp : ∀ i, imod (.int i) (.int p) = some (.val (.int (i % p))) := fun i => imod_ii (by omega)
  have mp' : ∀ i, imod (.int i) (.int p') = some (.val (.int (i % p'))) := fun i => imod_ii (by omega)
  have x0 : 0 ≤ q ^ 3 % p := Int.emod_nonneg _ (by omega)
  have x1 : q ^ 3 % p < p := Int.emod_lt_of_pos _ (by omega)
  have e5 : (asg 5 (op2 imod (op2 ipow (op2 addH (op2 addH (op2 imod (var 3) (cst (.int 2305843009213693951))) (op2 imul (cst (.int 40961)) (var 1))) (cst (.int 19))) (cst (.int 3))) (op2 ixG (var 2) (op2 imod (var 1) (cst (.int 7)))))) (envB ns k (.val primes) (.val (.int h)) (.val (.int g)) .un) = .ok .nx (envB ns k (.val primes) (.val (.int h)) (.val (.int g)) (.val (.int (q ^ 3 % p)))) := by
    simp [↓bnd, ↓Res.bind, ↓VL.ret, ↓var, ↓cst, ↓op2, ↓op1, ↓fin2, ↓fin1, ↓toO, ↓toV, ↓rdO, ↓asB, ↓tvl, ↓tru, ↓finT, ↓truthD, ↓tand, ↓tor, ↓tnot, ↓ife, ↓blk, ↓sseq, ↓setS, ↓sto, ↓asg, ↓sexp, ↓sret, ↓sif, ↓evO, ↓evV, ↓rdOs, ↓finN, ↓callB, ↓okLen, ↓tupD, ↓lstD, ↓c1, ↓lenG, ↓asgT, ↓gnm, ↓gseq, ↓gtp, ↓slD, ↓pOpt, ↓finS, ↓metB, ↓chk, ↓tyD, ↓runF, ↓noOwn, ↓finF, ↓proj, ↓ps1, ↓metW, ↓appW, ↓setI, ↓parV, ↓stoL, ↓fjoin, ↓asgStar, ↓starD, ↓chain, ↓andV, ↓orV, ↓notV, ↓igt_ii, ↓ilt_ii, ↓ile_ii, ↓ige_ii, ↓isub_ii, ↓addH_ii, mM, k4, hq, pq, m7, ep, mp]
  generalize q ^ 3 % p = x at x0 x1 e5
  have d5 : idiv (.int x) (.int 5) = some (.val (.int (x / 5))) := idiv_ii (by decide) (by decide +kernel)
  have y0 : 0 ≤ x / 5 := Int.ediv_nonneg x0 (by decide)
  have y1 : x / 5 ≤ x := Int.ediv_le_self _ x0
  have mx : imul (.int x) (.int (x / 5 + 3 * (k : Int) + 11)) = some (.val (.int (x * (x / 5 + 3 * (k : Int) + 11)))) := lg _ _ (by omega) (by omega)
  have z0 : 0 ≤ x * (x / 5 + 3 * (k : Int) + 11) % p' := Int.emod_nonneg _ (by omega)
  have z1 : x * (x / 5 + 3 * (k : Int) + 11) % p' < p' := Int.emod_lt_of_pos _ (by omega)
  refine ⟨[.int g, .int (x * (x / 5 + 3 * (k : Int) + 11) % p' + 1)], ?_, ⟨g, _, rfl, g0, by omega, by omega⟩⟩
  refine run_of (ρ0 := envB ns k .un .un .un .un) (r := .fresh [.int g, .int (x * (x / 5 + 3 * (k : Int) + 11) % p' + 1)]) (ρ' := envB ns k (.val primes) (.val (.int h)) (.val (.int g)) (.val (.int x))) ⟨rfl, rfl⟩ rfl ?_ rfl
  refine (ev_cons e2).trans ((ev_cons e3).trans ((ev_cons e4).trans ((ev_cons e5).trans ?_)))
  rw [ev_one]
  simp [↓bnd, ↓Res.bind, ↓VL.ret, ↓var, ↓cst, ↓op2, ↓op1, ↓fin2, ↓fin1, ↓toO, ↓toV, ↓rdO, ↓asB, ↓tvl, ↓tru, ↓finT, ↓truthD, ↓tand, ↓tor, ↓tnot, ↓ife, ↓blk, ↓sseq, ↓setS, ↓sto, ↓asg, ↓sexp, ↓sret, ↓sif, ↓evO, ↓evV, ↓rdOs, ↓finN, ↓callB, ↓okLen, ↓tupD, ↓lstD, ↓c1, ↓lenG, ↓asgT, ↓gnm, ↓gseq, ↓gtp, ↓slD, ↓pOpt, ↓finS, ↓metB, ↓chk, ↓tyD, ↓runF, ↓noOwn, ↓finF, ↓proj, ↓ps1, ↓metW, ↓appW, ↓setI, ↓parV, ↓stoL, ↓fjoin, ↓asgStar, ↓starD, ↓chain, ↓andV, ↓orV, ↓notV, ↓igt_ii, ↓ilt_ii, ↓ile_ii, ↓ige_ii, ↓isub_ii, ↓addH_ii, d5, k3, mx, m7, ep', mp']
theorem free_own (ds : List D) : Free (.own false ds) := fun a z => by cases z
def turnBody : SM := (blk [(sif (tnot (tru (callM m__law_right [.io (var 2)]))) (blk [(sret (cst (.bl false)))]) (blk []))])
def kBody : SM := (blk [(asg 2 (callM m__law_bag [.e (var 0), .e (var 1)])),
      (sfor (bnd (evO [(cst (.int 8))]) rng1) (gnm 3) turnBody)])
theorem turn_ok {ns : List Int} {s1 s3 : Sl} {ds : List D} {d : D} (b : Bag ds) (f3 : Free s3) : ∃ ds', (bnd (gnm 3 d) fun _ => turnBody) [.val (.scr ns), s1, .own false ds, s3] = .ok .nx [.val (.scr ns), s1, .own false ds', .val d] ∧ Bag ds' := by
  obtain ⟨ds', e, b'⟩ := right_ok b
  refine ⟨ds', ?_, b'⟩
  have w : gnm 3 d [.val (.scr ns), s1, .own false ds, s3] = .ok () [.val (.scr ns), s1, .own false ds, .val d] := set_free (i := 3) rfl f3
  rw [step_of w]
  unfold turnBody
  rw [ev_one]
  have e1 : callM m__law_right [.io (var 2)] [.val (.scr ns), s1, .own false ds, .val d] = .ok (.val (.bl true)) [.val (.scr ns), s1, .own false ds', .val d] := by
    simp [bnd, Res.bind, VL.ret, var, cst, op2, op1, fin2, fin1, toO, toV, rdO, asB, tvl, tru, finT, truthD, tand, tor, tnot, ife, blk, sseq, setS, sto, asg, sexp, sret, sif, evO, evV, rdOs, finN, callB, okLen, tupD, lstD, c1, lenG, asgT, gnm, gseq, gtp, slD, pOpt, finS, metB, chk, tyD, evA, mkE, finC, callM, lentOf, wbk, wb1, runF, noOwn, finF, proj, ps1, metW, appW, setI, parV, stoL, fjoin, asgStar, starD, chain, andV, orV, notV, igt_ii, ilt_ii, ile_ii, ige_ii, isub_ii, addH_ii, e]
  simp [↓bnd, ↓Res.bind, ↓VL.ret, ↓var, ↓cst, ↓op2, ↓op1, ↓fin2, ↓fin1, ↓toO, ↓toV, ↓rdO, ↓asB, ↓tvl, ↓tru, ↓finT, ↓truthD, ↓tand, ↓tor, ↓tnot, ↓ife, ↓blk, ↓sseq, ↓setS, ↓sto, ↓asg, ↓sexp, ↓sret, ↓sif, ↓evO, ↓evV, ↓rdOs, ↓finN, ↓callB, ↓okLen, ↓tupD, ↓lstD, ↓c1, ↓lenG, ↓asgT, ↓gnm, ↓gseq, ↓gtp, ↓slD, ↓pOpt, ↓finS, ↓metB, ↓chk, ↓tyD, ↓runF, ↓noOwn, ↓finF, ↓proj, ↓ps1, ↓metW, ↓appW, ↓setI, ↓parV, ↓stoL, ↓fjoin, ↓asgStar, ↓starD, ↓chain, ↓andV, ↓orV, ↓notV, ↓igt_ii, ↓ilt_ii, ↓ile_ii, ↓ige_ii, ↓isub_ii, ↓addH_ii, ↓e1]
theorem k_ok {ns : List Int} {k : Nat} (hk : k < 4) {s1 s2 s3 : Sl} (f1 : Free s1) (f2 : Free s2) (f3 : Free s3) : ∃ t2 t3, (bnd (gnm 1 (.int (k : Int))) fun _ => kBody) [.val (.scr ns), s1, s2, s3] = .ok .nx [.val (.scr ns), .val (.int (k : Int)), t2, t3] ∧ Free t2 ∧ Free t3 := by
  obtain ⟨ds, eb, b⟩ := bag_ok (ns := ns) hk
  have w : gnm 1 (.int (k : Int)) [.val (.scr ns), s1, s2, s3] = .ok () [.val (.scr ns), .val (.int (k : Int)), s2, s3] := set_free (i := 1) rfl f1
  have e1 : callM m__law_bag [.e (var 0), .e (var 1)] [.val (.scr ns), .val (.int (k : Int)), s2, s3] = .ok (.fresh ds) [.val (.scr ns), .val (.int (k : Int)), s2, s3] := by
    simp [bnd, Res.bind, VL.ret, var, cst, op2, op1, fin2, fin1, toO, toV, rdO, asB, tvl, tru, finT, truthD, tand, tor, tnot, ife, blk, sseq, setS, sto, asg, sexp, sret, sif, evO, evV, rdOs, finN, callB, okLen, tupD, lstD, c1, lenG, asgT, gnm, gseq, gtp, slD, pOpt, finS, metB, chk, tyD, evA, mkE, finC, callM, lentOf, wbk, wb1, runF, noOwn, finF, proj, ps1, metW, appW, setI, parV, stoL, fjoin, asgStar, starD, chain, andV, orV, notV, igt_ii, ilt_ii, ile_ii, ige_ii, isub_ii, addH_ii, eb]
  have a1 : asg 2 (callM m__law_bag [.e (var 0), .e (var 1)]) [.val (.scr ns), .val (.int (k : Int)), s2, s3] = .ok .nx [.val (.scr ns), .val (.int (k : Int)), .own false ds, s3] := asg_fresh e1 rfl f2
  obtain ⟨ρ', e, ds', t3, rfl, b', ft⟩ := for_all (t := gnm 3) (body := turnBody) (ds := rngD 0 8) (ρ := [.val (.scr ns), .val (.int (k : Int)), .own false ds, s3])
    (fun _ ρ => ∃ ds' t3, ρ = [.val (.scr ns), .val (.int (k : Int)), .own false ds', t3] ∧ Bag ds' ∧ Free t3) ⟨ds, s3, rfl, b, f3⟩ (by
      rintro j d ρ hd ⟨ds', t3, rfl, b', ft⟩
      obtain ⟨ds2, e, b2⟩ := turn_ok (ns := ns) (s1 := .val (.int (k : Int))) (d := d) b' ft
      exact ⟨_, e, _, _, rfl, b2, free_val _⟩)
  refine ⟨.own false ds', t3, ?_, free_own _, ft⟩
  rw [step_of w]
  unfold kBody
  have r8 : (bnd (evO [(cst (.int 8))]) rng1) [.val (.scr ns), .val (.int (k : Int)), .own false ds, s3] = .ok (rngD 0 8) [.val (.scr ns), .val (.int (k : Int)), .own false ds, s3] := it_eq (os := [.val (.int 8)]) rfl (rng1_ok (k := 8) (by omega) _)
  refine (ev_cons a1).trans ?_
  rw [ev_one, ev_for r8]
  exact e
theorem law_math (ns : List Int) (h : ns.length ≤ 63) : ∃ ρ, m_law [.val (.scr ns)] = .ok (.val (.bl true)) ρ := by
  have cnt : ∃ c : Nat, c ≤ 4 ∧ (bnd (evO [(callB maxG [(cst (.int 2)), (callB minG [(cst (.int 4)), (callB (c1 lenG) [(var 0)])])])]) rng1) [.val (.scr ns), .un, .un, .un] = .ok (rngD 0 c) [.val (.scr ns), .un, .un, .un] := by
    have mi : ∀ j : Int, minG [.int 4, .int j] = some (.val (.int (if j < 4 then j else 4))) := fun _ => rfl
    have ma : ∀ j : Int, maxG [.int 2, .int j] = some (.val (.int (if j > 2 then j else 2))) := fun _ => rfl
    have w : ∃ c : Nat, c ≤ 4 ∧ (if (if (ns.length : Int) < 4 then (ns.length : Int) else 4) > 2 then (if (ns.length : Int) < 4 then (ns.length : Int) else 4) else 2) = (c : Int) := by
      by_cases a : (ns.length : Int) < 4
      · rw [if_pos a]
        by_cases b : (ns.length : Int) > 2
        · rw [if_pos b]
          exact ⟨ns.length, by omega, rfl⟩
        · rw [if_neg b]
          exact ⟨2, by omega, rfl⟩
      · rw [if_neg a, if_pos (by decide)]
        exact ⟨4, by omega, rfl⟩
    obtain ⟨c, hc, ec⟩ := w
    refine ⟨c, hc, it_eq (os := [.val (.int (c : Int))]) ?_ (rng1_ok (k := c) (by omega) _)⟩
    rw [← ec]
    have m1 := mi (ns.length : Int)
    generalize (if (ns.length : Int) < 4 then (ns.length : Int) else 4) = j at m1 ⊢
    have m2 := ma j
    generalize (if j > 2 then j else 2) = l at m2 ⊢
    simp [↓bnd, ↓Res.bind, ↓VL.ret, ↓var, ↓cst, ↓op2, ↓op1, ↓fin2, ↓fin1, ↓toO, ↓toV, ↓rdO, ↓asB, ↓tvl, ↓tru, ↓finT, ↓truthD, ↓tand, ↓tor, ↓tnot, ↓ife, ↓blk, ↓sseq, ↓setS, ↓sto, ↓asg, ↓sexp, ↓sret, ↓sif, ↓evO, ↓evV, ↓rdOs, ↓finN, ↓callB, ↓okLen, ↓tupD, ↓lstD, ↓c1, ↓lenG, ↓asgT, ↓gnm, ↓gseq, ↓gtp, ↓slD, ↓pOpt, ↓finS, ↓metB, ↓chk, ↓tyD, ↓runF, ↓noOwn, ↓finF, ↓proj, ↓ps1, ↓metW, ↓appW, ↓setI, ↓parV, ↓stoL, ↓fjoin, ↓asgStar, ↓starD, ↓chain, ↓andV, ↓orV, ↓notV, ↓igt_ii, ↓ilt_ii, ↓ile_ii, ↓ige_ii, ↓isub_ii, ↓addH_ii, m1, m2]
  obtain ⟨c, hc, er⟩ := cnt
  obtain ⟨ρ', e, s1, s2, s3, rfl, f1, f2, f3⟩ := for_all (t := gnm 1) (body := kBody) (ds := rngD 0 c) (ρ := [.val (.scr ns), .un, .un, .un])
    (fun _ ρ => ∃ s1 s2 s3, ρ = [.val (.scr ns), s1, s2, s3] ∧ Free s1 ∧ Free s2 ∧ Free s3) ⟨.un, .un, .un, rfl, free_un, free_un, free_un⟩ (by
      rintro j d ρ hd ⟨s1, s2, s3, rfl, f1, f2, f3⟩
      obtain ⟨hj, rfl⟩ := rngD_get hd
      obtain ⟨t2, t3, e, g2, g3⟩ := k_ok (ns := ns) (k := j) (by omega) f1 f2 f3
      exact ⟨_, e, _, _, _, rfl, free_val _, g2, g3⟩)
  refine ⟨_, run_of (ρ0 := [.val (.scr ns), .un, .un, .un]) (r := .val (.bl true)) (ρ' := [.val (.scr ns), s1, s2, s3]) ⟨rfl, rfl⟩ rfl ?_ rfl⟩
  exact (ev_cons ((ev_for (t := gnm 1) (body := kBody) er).trans e)).trans (by rw [ev_one]; rfl)
end L81

set_option maxRecDepth 100000
set_option maxHeartbeats 4000000
/-! W81: the walks (printed by gen.py). -/
namespace L81
open PySem L2 VL PyProof.Rows PySem.Spec

def top (i : Nat) : Stmt := PySem.Challenge.pw_oldways_k81_deeds_written.main.body.getD i (.Pass ⟨0, 0, 0, 0⟩)
abbrev s__law_bag : Stmt := top 33
abbrev s_stretch_text : Stmt := top 22
abbrev s_show_deed : Stmt := top 23
abbrev s_words_of : Stmt := top 29
abbrev s_number_of : Stmt := top 24
abbrev s_stretch_of : Stmt := top 25
abbrev s_is_whole : Stmt := top 4
abbrev s_is_between : Stmt := top 5
abbrev s_is_day : Stmt := top 6
abbrev s_day_of : Stmt := top 26
abbrev s_is_hand : Stmt := top 8
abbrev s_hand_of : Stmt := top 27
abbrev s_read_words : Stmt := top 30
abbrev s_read_deed : Stmt := top 31
abbrev s__law_take : Stmt := top 34
abbrev s__law_names : Stmt := top 35
abbrev s__law_number_text : Stmt := top 36
abbrev s__law_any_stretch : Stmt := top 37
abbrev s__law_any_deed : Stmt := top 38
abbrev s__law_text : Stmt := top 39
abbrev s__law_right : Stmt := top 40
abbrev s_law : Stmt := top 41
/-- what the top has written -/
structure Fx (w : World) (K : PySem.W.Frag) (mg : Str → Option Value) : Prop where
  f_abs : mg "abs" = none
  f_all : mg "all" = none
  f_bool : mg "bool" = none
  f_enumerate : mg "enumerate" = none
  f_int : mg "int" = none
  f_isinstance : mg "isinstance" = none
  f_len : mg "len" = none
  f_max : mg "max" = none
  f_min : mg "min" = none
  f_range : mg "range" = none
  f_repr : mg "repr" = none
  f_sorted : mg "sorted" = none
  f_str : mg "str" = none
  f_tuple : mg "tuple" = none
  f_zip : mg "zip" = none
  c_BY_LEAVE : Con K mg "BY_LEAVE" (.str "leave")
  c_DAY : Con K mg "DAY" (.str "day")
  c_FIGURES : Con K mg "FIGURES" (.str "0123456789")
  c_MOST_DAY : Con K mg "MOST_DAY" (.int 1000000000000000000000000000000)
  c_MOST_FIGURES : Con K mg "MOST_FIGURES" (.int 60)
  c_USE : Con K mg "USE" (.str "use")
  t_PARTS : TabS K w mg "PARTS" (He.ga K "PARTS") ["sale", "grant", "end", "use"]
  v_PARTS : ∀ k ∈ (["sale", "grant", "end", "use"] : List Str), ∃ u, PySem.W.nsIn K (He.ga K "PARTS") k = some (some u)
  w_PARTS : tabVB K (He.ga K "PARTS") [("sale", (.tup [(.str "day"), (.str "stretch"), (.str "hand")])), ("grant", (.tup [(.str "day"), (.str "hand"), (.str "stretch"), (.str "stretch")])), ("end", (.tup [(.str "day"), (.str "hand"), (.str "stretch"), (.str "stretch")])), ("use", (.tup [(.str "day"), (.str "day"), (.str "stretch"), (.str "stretch"), (.str "leave")]))] = true
  t_READERS : TabS K w mg "READERS" (He.ga K "READERS") ["day", "hand", "stretch"]
  v_READERS : ∀ k ∈ (["day", "hand", "stretch"] : List Str), ∃ u, PySem.W.nsIn K (He.ga K "READERS") k = some (some u)
  w_READERS : tabFB K (He.ga K "READERS") [("day", "day_of"), ("hand", "hand_of"), ("stretch", "stretch_of")] = true
  g__law_bag : mg "_law_bag" = some (.ref (He.ga K "_law_bag"))
  d__law_bag : ∃ fd, FunD K "_law_bag" "_law_bag" (defArgs s__law_bag) (defBody s__law_bag) (defScope s__law_bag) [] [] (He.ga K "_law_bag") fd
  g_stretch_text : mg "stretch_text" = some (.ref (He.ga K "stretch_text"))
  d_stretch_text : ∃ fd, FunD K "stretch_text" "stretch_text" (defArgs s_stretch_text) (defBody s_stretch_text) (defScope s_stretch_text) [] [] (He.ga K "stretch_text") fd
  g_show_deed : mg "show_deed" = some (.ref (He.ga K "show_deed"))
  d_show_deed : ∃ fd, FunD K "show_deed" "show_deed" (defArgs s_show_deed) (defBody s_show_deed) (defScope s_show_deed) [] [] (He.ga K "show_deed") fd
  g_words_of : mg "words_of" = some (.ref (He.ga K "words_of"))
  d_words_of : ∃ fd, FunD K "words_of" "words_of" (defArgs s_words_of) (defBody s_words_of) (defScope s_words_of) [] [] (He.ga K "words_of") fd
  g_number_of : mg "number_of" = some (.ref (He.ga K "number_of"))
  d_number_of : ∃ fd, FunD K "number_of" "number_of" (defArgs s_number_of) (defBody s_number_of) (defScope s_number_of) [] [] (He.ga K "number_of") fd
  g_stretch_of : mg "stretch_of" = some (.ref (He.ga K "stretch_of"))
  d_stretch_of : ∃ fd, FunD K "stretch_of" "stretch_of" (defArgs s_stretch_of) (defBody s_stretch_of) (defScope s_stretch_of) [] [] (He.ga K "stretch_of") fd
  g_is_whole : mg "is_whole" = some (.ref (He.ga K "is_whole"))
  d_is_whole : ∃ fd, FunD K "is_whole" "is_whole" (defArgs s_is_whole) (defBody s_is_whole) (defScope s_is_whole) [] [] (He.ga K "is_whole") fd
  g_is_between : mg "is_between" = some (.ref (He.ga K "is_between"))
  d_is_between : ∃ fd, FunD K "is_between" "is_between" (defArgs s_is_between) (defBody s_is_between) (defScope s_is_between) [] [] (He.ga K "is_between") fd
  g_is_day : mg "is_day" = some (.ref (He.ga K "is_day"))
  d_is_day : ∃ fd, FunD K "is_day" "is_day" (defArgs s_is_day) (defBody s_is_day) (defScope s_is_day) [] [] (He.ga K "is_day") fd
  g_day_of : mg "day_of" = some (.ref (He.ga K "day_of"))
  d_day_of : ∃ fd, FunD K "day_of" "day_of" (defArgs s_day_of) (defBody s_day_of) (defScope s_day_of) [] [] (He.ga K "day_of") fd
  g_is_hand : mg "is_hand" = some (.ref (He.ga K "is_hand"))
  d_is_hand : ∃ fd, FunD K "is_hand" "is_hand" (defArgs s_is_hand) (defBody s_is_hand) (defScope s_is_hand) [] [] (He.ga K "is_hand") fd
  g_hand_of : mg "hand_of" = some (.ref (He.ga K "hand_of"))
  d_hand_of : ∃ fd, FunD K "hand_of" "hand_of" (defArgs s_hand_of) (defBody s_hand_of) (defScope s_hand_of) [] [] (He.ga K "hand_of") fd
  g_read_words : mg "read_words" = some (.ref (He.ga K "read_words"))
  d_read_words : ∃ fd, FunD K "read_words" "read_words" (defArgs s_read_words) (defBody s_read_words) (defScope s_read_words) [] [] (He.ga K "read_words") fd
  g_read_deed : mg "read_deed" = some (.ref (He.ga K "read_deed"))
  d_read_deed : ∃ fd, FunD K "read_deed" "read_deed" (defArgs s_read_deed) (defBody s_read_deed) (defScope s_read_deed) [] [] (He.ga K "read_deed") fd
  g__law_take : mg "_law_take" = some (.ref (He.ga K "_law_take"))
  d__law_take : ∃ fd, FunD K "_law_take" "_law_take" (defArgs s__law_take) (defBody s__law_take) (defScope s__law_take) [] [] (He.ga K "_law_take") fd
  g__law_names : mg "_law_names" = some (.ref (He.ga K "_law_names"))
  d__law_names : ∃ fd, FunD K "_law_names" "_law_names" (defArgs s__law_names) (defBody s__law_names) (defScope s__law_names) [] [] (He.ga K "_law_names") fd
  g__law_number_text : mg "_law_number_text" = some (.ref (He.ga K "_law_number_text"))
  d__law_number_text : ∃ fd, FunD K "_law_number_text" "_law_number_text" (defArgs s__law_number_text) (defBody s__law_number_text) (defScope s__law_number_text) [] [] (He.ga K "_law_number_text") fd
  g__law_any_stretch : mg "_law_any_stretch" = some (.ref (He.ga K "_law_any_stretch"))
  d__law_any_stretch : ∃ fd, FunD K "_law_any_stretch" "_law_any_stretch" (defArgs s__law_any_stretch) (defBody s__law_any_stretch) (defScope s__law_any_stretch) [] [] (He.ga K "_law_any_stretch") fd
  g__law_any_deed : mg "_law_any_deed" = some (.ref (He.ga K "_law_any_deed"))
  d__law_any_deed : ∃ fd, FunD K "_law_any_deed" "_law_any_deed" (defArgs s__law_any_deed) (defBody s__law_any_deed) (defScope s__law_any_deed) [] [] (He.ga K "_law_any_deed") fd
  g__law_text : mg "_law_text" = some (.ref (He.ga K "_law_text"))
  d__law_text : ∃ fd, FunD K "_law_text" "_law_text" (defArgs s__law_text) (defBody s__law_text) (defScope s__law_text) [] [] (He.ga K "_law_text") fd
  g__law_right : mg "_law_right" = some (.ref (He.ga K "_law_right"))
  d__law_right : ∃ fd, FunD K "_law_right" "_law_right" (defArgs s__law_right) (defBody s__law_right) (defScope s__law_right) [] [] (He.ga K "_law_right") fd
  g_law : mg "law" = some (.ref (He.ga K "law"))
  d_law : ∃ fd, FunD K "law" "law" (defArgs s_law) (defBody s_law) (defScope s_law) [] [] (He.ga K "law") fd
section
variable {P : Program} {w : World} {K : PySem.W.Frag} {mg : Str → Option Value} {base : Heap} {ct : Nat → Addr × Str}
theorem ok__law_bag (Z : Fx w K mg) {fd : FuncData} (F : FunD K "_law_bag" "_law_bag" (defArgs s__law_bag) (defBody s__law_bag) (defScope s__law_bag) [] [] (He.ga K "_law_bag") fd) : FnG P w K mg base 1 (He.ga K "_law_bag") fd ["script", "at"] (spM K ct 2 m__law_bag) ∧ Binds K fd ["script", "at"] [] ∧ PySem.W.keepIn K (.ref (He.ga K "_law_bag")) = true := by
  have sc : FnScope ["script", "at", "primes", "here", "great", "mixed"] ["script", "at"] (defScope s__law_bag) := ⟨by kernel_rfl, by kernel_rfl, by kernel_rfl, by decide +kernel, rfl, by decide +kernel, by decide +kernel⟩
  refine ⟨k_def F sc rfl rfl fun cdv A outer s H E hr hgd => ?_, F.bindsN fun _ _ _ _ _ _ us hl => match us, hl with | [_, _], _ => by kernel_rfl, F.kp⟩
  exact (k_cons (k_asg 2 sc.nd (k_tup (k_av_cons k_int (k_av_cons k_int (k_av_cons k_int (k_av_cons k_int (k_av_cons k_int (k_av_cons k_int (k_av_cons k_int k_av_nil)))))))))
  (k_cons (k_asg 3 sc.nd (k_ife (k_tcmp op_lt ilt_ok (k_var 1) (k_callB call_len lenG_ok rfl Z.f_len rfl (k_ao_cons (k_var 0) k_ao_nil)) rfl) (k_ix ix_seq ixG_ok (k_var 0) (k_var 1)) k_int))
  (k_cons (k_asg 4 sc.nd (k_ife (k_tcmp op_ge ige_ok (k_callB call_abs absG_ok rfl Z.f_abs rfl (k_ao_cons (k_var 3) k_ao_nil)) (k_op op_pow ipow_ok k_int k_int) rfl) (k_callB call_abs absG_ok rfl Z.f_abs rfl (k_ao_cons (k_var 3) k_ao_nil)) k_int))
  (k_cons (k_asg 5 sc.nd (k_op op_mod imod_ok (k_op op_pow ipow_ok (k_op op_addH addH_ok (k_op op_addH addH_ok (k_op op_mod imod_ok (k_var 3) k_int) (k_op op_mulW imul_ok k_int (k_var 1))) k_int) k_int) (k_ix ix_seq ixG_ok (k_var 2) (k_op op_mod imod_ok (k_var 1) k_int))))
  (k_lone (k_ret (k_lst (k_av_cons (k_var 4) (k_av_cons (k_op op_addH addH_ok (k_op op_mod imod_ok (k_op op_mulW imul_ok (k_var 5) (k_op op_addH addH_ok (k_op op_addH addH_ok (k_op op_fdivW idiv_ok (k_var 5) k_int) (k_op op_mulW imul_ok k_int (k_var 1))) k_int)) (k_ix ix_seq ixG_ok (k_var 2) (k_op op_mod imod_ok (k_op op_addH addH_ok (k_var 1) k_int) k_int))) k_int) k_av_nil)))))))))
theorem ok_stretch_text (Z : Fx w K mg) {fd : FuncData} (F : FunD K "stretch_text" "stretch_text" (defArgs s_stretch_text) (defBody s_stretch_text) (defScope s_stretch_text) [] [] (He.ga K "stretch_text") fd) : FnG P w K mg base 1 (He.ga K "stretch_text") fd ["stretch"] (spM K ct 1 m_stretch_text) ∧ Binds K fd ["stretch"] [] ∧ PySem.W.keepIn K (.ref (He.ga K "stretch_text")) = true := by
  have sc : FnScope ["stretch"] ["stretch"] (defScope s_stretch_text) := ⟨by kernel_rfl, by kernel_rfl, by kernel_rfl, by decide +kernel, rfl, by decide +kernel, by decide +kernel⟩
  refine ⟨k_def F sc rfl rfl fun cdv A outer s H E hr hgd => ?_, F.bindsN fun _ _ _ _ _ _ us hl => match us, hl with | [_], _ => by kernel_rfl, F.kp⟩
  exact (k_lone (k_ret (k_joined (.cons (k_fmt (k_ix ix_seq ixG_ok (k_var 0) k_int)) (.cons k_str (.cons (k_fmt (k_ix ix_seq ixG_ok (k_var 0) k_int)) .nil))))))
theorem ok_show_deed (Z : Fx w K mg) {fd : FuncData} (F : FunD K "show_deed" "show_deed" (defArgs s_show_deed) (defBody s_show_deed) (defScope s_show_deed) [] [] (He.ga K "show_deed") fd) : FnG P w K mg base 2 (He.ga K "show_deed") fd ["deed"] (spM K ct 1 m_show_deed) ∧ Binds K fd ["deed"] [] ∧ PySem.W.keepIn K (.ref (He.ga K "show_deed")) = true := by
  obtain ⟨d_stretch_text, F_stretch_text⟩ := Z.d_stretch_text
  obtain ⟨G_stretch_text, B_stretch_text, K_stretch_text⟩ := ok_stretch_text (P := P) (base := base) (ct := ct) Z F_stretch_text
  have sc : FnScope ["deed", "word", "parts", "said", "part"] ["deed"] (defScope s_show_deed) := ⟨by kernel_rfl, by kernel_rfl, by kernel_rfl, by decide +kernel, rfl, by decide +kernel, by decide +kernel⟩
  refine ⟨k_def F sc rfl rfl fun cdv A outer s H E hr hgd => ?_, F.bindsN fun _ _ _ _ _ _ us hl => match us, hl with | [_], _ => by kernel_rfl, F.kp⟩
  exact (k_cons (k_asgStar (vs := [1, 2]) rfl (k_var 0) (k_gscons (k_gn 1 sc.nd) (k_gstar (k_gn 2 sc.nd) k_gsnil)))
  (k_cons (k_asg 3 sc.nd (k_lst (k_av_cons (k_var 1) k_av_nil)))
  (k_cons (k_for (vs := [4]) (passes_of rfl) rfl (k_iterA (k_var 2)) (k_gn 4 sc.nd) (k_lone (k_if (k_truth (k_isi (ty := "tuple") tyOk_tuple rfl Z.f_isinstance rfl Z.f_tuple rfl (k_var 4))) (k_lone (k_expr (k_append 3 (k_var 3) (k_av_cons (k_call G_stretch_text (hr.mono (by decide)) hgd rfl Z.g_stretch_text K_stretch_text B_stretch_text px_fn (k_aa_e (k_var 4) k_aa_nil)) k_av_nil)))) (k_lone (k_if (k_not (k_truth (k_isi (ty := "bool") tyOk_bool rfl Z.f_isinstance rfl Z.f_bool rfl (k_var 4)))) (k_lone (k_expr (k_append 3 (k_var 3) (k_av_cons (k_callTy call_strG strG_ok rfl Z.f_str rfl (k_ao_cons (k_var 4) k_ao_nil)) k_av_nil)))) (k_lone (k_if (k_truth (k_var 4)) (k_lone (k_expr (k_append 3 (k_var 3) (k_av_cons (k_glob rfl Z.c_BY_LEAVE) k_av_nil)))) k_nil)))))))
  (k_lone (k_ret (k_met PySem.F.plainAttrs_str PySem.F.slot_str_join PySem.F.type_str_join mt_join joinG_ok k_str (k_ao_cons (k_var 3) k_ao_nil)))))))
theorem ok_words_of (Z : Fx w K mg) {fd : FuncData} (F : FunD K "words_of" "words_of" (defArgs s_words_of) (defBody s_words_of) (defScope s_words_of) [] [] (He.ga K "words_of") fd) : FnG P w K mg base 1 (He.ga K "words_of") fd ["text"] (spM K ct 1 m_words_of) ∧ Binds K fd ["text"] [] ∧ PySem.W.keepIn K (.ref (He.ga K "words_of")) = true := by
  have sc : FnScope ["text"] ["text"] (defScope s_words_of) := ⟨by kernel_rfl, by kernel_rfl, by kernel_rfl, by decide +kernel, rfl, by decide +kernel, by decide +kernel⟩
  refine ⟨k_def F sc rfl rfl fun cdv A outer s H E hr hgd => ?_, F.bindsN fun _ _ _ _ _ _ us hl => match us, hl with | [_], _ => by kernel_rfl, F.kp⟩
  exact (k_cons (k_if (k_not (k_truth (k_isi (ty := "str") tyOk_str rfl Z.f_isinstance rfl Z.f_str rfl (k_var 0)))) (k_lone k_never) k_nil)
  (k_lone (k_ret (k_ife (k_tcmp (op_neD hr.units) neG_ok (k_var 0) k_str rfl) (k_met PySem.F.plainAttrs_str PySem.F.slot_str_split PySem.F.type_str_split mt_split splitG_ok (k_var 0) (k_ao_cons k_str k_ao_nil)) (k_lst k_av_nil)))))
theorem ok_number_of (Z : Fx w K mg) {fd : FuncData} (F : FunD K "number_of" "number_of" (defArgs s_number_of) (defBody s_number_of) (defScope s_number_of) [] [] (He.ga K "number_of") fd) : FnG P w K mg base 1 (He.ga K "number_of") fd ["word"] (spM K ct 1 m_number_of) ∧ Binds K fd ["word"] [] ∧ PySem.W.keepIn K (.ref (He.ga K "number_of")) = true := by
  have sc : FnScope ["word", "sign"] ["word"] (defScope s_number_of) := ⟨by kernel_rfl, by kernel_rfl, by kernel_rfl, by decide +kernel, rfl, by decide +kernel, by decide +kernel⟩
  refine ⟨k_def F sc rfl rfl fun cdv A outer s H E hr hgd => ?_, F.bindsN fun _ _ _ _ _ _ us hl => match us, hl with | [_], _ => by kernel_rfl, F.kp⟩
  exact (k_cons (k_if (PW.pt (k_or (k_not (k_tchain op_le op_le ile_ok ile_ok k_int (k_callB call_len lenG_ok rfl Z.f_len rfl (k_ao_cons (k_var 0) k_ao_nil)) (k_glob rfl Z.c_MOST_FIGURES))) (k_or1 (k_not (k_truth (k_callB (cr_all rfl) allG_ok rfl Z.f_all rfl (k_ao_cons (k_lc (own := [("sign", 1)]) rfl sc.nd (k_iterA (k_var 0)) (blkOk_by (by kernel_rfl)) (fun _ _ _ _ _ => (k_gn 1 sc.nd)) (fun _ _ _ _ _ => ptsT) (fun _ _ _ _ _ => (k_cmp op_inH inH_ok (k_var 1) (k_glob rfl Z.c_FIGURES) rfl))) k_ao_nil))))))) (k_lone (k_ret k_non)) k_nil)
  (k_lone (k_ret (k_ife (PW.pt (k_and (k_tcmp (op_eqD hr.units) eqG_ok (k_ix ix_seq ixG_ok (k_var 0) k_int) k_str rfl) (k_and1 (k_tcmp (op_neD hr.units) neG_ok (k_var 0) k_str rfl)))) k_non (k_callTy call_intG intG_ok rfl Z.f_int rfl (k_ao_cons (k_var 0) k_ao_nil))))))
theorem ok_stretch_of (Z : Fx w K mg) {fd : FuncData} (F : FunD K "stretch_of" "stretch_of" (defArgs s_stretch_of) (defBody s_stretch_of) (defScope s_stretch_of) [] [] (He.ga K "stretch_of") fd) : FnG P w K mg base 2 (He.ga K "stretch_of") fd ["word"] (spM K ct 1 m_stretch_of) ∧ Binds K fd ["word"] [] ∧ PySem.W.keepIn K (.ref (He.ga K "stretch_of")) = true := by
  obtain ⟨d_number_of, F_number_of⟩ := Z.d_number_of
  obtain ⟨G_number_of, B_number_of, K_number_of⟩ := ok_number_of (P := P) (base := base) (ct := ct) Z F_number_of
  have sc : FnScope ["word", "first", "plus", "many", "stretch"] ["word"] (defScope s_stretch_of) := ⟨by kernel_rfl, by kernel_rfl, by kernel_rfl, by decide +kernel, rfl, by decide +kernel, by decide +kernel⟩
  refine ⟨k_def F sc rfl rfl fun cdv A outer s H E hr hgd => ?_, F.bindsN fun _ _ _ _ _ _ us hl => match us, hl with | [_], _ => by kernel_rfl, F.kp⟩
  exact (k_cons (k_asgT (vs := [1, 2, 3]) (k_met PySem.F.plainAttrs_str PySem.F.slot_str_partition PySem.F.type_str_partition mt_partition partG_ok (k_var 0) (k_ao_cons k_str k_ao_nil)) (k_gtup rfl (k_gscons (k_gn 1 sc.nd) (k_gscons (k_gn 2 sc.nd) (k_gscons (k_gn 3 sc.nd) k_gsnil)))))
  (k_cons (k_asg 4 sc.nd (k_tup (k_av_cons (k_call G_number_of (hr.mono (by decide)) hgd rfl Z.g_number_of K_number_of B_number_of px_fn (k_aa_e (k_var 1) k_aa_nil)) (k_av_cons (k_call G_number_of (hr.mono (by decide)) hgd rfl Z.g_number_of K_number_of B_number_of px_fn (k_aa_e (k_var 3) k_aa_nil)) k_av_nil))))
  (k_lone (k_ret (k_ife (PW.pt (k_or (k_tcmp op_inH inH_ok k_non (k_var 4) rfl) (k_or1 (k_tcmp (op_eqD hr.units) eqG_ok (k_ix ix_seq ixG_ok (k_var 4) k_int) k_int rfl)))) k_non (k_var 4))))))
theorem ok_is_whole (Z : Fx w K mg) {fd : FuncData} (F : FunD K "is_whole" "is_whole" (defArgs s_is_whole) (defBody s_is_whole) (defScope s_is_whole) [] [] (He.ga K "is_whole") fd) : FnG P w K mg base 1 (He.ga K "is_whole") fd ["thing"] (spM K ct 1 m_is_whole) ∧ Binds K fd ["thing"] [] ∧ PySem.W.keepIn K (.ref (He.ga K "is_whole")) = true := by
  have sc : FnScope ["thing"] ["thing"] (defScope s_is_whole) := ⟨by kernel_rfl, by kernel_rfl, by kernel_rfl, by decide +kernel, rfl, by decide +kernel, by decide +kernel⟩
  refine ⟨k_def F sc rfl rfl fun cdv A outer s H E hr hgd => ?_, F.bindsN fun _ _ _ _ _ _ us hl => match us, hl with | [_], _ => by kernel_rfl, F.kp⟩
  exact (k_lone (k_ret (k_andV (k_isi (ty := "int") tyOk_int rfl Z.f_isinstance rfl Z.f_int rfl (k_var 0)) (k_one (k_notV (k_isi (ty := "bool") tyOk_bool rfl Z.f_isinstance rfl Z.f_bool rfl (k_var 0)))))))
theorem ok_is_between (Z : Fx w K mg) {fd : FuncData} (F : FunD K "is_between" "is_between" (defArgs s_is_between) (defBody s_is_between) (defScope s_is_between) [] [] (He.ga K "is_between") fd) : FnG P w K mg base 2 (He.ga K "is_between") fd ["thing", "low", "high"] (spM K ct 3 m_is_between) ∧ Binds K fd ["thing", "low", "high"] [] ∧ PySem.W.keepIn K (.ref (He.ga K "is_between")) = true := by
  obtain ⟨d_is_whole, F_is_whole⟩ := Z.d_is_whole
  obtain ⟨G_is_whole, B_is_whole, K_is_whole⟩ := ok_is_whole (P := P) (base := base) (ct := ct) Z F_is_whole
  have sc : FnScope ["thing", "low", "high"] ["thing", "low", "high"] (defScope s_is_between) := ⟨by kernel_rfl, by kernel_rfl, by kernel_rfl, by decide +kernel, rfl, by decide +kernel, by decide +kernel⟩
  refine ⟨k_def F sc rfl rfl fun cdv A outer s H E hr hgd => ?_, F.bindsN fun _ _ _ _ _ _ us hl => match us, hl with | [_, _, _], _ => by kernel_rfl, F.kp⟩
  exact (k_lone (k_ret (k_andV (k_call G_is_whole (hr.mono (by decide)) hgd rfl Z.g_is_whole K_is_whole B_is_whole px_fn (k_aa_e (k_var 0) k_aa_nil)) (k_one (k_chain op_le op_le ile_ok ile_ok (k_var 1) (k_var 0) (k_var 2))))))
theorem ok_is_day (Z : Fx w K mg) {fd : FuncData} (F : FunD K "is_day" "is_day" (defArgs s_is_day) (defBody s_is_day) (defScope s_is_day) [] [] (He.ga K "is_day") fd) : FnG P w K mg base 3 (He.ga K "is_day") fd ["thing"] (spM K ct 1 m_is_day) ∧ Binds K fd ["thing"] [] ∧ PySem.W.keepIn K (.ref (He.ga K "is_day")) = true := by
  obtain ⟨d_is_between, F_is_between⟩ := Z.d_is_between
  obtain ⟨G_is_between, B_is_between, K_is_between⟩ := ok_is_between (P := P) (base := base) (ct := ct) Z F_is_between
  have sc : FnScope ["thing"] ["thing"] (defScope s_is_day) := ⟨by kernel_rfl, by kernel_rfl, by kernel_rfl, by decide +kernel, rfl, by decide +kernel, by decide +kernel⟩
  refine ⟨k_def F sc rfl rfl fun cdv A outer s H E hr hgd => ?_, F.bindsN fun _ _ _ _ _ _ us hl => match us, hl with | [_], _ => by kernel_rfl, F.kp⟩
  exact (k_lone (k_ret (k_call G_is_between (hr.mono (by decide)) hgd rfl Z.g_is_between K_is_between B_is_between px_fn (k_aa_e (k_var 0) (k_aa_e k_int (k_aa_e (k_glob rfl Z.c_MOST_DAY) k_aa_nil))))))
theorem ok_day_of (Z : Fx w K mg) {fd : FuncData} (F : FunD K "day_of" "day_of" (defArgs s_day_of) (defBody s_day_of) (defScope s_day_of) [] [] (He.ga K "day_of") fd) : FnG P w K mg base 4 (He.ga K "day_of") fd ["word"] (spM K ct 1 m_day_of) ∧ Binds K fd ["word"] [] ∧ PySem.W.keepIn K (.ref (He.ga K "day_of")) = true := by
  obtain ⟨d_is_day, F_is_day⟩ := Z.d_is_day
  obtain ⟨G_is_day, B_is_day, K_is_day⟩ := ok_is_day (P := P) (base := base) (ct := ct) Z F_is_day
  obtain ⟨d_number_of, F_number_of⟩ := Z.d_number_of
  obtain ⟨G_number_of, B_number_of, K_number_of⟩ := ok_number_of (P := P) (base := base) (ct := ct) Z F_number_of
  have sc : FnScope ["word", "number"] ["word"] (defScope s_day_of) := ⟨by kernel_rfl, by kernel_rfl, by kernel_rfl, by decide +kernel, rfl, by decide +kernel, by decide +kernel⟩
  refine ⟨k_def F sc rfl rfl fun cdv A outer s H E hr hgd => ?_, F.bindsN fun _ _ _ _ _ _ us hl => match us, hl with | [_], _ => by kernel_rfl, F.kp⟩
  exact (k_cons (k_asg 1 sc.nd (k_call G_number_of (hr.mono (by decide)) hgd rfl Z.g_number_of K_number_of B_number_of px_fn (k_aa_e (k_var 0) k_aa_nil)))
  (k_lone (k_ret (k_ife (k_truth (k_call G_is_day (hr.mono (by decide)) hgd rfl Z.g_is_day K_is_day B_is_day px_fn (k_aa_e (k_var 1) k_aa_nil))) (k_var 1) k_non))))
theorem ok_is_hand (Z : Fx w K mg) {fd : FuncData} (F : FunD K "is_hand" "is_hand" (defArgs s_is_hand) (defBody s_is_hand) (defScope s_is_hand) [] [] (He.ga K "is_hand") fd) : FnG P w K mg base 1 (He.ga K "is_hand") fd ["thing"] (spM K ct 1 m_is_hand) ∧ Binds K fd ["thing"] [] ∧ PySem.W.keepIn K (.ref (He.ga K "is_hand")) = true := by
  have sc : FnScope ["thing", "sign"] ["thing"] (defScope s_is_hand) := ⟨by kernel_rfl, by kernel_rfl, by kernel_rfl, by decide +kernel, rfl, by decide +kernel, by decide +kernel⟩
  refine ⟨k_def F sc rfl rfl fun cdv A outer s H E hr hgd => ?_, F.bindsN fun _ _ _ _ _ _ us hl => match us, hl with | [_], _ => by kernel_rfl, F.kp⟩
  exact (k_cons (k_if (PW.pt (k_or (k_not (k_truth (k_isi (ty := "str") tyOk_str rfl Z.f_isinstance rfl Z.f_str rfl (k_var 0)))) (k_or1 (k_not (k_tchain op_le op_le ile_ok ile_ok k_int (k_callB call_len lenG_ok rfl Z.f_len rfl (k_ao_cons (k_var 0) k_ao_nil)) k_int))))) (k_lone (k_ret k_bl)) k_nil)
  (k_lone (k_ret (k_callB (cr_all rfl) allG_ok rfl Z.f_all rfl (k_ao_cons (k_lc (own := [("sign", 1)]) rfl sc.nd (k_iterA (k_var 0)) (blkOk_by (by kernel_rfl)) (fun _ _ _ _ _ => (k_gn 1 sc.nd)) (fun _ _ _ _ _ => ptsT) (fun _ _ _ _ _ => (k_cmp op_inH inH_ok (k_var 1) k_str rfl))) k_ao_nil)))))
theorem ok_hand_of (Z : Fx w K mg) {fd : FuncData} (F : FunD K "hand_of" "hand_of" (defArgs s_hand_of) (defBody s_hand_of) (defScope s_hand_of) [] [] (He.ga K "hand_of") fd) : FnG P w K mg base 2 (He.ga K "hand_of") fd ["word"] (spM K ct 1 m_hand_of) ∧ Binds K fd ["word"] [] ∧ PySem.W.keepIn K (.ref (He.ga K "hand_of")) = true := by
  obtain ⟨d_is_hand, F_is_hand⟩ := Z.d_is_hand
  obtain ⟨G_is_hand, B_is_hand, K_is_hand⟩ := ok_is_hand (P := P) (base := base) (ct := ct) Z F_is_hand
  have sc : FnScope ["word"] ["word"] (defScope s_hand_of) := ⟨by kernel_rfl, by kernel_rfl, by kernel_rfl, by decide +kernel, rfl, by decide +kernel, by decide +kernel⟩
  refine ⟨k_def F sc rfl rfl fun cdv A outer s H E hr hgd => ?_, F.bindsN fun _ _ _ _ _ _ us hl => match us, hl with | [_], _ => by kernel_rfl, F.kp⟩
  exact (k_lone (k_ret (k_ife (k_truth (k_call G_is_hand (hr.mono (by decide)) hgd rfl Z.g_is_hand K_is_hand B_is_hand px_fn (k_aa_e (k_var 0) k_aa_nil))) (k_var 0) k_non)))
theorem ok_read_words (Z : Fx w K mg) {fd : FuncData} (F : FunD K "read_words" "read_words" (defArgs s_read_words) (defBody s_read_words) (defScope s_read_words) [] [] (He.ga K "read_words") fd) : FnG P w K mg base 5 (He.ga K "read_words") fd ["words", "begin"] (spM K ct 2 m_read_words) ∧ KwB K fd ["words", "begin"] 1 ["begin"] ∧ PySem.W.keepIn K (.ref (He.ga K "read_words")) = true := by
  obtain ⟨d_stretch_of, F_stretch_of⟩ := Z.d_stretch_of
  obtain ⟨G_stretch_of, B_stretch_of, K_stretch_of⟩ := ok_stretch_of (P := P) (base := base) (ct := ct) Z F_stretch_of
  obtain ⟨d_day_of, F_day_of⟩ := Z.d_day_of
  obtain ⟨G_day_of, B_day_of, K_day_of⟩ := ok_day_of (P := P) (base := base) (ct := ct) Z F_day_of
  obtain ⟨d_hand_of, F_hand_of⟩ := Z.d_hand_of
  obtain ⟨G_hand_of, B_hand_of, K_hand_of⟩ := ok_hand_of (P := P) (base := base) (ct := ct) Z F_hand_of
  have sc : FnScope ["words", "begin", "found", "kinds", "at", "kind", "part", "rest"] ["words", "begin"] (defScope s_read_words) := ⟨by kernel_rfl, by kernel_rfl, by kernel_rfl, by decide +kernel, rfl, by decide +kernel, by decide +kernel⟩
  refine ⟨k_def F sc rfl rfl fun cdv A outer s H E hr hgd => ?_, kwb F fun _ _ _ _ _ _ us ws h1 h2 => match us, h1, ws, h2 with | [_], _, [_], _ => by kernel_rfl, F.kp⟩
  have TC_READERS : ∀ q ∈ ([("day", m_day_of), ("hand", m_hand_of), ("stretch", m_stretch_of)] : List (Str × M R)), ∃ g, PySem.W.nsIn K (He.ga K "READERS") q.1 = some (some (.ref g)) ∧ FnK (cxOf (L2.CX P w) P w K mg base ["words", "begin", "found", "kinds", "at", "kind", "part", "rest"] "read_words" (defScope s_read_words) (He.ga K "read_words") cdv A outer s H E) ct 4 1 g q.2 := by
    intro q hq
    simp only [List.mem_cons, List.not_mem_nil, or_false] at hq
    rcases hq with rfl | rfl | rfl
    · exact ⟨_, tabFB_ok Z.w_READERS (q := ("day", "day_of")) (by simp), ⟨_, _, G_day_of.up (by decide), B_day_of⟩, K_day_of⟩
    · exact ⟨_, tabFB_ok Z.w_READERS (q := ("hand", "hand_of")) (by simp), ⟨_, _, G_hand_of.up (by decide), B_hand_of⟩, K_hand_of⟩
    · exact ⟨_, tabFB_ok Z.w_READERS (q := ("stretch", "stretch_of")) (by simp), ⟨_, _, G_stretch_of.up (by decide), B_stretch_of⟩, K_stretch_of⟩
  exact (k_cons (k_if (PW.pt (k_or (k_tcmp op_le ile_ok (k_callB call_len lenG_ok rfl Z.f_len rfl (k_ao_cons (k_var 0) k_ao_nil)) (k_var 1) rfl) (k_or1 (k_ttabNotIn Z.t_PARTS Z.v_PARTS (k_ix ix_seq ixG_ok (k_var 0) (k_var 1)) rfl)))) (k_lone k_never) k_nil)
  (k_cons (k_asg 2 sc.nd (k_lst (k_av_cons (k_ix ix_seq ixG_ok (k_var 0) (k_var 1)) k_av_nil)))
  (k_cons (k_asgLc 3 (own := [("kind", 5)]) rfl sc.nd (k_iterA (k_tabIx Z.t_PARTS Z.w_PARTS (k_ix ix_seq ixG_ok (k_var 0) (k_var 1)) rfl)) (blkOk_by (by kernel_rfl)) (fun _ _ _ _ _ => (k_gn 5 sc.nd)) (fun _ _ _ _ _ => (pts_one (k_ttabIn Z.t_READERS Z.v_READERS (k_var 5) rfl))) (fun _ _ _ _ _ => (k_var 5)))
  (k_cons (k_for (vs := [4, 5]) (passes_of rfl) rfl (k_enumN rfl Z.f_enumerate (k_av_cons (k_var 3) k_av_nil) (k_kv_cons (k_op op_addH addH_ok (k_var 1) k_int) k_kv_nil)) (k_gtup rfl (k_gscons (k_gn 4 sc.nd) (k_gscons (k_gn 5 sc.nd) k_gsnil))) (k_cons (k_asg 6 sc.nd (k_ife (k_tcmp op_lt ilt_ok (k_var 4) (k_callB call_len lenG_ok rfl Z.f_len rfl (k_ao_cons (k_var 0) k_ao_nil)) rfl) (k_tabCall Z.t_READERS TC_READERS (hr.mono (by decide)) hgd px_fn (k_var 5) rfl (k_aa_e (k_ix ix_seq ixG_ok (k_var 0) (k_var 4)) k_aa_nil)) k_non))
      (k_cons (k_if (PW.pt (k_or (k_tcmp op_isN isN_ok (k_var 6) k_non rfl) (k_or1 (PW.pt (k_and (k_tcmp (op_eqD hr.units) eqG_ok (k_var 5) (k_glob rfl Z.c_DAY) rfl) (k_and (k_tcmp (op_eqD hr.units) eqG_ok (k_callB call_len lenG_ok rfl Z.f_len rfl (k_ao_cons (k_var 2) k_ao_nil)) k_int rfl) (k_and1 (k_tcmp op_lt ilt_ok (k_var 6) (k_ix ix_seq ixG_ok (k_var 2) k_int) rfl)))))))) (k_lone k_never) k_nil)
      (k_lone (k_expr (k_append 2 (k_var 2) (k_av_cons (k_var 6) k_av_nil)))))))
  (k_cons (k_asg 7 sc.nd (k_slice sl_H slH_ok (k_var 0) (k_po_some (k_op op_addH addH_ok (k_op op_addH addH_ok (k_var 1) k_int) (k_callB call_len lenG_ok rfl Z.f_len rfl (k_ao_cons (k_var 3) k_ao_nil)))) k_po_none))
  (k_cons (k_if (k_tcmp (op_eqD hr.units) eqG_ok (k_ix ix_seq ixG_ok (k_var 2) k_int) (k_glob rfl Z.c_USE) rfl) (k_cons (k_expr (k_append 2 (k_var 2) (k_av_cons (k_cmp (op_eqD hr.units) eqG_ok (k_slice sl_H slH_ok (k_var 7) k_po_none (k_po_some k_int)) (k_lst (k_av_cons (k_glob rfl Z.c_BY_LEAVE) k_av_nil)) rfl) k_av_nil)))
      (k_lone (k_asg 7 sc.nd (k_ife (k_tcmp (op_eqD hr.units) eqG_ok (k_slice sl_H slH_ok (k_var 7) k_po_none (k_po_some k_int)) (k_lst (k_av_cons (k_glob rfl Z.c_BY_LEAVE) k_av_nil)) rfl) (k_slice sl_H slH_ok (k_var 7) (k_po_some k_int) k_po_none) (k_var 7))))) k_nil)
  (k_cons (k_if (k_tcmp (op_neD hr.units) neG_ok (k_var 7) (k_lst k_av_nil) rfl) (k_lone k_never) k_nil)
  (k_lone (k_ret (k_callTy call_tuple_of tupG_ok rfl Z.f_tuple rfl (k_ao_cons (k_var 2) k_ao_nil)))))))))))
theorem ok_read_deed (Z : Fx w K mg) {fd : FuncData} (F : FunD K "read_deed" "read_deed" (defArgs s_read_deed) (defBody s_read_deed) (defScope s_read_deed) [] [] (He.ga K "read_deed") fd) : FnG P w K mg base 6 (He.ga K "read_deed") fd ["text"] (spM K ct 1 m_read_deed) ∧ Binds K fd ["text"] [] ∧ PySem.W.keepIn K (.ref (He.ga K "read_deed")) = true := by
  obtain ⟨d_words_of, F_words_of⟩ := Z.d_words_of
  obtain ⟨G_words_of, B_words_of, K_words_of⟩ := ok_words_of (P := P) (base := base) (ct := ct) Z F_words_of
  obtain ⟨d_read_words, F_read_words⟩ := Z.d_read_words
  obtain ⟨G_read_words, B_read_words, K_read_words⟩ := ok_read_words (P := P) (base := base) (ct := ct) Z F_read_words
  have sc : FnScope ["text"] ["text"] (defScope s_read_deed) := ⟨by kernel_rfl, by kernel_rfl, by kernel_rfl, by decide +kernel, rfl, by decide +kernel, by decide +kernel⟩
  refine ⟨k_def F sc rfl rfl fun cdv A outer s H E hr hgd => ?_, F.bindsN fun _ _ _ _ _ _ us hl => match us, hl with | [_], _ => by kernel_rfl, F.kp⟩
  exact (k_lone (k_ret (k_callK G_read_words (hr.mono (by decide)) hgd rfl Z.g_read_words K_read_words B_read_words px_fn (k_aa_e (k_call G_words_of (hr.mono (by decide)) hgd rfl Z.g_words_of K_words_of B_words_of px_fn (k_aa_e (k_var 0) k_aa_nil)) k_aa_nil) (k_ka_cons k_int k_ka_nil))))
theorem ok__law_take (Z : Fx w K mg) {fd : FuncData} (F : FunD K "_law_take" "_law_take" (defArgs s__law_take) (defBody s__law_take) (defScope s__law_take) [] [] (He.ga K "_law_take") fd) : FnG P w K mg base 1 (He.ga K "_law_take") fd ["bag", "size"] (spM K ct 2 m__law_take) ∧ Binds K fd ["bag", "size"] [] ∧ PySem.W.keepIn K (.ref (He.ga K "_law_take")) = true := by
  have sc : FnScope ["bag", "size", "digit"] ["bag", "size"] (defScope s__law_take) := ⟨by kernel_rfl, by kernel_rfl, by kernel_rfl, by decide +kernel, rfl, by decide +kernel, by decide +kernel⟩
  refine ⟨k_def F sc rfl rfl fun cdv A outer s H E hr hgd => ?_, F.bindsN fun _ _ _ _ _ _ us hl => match us, hl with | [_, _], _ => by kernel_rfl, F.kp⟩
  exact (k_cons (k_if (k_tcmp op_gt igt_ok (k_ix ix_seq ixG_ok (k_var 0) k_int) k_int rfl) (k_cons (k_asg 2 sc.nd (k_op op_mod imod_ok (k_ix ix_seq ixG_ok (k_var 0) k_int) (k_var 1)))
      (k_cons (k_setI 0 (k_op op_fdivW idiv_ok (k_ix ix_seq ixG_ok (k_var 0) k_int) (k_var 1)) (k_var 0) k_int)
      (k_lone (k_ret (k_var 2))))) k_nil)
  (k_cons (k_setI 0 (k_op op_mod imod_ok (k_op op_mulW imul_ok (k_ix ix_seq ixG_ok (k_var 0) k_int) k_int) k_int) (k_var 0) k_int)
  (k_lone (k_ret (k_op op_mod imod_ok (k_op op_fdivW idiv_ok (k_op op_mod imod_ok (k_op op_mulW imul_ok (k_ix ix_seq ixG_ok (k_var 0) k_int) k_int) k_int) (k_op op_pow ipow_ok k_int k_int)) (k_var 1))))))
theorem ok__law_names (Z : Fx w K mg) {fd : FuncData} (F : FunD K "_law_names" "_law_names" (defArgs s__law_names) (defBody s__law_names) (defScope s__law_names) [] [] (He.ga K "_law_names") fd) : FnG P w K mg base 2 (He.ga K "_law_names") fd ["bag", "size"] (spM K ct 2 m__law_names) ∧ Binds K fd ["bag", "size"] [] ∧ PySem.W.keepIn K (.ref (He.ga K "_law_names")) = true := by
  obtain ⟨d__law_take, F__law_take⟩ := Z.d__law_take
  obtain ⟨G__law_take, B__law_take, K__law_take⟩ := ok__law_take (P := P) (base := base) (ct := ct) Z F__law_take
  have sc : FnScope ["bag", "size", "signs", "stem", "spot", "first", "pace", "some", "k", "sign"] ["bag", "size"] (defScope s__law_names) := ⟨by kernel_rfl, by kernel_rfl, by kernel_rfl, by decide +kernel, rfl, by decide +kernel, by decide +kernel⟩
  refine ⟨k_def F sc rfl rfl fun cdv A outer s H E hr hgd => ?_, F.bindsN fun _ _ _ _ _ _ us hl => match us, hl with | [_, _], _ => by kernel_rfl, F.kp⟩
  exact (k_cons (k_asg 2 sc.nd k_str)
  (k_cons (k_asg 3 sc.nd (k_met PySem.F.plainAttrs_str PySem.F.slot_str_join PySem.F.type_str_join mt_join joinG_ok k_str (k_ao_cons (k_lc (own := [("k", 8)]) rfl sc.nd (k_rng1 rfl Z.f_range (k_ao_cons (k_ix ix_seq ixG_ok (k_lst (k_av_cons k_int (k_av_cons k_int (k_av_cons k_int (k_av_cons k_int (k_av_cons k_int k_av_nil)))))) (k_call G__law_take (hr.mono (by decide)) hgd rfl Z.g__law_take K__law_take B__law_take px_fn (k_aa_io (k_var 0) (k_aa_e k_int k_aa_nil)))) k_ao_nil)) (blkOk_by (by kernel_rfl)) (fun _ _ _ _ _ => (k_gn 8 sc.nd)) (fun _ _ _ _ _ => ptsT) (fun _ _ _ _ _ => (k_ix ix_seq ixG_ok (k_var 2) (k_call G__law_take (hr.mono (by decide)) hgd rfl Z.g__law_take K__law_take B__law_take px_0 (k_aa_io (k_var 0) (k_aa_e k_int k_aa_nil)))))) k_ao_nil)))
  (k_cons (k_asgT (vs := [4, 5, 6]) (k_tup (k_av_cons (k_call G__law_take (hr.mono (by decide)) hgd rfl Z.g__law_take K__law_take B__law_take px_fn (k_aa_io (k_var 0) (k_aa_e (k_op op_addH addH_ok (k_callB call_len lenG_ok rfl Z.f_len rfl (k_ao_cons (k_var 3) k_ao_nil)) k_int) k_aa_nil))) (k_av_cons (k_call G__law_take (hr.mono (by decide)) hgd rfl Z.g__law_take K__law_take B__law_take px_fn (k_aa_io (k_var 0) (k_aa_e k_int k_aa_nil))) (k_av_cons (k_ix ix_seq ixG_ok (k_lst (k_av_cons k_int (k_av_cons k_int (k_av_cons k_int (k_av_cons k_int k_av_nil))))) (k_call G__law_take (hr.mono (by decide)) hgd rfl Z.g__law_take K__law_take B__law_take px_fn (k_aa_io (k_var 0) (k_aa_e k_int k_aa_nil)))) k_av_nil)))) (k_gtup rfl (k_gscons (k_gn 4 sc.nd) (k_gscons (k_gn 5 sc.nd) (k_gscons (k_gn 6 sc.nd) k_gsnil)))))
  (k_cons (k_asgLc 7 (own := [("k", 8)]) rfl sc.nd (k_rng1 rfl Z.f_range (k_ao_cons (k_var 1) k_ao_nil)) (blkOk_by (by kernel_rfl)) (fun _ _ _ _ _ => (k_gn 8 sc.nd)) (fun _ _ _ _ _ => ptsT) (fun _ _ _ _ _ => (k_ix ix_seq ixG_ok (k_var 2) (k_op op_mod imod_ok (k_op op_addH addH_ok (k_var 5) (k_op op_mulW imul_ok (k_var 6) (k_var 8))) k_int))))
  (k_lone (k_ret (k_lc (own := [("sign", 9)]) rfl sc.nd (k_iterA (k_var 7)) (blkOk_by (by kernel_rfl)) (fun _ _ _ _ _ => (k_gn 9 sc.nd)) (fun _ _ _ _ _ => ptsT) (fun _ _ _ _ _ => (k_op op_addH addH_ok (k_op op_addH addH_ok (k_slice sl_H slH_ok (k_var 3) k_po_none (k_po_some (k_var 4))) (k_var 9)) (k_slice sl_H slH_ok (k_var 3) (k_po_some (k_var 4)) k_po_none))))))))))
theorem ok__law_number_text (Z : Fx w K mg) {fd : FuncData} (F : FunD K "_law_number_text" "_law_number_text" (defArgs s__law_number_text) (defBody s__law_number_text) (defScope s__law_number_text) [] [] (He.ga K "_law_number_text") fd) : FnG P w K mg base 2 (He.ga K "_law_number_text") fd ["bag", "most"] (spM K ct 2 m__law_number_text) ∧ Binds K fd ["bag", "most"] [] ∧ PySem.W.keepIn K (.ref (He.ga K "_law_number_text")) = true := by
  obtain ⟨d__law_take, F__law_take⟩ := Z.d__law_take
  obtain ⟨G__law_take, B__law_take, K__law_take⟩ := ok__law_take (P := P) (base := base) (ct := ct) Z F__law_take
  have sc : FnScope ["bag", "most", "far"] ["bag", "most"] (defScope s__law_number_text) := ⟨by kernel_rfl, by kernel_rfl, by kernel_rfl, by decide +kernel, rfl, by decide +kernel, by decide +kernel⟩
  refine ⟨k_def F sc rfl rfl fun cdv A outer s H E hr hgd => ?_, F.bindsN fun _ _ _ _ _ _ us hl => match us, hl with | [_, _], _ => by kernel_rfl, F.kp⟩
  exact (k_cons (k_asg 2 sc.nd (k_op op_sub isub_ok (k_var 1) (k_call G__law_take (hr.mono (by decide)) hgd rfl Z.g__law_take K__law_take B__law_take px_fn (k_aa_io (k_var 0) (k_aa_e (k_op op_addH addH_ok (k_callB (call_min2 rfl) minG_ok rfl Z.f_min rfl (k_ao_cons (k_var 1) (k_ao_cons k_int k_ao_nil))) k_int) k_aa_nil)))))
  (k_lone (k_ret (k_ix ix_seq ixG_ok (k_lst (k_av_cons (k_call G__law_take (hr.mono (by decide)) hgd rfl Z.g__law_take K__law_take B__law_take px_fn (k_aa_io (k_var 0) (k_aa_e (k_op op_addH addH_ok (k_var 1) k_int) k_aa_nil))) (k_av_cons (k_var 2) (k_av_cons (k_call G__law_take (hr.mono (by decide)) hgd rfl Z.g__law_take K__law_take B__law_take px_fn (k_aa_io (k_var 0) (k_aa_e (k_op op_addH addH_ok (k_callB (call_min2 rfl) minG_ok rfl Z.f_min rfl (k_ao_cons (k_var 1) (k_ao_cons k_int k_ao_nil))) k_int) k_aa_nil))) k_av_nil)))) (k_call G__law_take (hr.mono (by decide)) hgd rfl Z.g__law_take K__law_take B__law_take px_fn (k_aa_io (k_var 0) (k_aa_e k_int k_aa_nil)))))))
theorem ok__law_any_stretch (Z : Fx w K mg) {fd : FuncData} (F : FunD K "_law_any_stretch" "_law_any_stretch" (defArgs s__law_any_stretch) (defBody s__law_any_stretch) (defScope s__law_any_stretch) [] [] (He.ga K "_law_any_stretch") fd) : FnG P w K mg base 3 (He.ga K "_law_any_stretch") fd ["bag"] (spM K ct 1 m__law_any_stretch) ∧ Binds K fd ["bag"] [] ∧ PySem.W.keepIn K (.ref (He.ga K "_law_any_stretch")) = true := by
  obtain ⟨d__law_number_text, F__law_number_text⟩ := Z.d__law_number_text
  obtain ⟨G__law_number_text, B__law_number_text, K__law_number_text⟩ := ok__law_number_text (P := P) (base := base) (ct := ct) Z F__law_number_text
  have sc : FnScope ["bag"] ["bag"] (defScope s__law_any_stretch) := ⟨by kernel_rfl, by kernel_rfl, by kernel_rfl, by decide +kernel, rfl, by decide +kernel, by decide +kernel⟩
  refine ⟨k_def F sc rfl rfl fun cdv A outer s H E hr hgd => ?_, F.bindsN fun _ _ _ _ _ _ us hl => match us, hl with | [_], _ => by kernel_rfl, F.kp⟩
  exact (k_lone (k_ret (k_tup (k_av_cons (k_call G__law_number_text (hr.mono (by decide)) hgd rfl Z.g__law_number_text K__law_number_text B__law_number_text px_fn (k_aa_io (k_var 0) (k_aa_e (k_op op_pow ipow_ok k_int k_int) k_aa_nil))) (k_av_cons (k_op op_addH addH_ok k_int (k_call G__law_number_text (hr.mono (by decide)) hgd rfl Z.g__law_number_text K__law_number_text B__law_number_text px_fn (k_aa_io (k_var 0) (k_aa_e (k_op op_pow ipow_ok k_int k_int) k_aa_nil)))) k_av_nil)))))
theorem ok__law_any_deed (Z : Fx w K mg) {fd : FuncData} (F : FunD K "_law_any_deed" "_law_any_deed" (defArgs s__law_any_deed) (defBody s__law_any_deed) (defScope s__law_any_deed) [] [] (He.ga K "_law_any_deed") fd) : FnG P w K mg base 4 (He.ga K "_law_any_deed") fd ["bag"] (spM K ct 1 m__law_any_deed) ∧ Binds K fd ["bag"] [] ∧ PySem.W.keepIn K (.ref (He.ga K "_law_any_deed")) = true := by
  obtain ⟨d__law_take, F__law_take⟩ := Z.d__law_take
  obtain ⟨G__law_take, B__law_take, K__law_take⟩ := ok__law_take (P := P) (base := base) (ct := ct) Z F__law_take
  obtain ⟨d__law_names, F__law_names⟩ := Z.d__law_names
  obtain ⟨G__law_names, B__law_names, K__law_names⟩ := ok__law_names (P := P) (base := base) (ct := ct) Z F__law_names
  obtain ⟨d__law_number_text, F__law_number_text⟩ := Z.d__law_number_text
  obtain ⟨G__law_number_text, B__law_number_text, K__law_number_text⟩ := ok__law_number_text (P := P) (base := base) (ct := ct) Z F__law_number_text
  obtain ⟨d__law_any_stretch, F__law_any_stretch⟩ := Z.d__law_any_stretch
  obtain ⟨G__law_any_stretch, B__law_any_stretch, K__law_any_stretch⟩ := ok__law_any_stretch (P := P) (base := base) (ct := ct) Z F__law_any_stretch
  have sc : FnScope ["bag", "way", "hand", "days", "froms", "overs"] ["bag"] (defScope s__law_any_deed) := ⟨by kernel_rfl, by kernel_rfl, by kernel_rfl, by decide +kernel, rfl, by decide +kernel, by decide +kernel⟩
  refine ⟨k_def F sc rfl rfl fun cdv A outer s H E hr hgd => ?_, F.bindsN fun _ _ _ _ _ _ us hl => match us, hl with | [_], _ => by kernel_rfl, F.kp⟩
  exact (k_cons (k_par2 1 2 rfl sc.nd (k_av_cons (k_call G__law_take (hr.mono (by decide)) hgd rfl Z.g__law_take K__law_take B__law_take px_fn (k_aa_io (k_var 0) (k_aa_e k_int k_aa_nil))) (k_av_cons (k_ix ix_seq ixG_ok (k_call G__law_names (hr.mono (by decide)) hgd rfl Z.g__law_names K__law_names B__law_names px_fn (k_aa_io (k_var 0) (k_aa_e k_int k_aa_nil))) k_int) k_av_nil)))
  (k_cons (k_asg 3 sc.nd (k_callB cr_sorted sortI_ok rfl Z.f_sorted rfl (k_ao_cons (k_lst (k_av_cons (k_call G__law_number_text (hr.mono (by decide)) hgd rfl Z.g__law_number_text K__law_number_text B__law_number_text px_fn (k_aa_io (k_var 0) (k_aa_e (k_op op_pow ipow_ok k_int k_int) k_aa_nil))) (k_av_cons (k_call G__law_number_text (hr.mono (by decide)) hgd rfl Z.g__law_number_text K__law_number_text B__law_number_text px_fn (k_aa_io (k_var 0) (k_aa_e (k_op op_pow ipow_ok k_int k_int) k_aa_nil))) k_av_nil))) k_ao_nil)))
  (k_cons (k_par2 4 5 rfl sc.nd (k_av_cons (k_call G__law_any_stretch (hr.mono (by decide)) hgd rfl Z.g__law_any_stretch K__law_any_stretch B__law_any_stretch px_fn (k_aa_io (k_var 0) k_aa_nil)) (k_av_cons (k_call G__law_any_stretch (hr.mono (by decide)) hgd rfl Z.g__law_any_stretch K__law_any_stretch B__law_any_stretch px_fn (k_aa_io (k_var 0) k_aa_nil)) k_av_nil)))
  (k_cons (k_if (k_tcmp (op_eqD hr.units) eqG_ok (k_var 1) k_int rfl) (k_lone (k_ret (k_tup (k_av_cons k_str (k_av_cons (k_ix ix_seq ixG_ok (k_var 3) k_int) (k_av_cons (k_var 4) (k_av_cons (k_var 2) k_av_nil))))))) k_nil)
  (k_cons (k_if (k_tcmp op_lt ilt_ok (k_var 1) k_int rfl) (k_lone (k_ret (k_tup (k_av_cons (k_ix ix_seq ixG_ok (k_lst (k_av_cons k_str (k_av_cons k_str k_av_nil))) (k_op op_sub isub_ok (k_var 1) k_int)) (k_av_cons (k_ix ix_seq ixG_ok (k_var 3) k_int) (k_av_cons (k_var 2) (k_av_cons (k_var 4) (k_av_cons (k_var 5) k_av_nil)))))))) k_nil)
  (k_lone (k_ret (k_tup (k_av_cons k_str (k_av_cons (k_ix ix_seq ixG_ok (k_var 3) (k_call G__law_take (hr.mono (by decide)) hgd rfl Z.g__law_take K__law_take B__law_take px_fn (k_aa_io (k_var 0) (k_aa_e k_int k_aa_nil)))) (k_av_cons (k_ix ix_seq ixG_ok (k_var 3) k_int) (k_av_cons (k_var 4) (k_av_cons (k_var 5) (k_av_cons (k_cmp (op_eqD hr.units) eqG_ok (k_call G__law_take (hr.mono (by decide)) hgd rfl Z.g__law_take K__law_take B__law_take px_fn (k_aa_io (k_var 0) (k_aa_e k_int k_aa_nil))) k_int rfl) k_av_nil))))))))))))))
theorem ok__law_text (Z : Fx w K mg) {fd : FuncData} (F : FunD K "_law_text" "_law_text" (defArgs s__law_text) (defBody s__law_text) (defScope s__law_text) [] [] (He.ga K "_law_text") fd) : FnG P w K mg base 1 (He.ga K "_law_text") fd ["deed"] (spM K ct 1 m__law_text) ∧ Binds K fd ["deed"] [] ∧ PySem.W.keepIn K (.ref (He.ga K "_law_text")) = true := by
  have sc : FnScope ["deed", "words", "part"] ["deed"] (defScope s__law_text) := ⟨by kernel_rfl, by kernel_rfl, by kernel_rfl, by decide +kernel, rfl, by decide +kernel, by decide +kernel⟩
  refine ⟨k_def F sc rfl rfl fun cdv A outer s H E hr hgd => ?_, F.bindsN fun _ _ _ _ _ _ us hl => match us, hl with | [_], _ => by kernel_rfl, F.kp⟩
  exact (k_cons (k_asg 1 sc.nd (k_lst (k_av_cons (k_ix ix_seq ixG_ok (k_var 0) k_int) k_av_nil)))
  (k_cons (k_for (vs := [2]) (passes_of rfl) rfl (k_iterA (k_slice sl_H slH_ok (k_var 0) (k_po_some k_int) k_po_none)) (k_gn 2 sc.nd) (k_lone (k_if (k_truth (k_isi (ty := "tuple") tyOk_tuple rfl Z.f_isinstance rfl Z.f_tuple rfl (k_var 2))) (k_lone (k_expr (k_append 1 (k_var 1) (k_av_cons (k_op op_addH addH_ok (k_op op_addH addH_ok (k_callTy call_strG strG_ok rfl Z.f_str rfl (k_ao_cons (k_ix ix_seq ixG_ok (k_var 2) k_int) k_ao_nil)) k_str) (k_callTy call_strG strG_ok rfl Z.f_str rfl (k_ao_cons (k_ix ix_seq ixG_ok (k_var 2) k_int) k_ao_nil))) k_av_nil)))) (k_lone (k_if (k_tcmp op_isB isB_ok (k_var 2) k_bl rfl) (k_lone (k_expr (k_append 1 (k_var 1) (k_av_cons k_str k_av_nil)))) (k_lone (k_if (k_tcmp op_isnB isnB_ok (k_var 2) k_bl rfl) (k_lone (k_expr (k_append 1 (k_var 1) (k_av_cons (k_callTy call_strG strG_ok rfl Z.f_str rfl (k_ao_cons (k_var 2) k_ao_nil)) k_av_nil)))) k_nil)))))))
  (k_lone (k_ret (k_met PySem.F.plainAttrs_str PySem.F.slot_str_join PySem.F.type_str_join mt_join joinG_ok k_str (k_ao_cons (k_var 1) k_ao_nil))))))
theorem ok__law_right (Z : Fx w K mg) {fd : FuncData} (F : FunD K "_law_right" "_law_right" (defArgs s__law_right) (defBody s__law_right) (defScope s__law_right) [] [] (He.ga K "_law_right") fd) : FnG P w K mg base 7 (He.ga K "_law_right") fd ["bag"] (spM K ct 1 m__law_right) ∧ Binds K fd ["bag"] [] ∧ PySem.W.keepIn K (.ref (He.ga K "_law_right")) = true := by
  obtain ⟨d_show_deed, F_show_deed⟩ := Z.d_show_deed
  obtain ⟨G_show_deed, B_show_deed, K_show_deed⟩ := ok_show_deed (P := P) (base := base) (ct := ct) Z F_show_deed
  obtain ⟨d_read_deed, F_read_deed⟩ := Z.d_read_deed
  obtain ⟨G_read_deed, B_read_deed, K_read_deed⟩ := ok_read_deed (P := P) (base := base) (ct := ct) Z F_read_deed
  obtain ⟨d__law_any_deed, F__law_any_deed⟩ := Z.d__law_any_deed
  obtain ⟨G__law_any_deed, B__law_any_deed, K__law_any_deed⟩ := ok__law_any_deed (P := P) (base := base) (ct := ct) Z F__law_any_deed
  obtain ⟨d__law_text, F__law_text⟩ := Z.d__law_text
  obtain ⟨G__law_text, B__law_text, K__law_text⟩ := ok__law_text (P := P) (base := base) (ct := ct) Z F__law_text
  have sc : FnScope ["bag", "deeds", "said", "deed", "word", "found", "one", "other", "k"] ["bag"] (defScope s__law_right) := ⟨by kernel_rfl, by kernel_rfl, by kernel_rfl, by decide +kernel, rfl, by decide +kernel, by decide +kernel⟩
  refine ⟨k_def F sc rfl rfl fun cdv A outer s H E hr hgd => ?_, F.bindsN fun _ _ _ _ _ _ us hl => match us, hl with | [_], _ => by kernel_rfl, F.kp⟩
  exact (k_cons (k_asgLc 1 (own := [("k", 8)]) rfl sc.nd (k_rng1 rfl Z.f_range (k_ao_cons k_int k_ao_nil)) (blkOk_by (by kernel_rfl)) (fun _ _ _ _ _ => (k_gn 8 sc.nd)) (fun _ _ _ _ _ => ptsT) (fun _ _ _ _ _ => (k_call G__law_any_deed (hr.mono (by decide)) hgd rfl Z.g__law_any_deed K__law_any_deed B__law_any_deed px_0 (k_aa_io (k_var 0) k_aa_nil))))
  (k_cons (k_asgLc 2 (own := [("deed", 3)]) rfl sc.nd (k_iterA (k_var 1)) (blkOk_by (by kernel_rfl)) (fun _ _ _ _ _ => (k_gn 3 sc.nd)) (fun _ _ _ _ _ => ptsT) (fun _ _ _ _ _ => (k_call G_show_deed (hr.mono (by decide)) hgd rfl Z.g_show_deed K_show_deed B_show_deed px_0 (k_aa_e (k_var 3) k_aa_nil))))
  (k_cons (k_for (vs := [3, 4]) (passes_of rfl) rfl (k_zip rfl Z.f_zip (k_av_cons (k_var 1) (k_av_cons (k_var 2) k_av_nil))) (k_gtup rfl (k_gscons (k_gn 3 sc.nd) (k_gscons (k_gn 4 sc.nd) k_gsnil))) (k_cons (k_if (PW.pt (k_or (k_not (k_truth (k_isi (ty := "str") tyOk_str rfl Z.f_isinstance rfl Z.f_str rfl (k_var 4)))) (k_or1 (k_tcmp (op_neD hr.units) neG_ok (k_var 4) (k_call G__law_text (hr.mono (by decide)) hgd rfl Z.g__law_text K__law_text B__law_text px_fn (k_aa_e (k_var 3) k_aa_nil)) rfl)))) (k_lone (k_ret k_bl)) k_nil)
      (k_cons (k_asg 5 sc.nd (k_call G_read_deed (hr.mono (by decide)) hgd rfl Z.g_read_deed K_read_deed B_read_deed px_fn (k_aa_e (k_var 4) k_aa_nil)))
      (k_lone (k_if (PW.pt (k_or (k_tcmp (op_neD hr.units) neG_ok (k_callB (call_repr hgd (u65 hr)) reprG_ok rfl Z.f_repr rfl (k_ao_cons (k_var 5) k_ao_nil)) (k_callB (call_repr hgd (u65 hr)) reprG_ok rfl Z.f_repr rfl (k_ao_cons (k_var 3) k_ao_nil)) rfl) (k_or (k_tcmp (op_neD hr.units) neG_ok (k_callB (call_repr hgd (u65 hr)) reprG_ok rfl Z.f_repr rfl (k_ao_cons (k_call G_read_deed (hr.mono (by decide)) hgd rfl Z.g_read_deed K_read_deed B_read_deed px_fn (k_aa_e (k_var 4) k_aa_nil)) k_ao_nil)) (k_callB (call_repr hgd (u65 hr)) reprG_ok rfl Z.f_repr rfl (k_ao_cons (k_var 3) k_ao_nil)) rfl) (k_or1 (k_tcmp (op_neD hr.units) neG_ok (k_call G_show_deed (hr.mono (by decide)) hgd rfl Z.g_show_deed K_show_deed B_show_deed px_fn (k_aa_e (k_var 5) k_aa_nil)) (k_var 4) rfl))))) (k_lone (k_ret k_bl)) k_nil)))))
  (k_cons (k_for (vs := [6]) (passes_of rfl) rfl (k_rng1 rfl Z.f_range (k_ao_cons k_int k_ao_nil)) (k_gn 6 sc.nd) (k_lone (k_for (vs := [7]) (passes_of rfl) rfl (k_rng1 rfl Z.f_range (k_ao_cons (k_var 6) k_ao_nil)) (k_gn 7 sc.nd) (k_lone (k_if (k_tcmp (op_neD hr.units) neG_ok (k_cmp (op_eqD hr.units) eqG_ok (k_ix ix_seq ixG_ok (k_var 2) (k_var 6)) (k_ix ix_seq ixG_ok (k_var 2) (k_var 7)) rfl) (k_cmp (op_eqD hr.units) eqG_ok (k_ix ix_seq ixG_ok (k_var 1) (k_var 6)) (k_ix ix_seq ixG_ok (k_var 1) (k_var 7)) rfl) rfl) (k_lone (k_ret k_bl)) k_nil)))))
  (k_lone (k_ret k_bl))))))
theorem ok_law (Z : Fx w K mg) {fd : FuncData} (F : FunD K "law" "law" (defArgs s_law) (defBody s_law) (defScope s_law) [] [] (He.ga K "law") fd) : FnG P w K mg base 8 (He.ga K "law") fd ["script"] (spM K ct 1 m_law) ∧ Binds K fd ["script"] [] ∧ PySem.W.keepIn K (.ref (He.ga K "law")) = true := by
  obtain ⟨d__law_bag, F__law_bag⟩ := Z.d__law_bag
  obtain ⟨G__law_bag, B__law_bag, K__law_bag⟩ := ok__law_bag (P := P) (base := base) (ct := ct) Z F__law_bag
  obtain ⟨d__law_right, F__law_right⟩ := Z.d__law_right
  obtain ⟨G__law_right, B__law_right, K__law_right⟩ := ok__law_right (P := P) (base := base) (ct := ct) Z F__law_right
  have sc : FnScope ["script", "k", "bag", "turn"] ["script"] (defScope s_law) := ⟨by kernel_rfl, by kernel_rfl, by kernel_rfl, by decide +kernel, rfl, by decide +kernel, by decide +kernel⟩
  refine ⟨k_def F sc rfl rfl fun cdv A outer s H E hr hgd => ?_, F.bindsN fun _ _ _ _ _ _ us hl => match us, hl with | [_], _ => by kernel_rfl, F.kp⟩
  exact (k_cons (k_for (vs := [1]) (passes_of rfl) rfl (k_rng1 rfl Z.f_range (k_ao_cons (k_callB (call_max2 rfl) maxG_ok rfl Z.f_max rfl (k_ao_cons k_int (k_ao_cons (k_callB (call_min2 rfl) minG_ok rfl Z.f_min rfl (k_ao_cons k_int (k_ao_cons (k_callB call_len lenG_ok rfl Z.f_len rfl (k_ao_cons (k_var 0) k_ao_nil)) k_ao_nil))) k_ao_nil))) k_ao_nil)) (k_gn 1 sc.nd) (k_cons (k_asg 2 sc.nd (k_call G__law_bag (hr.mono (by decide)) hgd rfl Z.g__law_bag K__law_bag B__law_bag px_fn (k_aa_e (k_var 0) (k_aa_e (k_var 1) k_aa_nil))))
      (k_lone (k_for (vs := [3]) (passes_of rfl) rfl (k_rng1 rfl Z.f_range (k_ao_cons k_int k_ao_nil)) (k_gn 3 sc.nd) (k_lone (k_if (k_not (k_truth (k_call G__law_right (hr.mono (by decide)) hgd rfl Z.g__law_right K__law_right B__law_right px_fn (k_aa_io (k_var 2) k_aa_nil)))) (k_lone (k_ret k_bl)) k_nil))))))
  (k_lone (k_ret k_bl)))
end
end L81

set_option maxRecDepth 100000
set_option maxHeartbeats 0
/-! T81: the top (printed by gen.py). -/
namespace L81
open PySem L2 VL PyProof.Rows PySem.Spec

def dd__law_bag : He.DefD := ⟨("_law_bag", none), "_law_bag", "_law_bag", defArgs s__law_bag, defBody s__law_bag, defScope s__law_bag, [], []⟩
def dd_stretch_text : He.DefD := ⟨("stretch_text", none), "stretch_text", "stretch_text", defArgs s_stretch_text, defBody s_stretch_text, defScope s_stretch_text, [], []⟩
def dd_show_deed : He.DefD := ⟨("show_deed", none), "show_deed", "show_deed", defArgs s_show_deed, defBody s_show_deed, defScope s_show_deed, [], []⟩
def dd_words_of : He.DefD := ⟨("words_of", none), "words_of", "words_of", defArgs s_words_of, defBody s_words_of, defScope s_words_of, [], []⟩
def dd_number_of : He.DefD := ⟨("number_of", none), "number_of", "number_of", defArgs s_number_of, defBody s_number_of, defScope s_number_of, [], []⟩
def dd_stretch_of : He.DefD := ⟨("stretch_of", none), "stretch_of", "stretch_of", defArgs s_stretch_of, defBody s_stretch_of, defScope s_stretch_of, [], []⟩
def dd_is_whole : He.DefD := ⟨("is_whole", none), "is_whole", "is_whole", defArgs s_is_whole, defBody s_is_whole, defScope s_is_whole, [], []⟩
def dd_is_between : He.DefD := ⟨("is_between", none), "is_between", "is_between", defArgs s_is_between, defBody s_is_between, defScope s_is_between, [], []⟩
def dd_is_day : He.DefD := ⟨("is_day", none), "is_day", "is_day", defArgs s_is_day, defBody s_is_day, defScope s_is_day, [], []⟩
def dd_day_of : He.DefD := ⟨("day_of", none), "day_of", "day_of", defArgs s_day_of, defBody s_day_of, defScope s_day_of, [], []⟩
def dd_is_hand : He.DefD := ⟨("is_hand", none), "is_hand", "is_hand", defArgs s_is_hand, defBody s_is_hand, defScope s_is_hand, [], []⟩
def dd_hand_of : He.DefD := ⟨("hand_of", none), "hand_of", "hand_of", defArgs s_hand_of, defBody s_hand_of, defScope s_hand_of, [], []⟩
def dd_read_words : He.DefD := ⟨("read_words", none), "read_words", "read_words", defArgs s_read_words, defBody s_read_words, defScope s_read_words, [], []⟩
def dd_read_deed : He.DefD := ⟨("read_deed", none), "read_deed", "read_deed", defArgs s_read_deed, defBody s_read_deed, defScope s_read_deed, [], []⟩
def dd__law_take : He.DefD := ⟨("_law_take", none), "_law_take", "_law_take", defArgs s__law_take, defBody s__law_take, defScope s__law_take, [], []⟩
def dd__law_names : He.DefD := ⟨("_law_names", none), "_law_names", "_law_names", defArgs s__law_names, defBody s__law_names, defScope s__law_names, [], []⟩
def dd__law_number_text : He.DefD := ⟨("_law_number_text", none), "_law_number_text", "_law_number_text", defArgs s__law_number_text, defBody s__law_number_text, defScope s__law_number_text, [], []⟩
def dd__law_any_stretch : He.DefD := ⟨("_law_any_stretch", none), "_law_any_stretch", "_law_any_stretch", defArgs s__law_any_stretch, defBody s__law_any_stretch, defScope s__law_any_stretch, [], []⟩
def dd__law_any_deed : He.DefD := ⟨("_law_any_deed", none), "_law_any_deed", "_law_any_deed", defArgs s__law_any_deed, defBody s__law_any_deed, defScope s__law_any_deed, [], []⟩
def dd__law_text : He.DefD := ⟨("_law_text", none), "_law_text", "_law_text", defArgs s__law_text, defBody s__law_text, defScope s__law_text, [], []⟩
def dd__law_right : He.DefD := ⟨("_law_right", none), "_law_right", "_law_right", defArgs s__law_right, defBody s__law_right, defScope s__law_right, [], []⟩
def dd_law : He.DefD := ⟨("law", none), "law", "law", defArgs s_law, defBody s_law, defScope s_law, [], []⟩
def fn : List He.DefD := ([dd__law_bag, dd_stretch_text, dd_show_deed, dd_words_of, dd_number_of, dd_stretch_of, dd_is_whole, dd_is_between, dd_is_day, dd_day_of, dd_is_hand, dd_hand_of, dd_read_words, dd_read_deed, dd__law_take, dd__law_names, dd__law_number_text, dd__law_any_stretch, dd__law_any_deed, dd__law_text, dd__law_right, dd_law] : List He.DefD)
def fa : List He.Fa := ([.glo "_law_bag", .glo "stretch_text", .glo "show_deed", .glo "words_of", .glo "number_of", .glo "stretch_of", .glo "is_whole", .glo "is_between", .glo "is_day", .glo "day_of", .glo "is_hand", .glo "hand_of", .glo "read_words", .glo "read_deed", .glo "_law_take", .glo "_law_names", .glo "_law_number_text", .glo "_law_any_stretch", .glo "_law_any_deed", .glo "_law_text", .glo "_law_right", .glo "law", .glo "PARTS", .glo "READERS", .free "abs", .free "all", .free "bool", .free "enumerate", .free "int", .free "isinstance"] : List He.Fa) ++ ([.free "len", .free "max", .free "min", .free "range", .free "repr", .free "sorted", .free "str", .free "tuple", .free "zip"] : List He.Fa)
def ts : List He.Tab := [(fun K => He.ga K "PARTS", ["sale", "grant", "end", "use"]), (fun K => He.ga K "READERS", ["day", "hand", "stretch"])]
def exl (K : PySem.W.Frag) : List Bool := [conB K "BY_LEAVE" (.str "leave"), conB K "DAY" (.str "day"), conB K "FIGURES" (.str "0123456789"), conB K "MOST_DAY" (.int 1000000000000000000000000000000), conB K "MOST_FIGURES" (.int 60), conB K "USE" (.str "use"), tabVB K (He.ga K "PARTS") [("sale", (.tup [(.str "day"), (.str "stretch"), (.str "hand")])), ("grant", (.tup [(.str "day"), (.str "hand"), (.str "stretch"), (.str "stretch")])), ("end", (.tup [(.str "day"), (.str "hand"), (.str "stretch"), (.str "stretch")])), ("use", (.tup [(.str "day"), (.str "day"), (.str "stretch"), (.str "stretch"), (.str "leave")]))], tabFB K (He.ga K "READERS") [("day", "day_of"), ("hand", "hand_of"), ("stretch", "stretch_of")]]
def ex (K : PySem.W.Frag) : Bool := (exl K).all id
abbrev R : PySem.W.OpenRow := PySem.W.OpenLaw.row PySem.Challenge.rw_oldways_k81_deeds_written
abbrev hk : PySem.W.Hook := He.hookX 6 fa fn ts [] ex
def ob (s : PySem.W.SharedT) : He.AlX := He.obsX 6 fa fn ts [] ex (HandSHeadRun.getT s)
theorem ob_eq (s : PySem.W.SharedT) : ob s = hk.obs s.abs := He.obsX_eq (HandSHeadRun.getT_eq s)
def loose : List Str := (["NoText", "MOST_DAY", "is_whole", "is_between", "is_day", "is_hand", "SALE", "GRANT", "END", "USE", "DAY", "HAND", "STRETCH", "LEAVE", "PARTS", "FIGURES", "MOST_FIGURES", "BY_LEAVE", "stretch_text", "show_deed", "number_of", "stretch_of", "day_of", "hand_of", "READERS", "words_of", "read_words", "read_deed", "_law_bag", "_law_take"] : List Str) ++ (["_law_names", "_law_number_text", "_law_any_stretch", "_law_any_deed", "_law_text", "_law_right"] : List Str)
theorem run (w : World) : HandSHeadRun.RunEq R (PySem.W.view R.prog [41]) hk ob 6000 loose w := PySem.W.byRow2 "special-get-raises" (P := fun w => HandSHeadRun.RunEq R (PySem.W.view R.prog [41]) hk ob 6000 loose w) (fun w os => by kernel_rfl) (fun w os => by kernel_rfl) w
theorem facts {w : World} {K : PySem.W.Frag} {h : Heap} {mg : Str → Option Value} (X : K.In h) (G : h.Ns mainGlobals mg) (c : He.SaysX fa fn ts [] ex w h K) : Fx w K mg where
  f_abs := He.free_ok X G (c.t.d.fact 24 (f := .free "abs") rfl)
  f_all := He.free_ok X G (c.t.d.fact 25 (f := .free "all") rfl)
  f_bool := He.free_ok X G (c.t.d.fact 26 (f := .free "bool") rfl)
  f_enumerate := He.free_ok X G (c.t.d.fact 27 (f := .free "enumerate") rfl)
  f_int := He.free_ok X G (c.t.d.fact 28 (f := .free "int") rfl)
  f_isinstance := He.free_ok X G (c.t.d.fact 29 (f := .free "isinstance") rfl)
  f_len := He.free_ok X G (c.t.d.fact 30 (f := .free "len") rfl)
  f_max := He.free_ok X G (c.t.d.fact 31 (f := .free "max") rfl)
  f_min := He.free_ok X G (c.t.d.fact 32 (f := .free "min") rfl)
  f_range := He.free_ok X G (c.t.d.fact 33 (f := .free "range") rfl)
  f_repr := He.free_ok X G (c.t.d.fact 34 (f := .free "repr") rfl)
  f_sorted := He.free_ok X G (c.t.d.fact 35 (f := .free "sorted") rfl)
  f_str := He.free_ok X G (c.t.d.fact 36 (f := .free "str") rfl)
  f_tuple := He.free_ok X G (c.t.d.fact 37 (f := .free "tuple") rfl)
  f_zip := He.free_ok X G (c.t.d.fact 38 (f := .free "zip") rfl)
  c_BY_LEAVE := conB_ok X G (exAt c.more 0 rfl)
  c_DAY := conB_ok X G (exAt c.more 1 rfl)
  c_FIGURES := conB_ok X G (exAt c.more 2 rfl)
  c_MOST_DAY := conB_ok X G (exAt c.more 3 rfl)
  c_MOST_FIGURES := conB_ok X G (exAt c.more 4 rfl)
  c_USE := conB_ok X G (exAt c.more 5 rfl)
  t_PARTS := tab_mk (He.glo_ok X G (c.t.d.fact 22 (f := .glo "PARTS") rfl)) (tab_at c.t 0 rfl)
  v_PARTS := tv_all (exAt c.more 6 rfl) rfl
  w_PARTS := exAt c.more 6 rfl
  t_READERS := tab_mk (He.glo_ok X G (c.t.d.fact 23 (f := .glo "READERS") rfl)) (tab_at c.t 1 rfl)
  v_READERS := tf_all (exAt c.more 7 rfl) rfl
  w_READERS := exAt c.more 7 rfl
  g__law_bag := He.glo_ok X G (c.t.d.fact 0 (f := .glo "_law_bag") rfl)
  d__law_bag := c.t.d.def_ 0 (d := dd__law_bag) rfl
  g_stretch_text := He.glo_ok X G (c.t.d.fact 1 (f := .glo "stretch_text") rfl)
  d_stretch_text := c.t.d.def_ 1 (d := dd_stretch_text) rfl
  g_show_deed := He.glo_ok X G (c.t.d.fact 2 (f := .glo "show_deed") rfl)
  d_show_deed := c.t.d.def_ 2 (d := dd_show_deed) rfl
  g_words_of := He.glo_ok X G (c.t.d.fact 3 (f := .glo "words_of") rfl)
  d_words_of := c.t.d.def_ 3 (d := dd_words_of) rfl
  g_number_of := He.glo_ok X G (c.t.d.fact 4 (f := .glo "number_of") rfl)
  d_number_of := c.t.d.def_ 4 (d := dd_number_of) rfl
  g_stretch_of := He.glo_ok X G (c.t.d.fact 5 (f := .glo "stretch_of") rfl)
  d_stretch_of := c.t.d.def_ 5 (d := dd_stretch_of) rfl
  g_is_whole := He.glo_ok X G (c.t.d.fact 6 (f := .glo "is_whole") rfl)
  d_is_whole := c.t.d.def_ 6 (d := dd_is_whole) rfl
  g_is_between := He.glo_ok X G (c.t.d.fact 7 (f := .glo "is_between") rfl)
  d_is_between := c.t.d.def_ 7 (d := dd_is_between) rfl
  g_is_day := He.glo_ok X G (c.t.d.fact 8 (f := .glo "is_day") rfl)
  d_is_day := c.t.d.def_ 8 (d := dd_is_day) rfl
  g_day_of := He.glo_ok X G (c.t.d.fact 9 (f := .glo "day_of") rfl)
  d_day_of := c.t.d.def_ 9 (d := dd_day_of) rfl
  g_is_hand := He.glo_ok X G (c.t.d.fact 10 (f := .glo "is_hand") rfl)
  d_is_hand := c.t.d.def_ 10 (d := dd_is_hand) rfl
  g_hand_of := He.glo_ok X G (c.t.d.fact 11 (f := .glo "hand_of") rfl)
  d_hand_of := c.t.d.def_ 11 (d := dd_hand_of) rfl
  g_read_words := He.glo_ok X G (c.t.d.fact 12 (f := .glo "read_words") rfl)
  d_read_words := c.t.d.def_ 12 (d := dd_read_words) rfl
  g_read_deed := He.glo_ok X G (c.t.d.fact 13 (f := .glo "read_deed") rfl)
  d_read_deed := c.t.d.def_ 13 (d := dd_read_deed) rfl
  g__law_take := He.glo_ok X G (c.t.d.fact 14 (f := .glo "_law_take") rfl)
  d__law_take := c.t.d.def_ 14 (d := dd__law_take) rfl
  g__law_names := He.glo_ok X G (c.t.d.fact 15 (f := .glo "_law_names") rfl)
  d__law_names := c.t.d.def_ 15 (d := dd__law_names) rfl
  g__law_number_text := He.glo_ok X G (c.t.d.fact 16 (f := .glo "_law_number_text") rfl)
  d__law_number_text := c.t.d.def_ 16 (d := dd__law_number_text) rfl
  g__law_any_stretch := He.glo_ok X G (c.t.d.fact 17 (f := .glo "_law_any_stretch") rfl)
  d__law_any_stretch := c.t.d.def_ 17 (d := dd__law_any_stretch) rfl
  g__law_any_deed := He.glo_ok X G (c.t.d.fact 18 (f := .glo "_law_any_deed") rfl)
  d__law_any_deed := c.t.d.def_ 18 (d := dd__law_any_deed) rfl
  g__law_text := He.glo_ok X G (c.t.d.fact 19 (f := .glo "_law_text") rfl)
  d__law_text := c.t.d.def_ 19 (d := dd__law_text) rfl
  g__law_right := He.glo_ok X G (c.t.d.fact 20 (f := .glo "_law_right") rfl)
  d__law_right := c.t.d.def_ 20 (d := dd__law_right) rfl
  g_law := He.glo_ok X G (c.t.d.fact 21 (f := .glo "law") rfl)
  d_law := c.t.d.def_ 21 (d := dd_law) rfl
end L81
open PySem PySem.W PySem.Calls PyProof.Rows
theorem PySem.Challenge.cw_oldways_k81_deeds_written_holds : PySem.Challenge.rw_oldways_k81_deeds_written.Holds := by
  w_on; o_law
  refine HandSHeadRun.head_any (r := OpenLaw.row PySem.Challenge.rw_oldways_k81_deeds_written) (q := view (OpenLaw.row PySem.Challenge.rw_oldways_k81_deeds_written).prog [41]) (H := L81.hk) (ob := L81.ob) (M := 6000) (loose := L81.loose) (d := HandSHeadRun.topDef (OpenLaw.row PySem.Challenge.rw_oldways_k81_deeds_written).prog 41) (kwd := []) L81.ob_eq
    (by kernel_rfl) (fun s => by kernel_rfl) L81.run (by kernel_rfl) (by kernel_rfl) (by kernel_rfl) (by rfl) (by first | assumption | decide +kernel) (by decide +kernel) ⟨rfl, rfl, rfl, rfl, rfl, by decide +kernel⟩ ?hw ?hc
  case hw => w_witness2
  case hc =>
    refine VL.walk_G (l := PySem.Challenge.rw_oldways_k81_deeds_written) (n := 63) (k := 8) (x := "script") (m := L81.m_law) rfl (by decide) (by kernel_rfl) ⟨rfl, by decide, by decide⟩ ?F L81.law_math
    intro w mg fa h Y G hmg0
    obtain ⟨K, KX, c⟩ := Y
    have Z := L81.facts KX G c
    have e0 : mg ("law" : PySem.Str) = some (.ref fa) := by
      have e : (HandSHeadRun.topDef (OpenLaw.row PySem.Challenge.rw_oldways_k81_deeds_written).prog 41).name = ("law" : PySem.Str) := by kernel_rfl
      rw [← e]
      exact hmg0
    have e1 := e0.symm.trans Z.g_law
    cases e1
    obtain ⟨fd, F⟩ := Z.d_law
    have b := F.bindsA (ps := ["script"]) fun _ _ _ _ _ _ us hl => match us, hl with | [_], _ => by kernel_rfl
    refine ⟨K, fd, fun _ => (0, ""), KX, fun s v => b s [v] rfl, fun base _ _ => ?_⟩
    exact (L81.ok_law Z F).1

