import PyProof.Rows.All
import Wide.All
import OpenK.AllK
import Wide.FinOn
import PyProof.Gen
import PyProof.GenQ
import HandS.ForMost
import HandS.ForExc
import HandS.Defaults
import HandS.HeadHook1
import HandS.HeadHook2
import HandS.IsInst
import HandS.Walk
import HandS.Deep
import HandS.ListItems
import HandS.DictComp
import HandS.Conv
import HandS.Flow
import HandS.Evl
import PyProof.Rows.SortStr
import PyProof.Rows.StrMeet
import HandS.WordsDict
import HandS.More
import HandS.GenList
import PyProof.GenRules
import KE.KDictZip
import PyProof.Rows.ZipGen
import PyProof.ReprRoads
import PyProof.ReprBulk
import KE.GoesZip
import KE.KEqNest
import PyProof.NeKinds
import HandS.Finally
import KE.GoesMore
import KE.KStateDown
import Lean
import HandS.Head0
import HandS.Head1
import HandS.Head2
import HandS.HeadEnd
import PySem.Challenge.RW_letdays_k18_whole_days_between
set_option Elab.async false
set_option linter.all false
set_option maxRecDepth 100000
/-! # LdDet -/
set_option maxHeartbeats 4100000
/-! A run has one end: two truths about one run hold together. -/
namespace LdP
open PySem
open Sem (wp)
theorem runs_one {M : Model} {Γ : Ctx} {p : Pos} {t : Sem Fin} {fs : List Frame} {s s1 : Shared} {e1 : End} (h : Runs M Γ p t fs s e1 s1) : ∀ {e2 : End} {s2 : Shared}, Runs M Γ p t fs s e2 s2 → e1 = e2 ∧ s1 = s2 := by
  induction h with
  | done => intro _ _ h2; cases h2; exact ⟨rfl, rfl⟩
  | raise => intro _ _ h2; cases h2; exact ⟨rfl, rfl⟩
  | again hq _ ih => intro _ _ h2; cases h2; exact ih ‹_›
  | rule _ ih => intro _ _ h2; cases h2; exact ih ‹_›
  | «at» _ ih => intro _ _ h2; cases h2; exact ih ‹_›
  | load ho _ ih => intro _ _ h2; cases h2 with | load ho2 h2 => rw [ho] at ho2; cases ho2; exact ih h2
  | update ho _ ih => intro _ _ h2; cases h2; exact ih ‹_›
  | loadIfAlive _ ih => intro _ _ h2; cases h2; exact ih ‹_›
  | point _ ih => intro _ _ h2; cases h2; exact ih ‹_›
  | alloc _ ih => intro _ _ h2; cases h2; exact ih ‹_›
  | fresh _ ih => intro _ _ h2; cases h2; exact ih ‹_›
  | ask _ ih => intro _ _ h2; cases h2; exact ih ‹_›
  | choose _ _ ih => intro _ _ h2; cases h2; exact ih ‹_›
  | os _ ih => intro _ _ h2; cases h2; exact ih ‹_›
  | handled _ ih => intro _ _ h2; cases h2; exact ih ‹_›
  | genState hg _ ih => intro _ _ h2; cases h2 with | genState hg2 h2 => rw [hg] at hg2; cases hg2; exact ih h2
  | stack _ ih => intro _ _ h2; cases h2; exact ih ‹_›
  | thread _ ih => intro _ _ h2; cases h2; exact ih ‹_›
  | newGen _ ih => intro _ _ h2; cases h2; exact ih ‹_›
  | call _ _ ih1 ih2 =>
    intro _ _ h2
    cases h2 with
    | call a b => obtain ⟨x, rfl⟩ := ih1 a; cases x; exact ih2 b
    | callSusp a => obtain ⟨x, _⟩ := ih1 a; cases x
  | callSusp _ ih1 =>
    intro _ _ h2
    cases h2 with
    | call a b => obtain ⟨x, _⟩ := ih1 a; cases x
    | callSusp a => obtain ⟨x, rfl⟩ := ih1 a; cases x; exact ⟨rfl, rfl⟩
  | yield => intro _ _ h2; cases h2; exact ⟨rfl, rfl⟩
  | resumeFresh hg _ _ _ ih1 ih2 =>
    intro _ _ h2
    cases h2 with
    | resumeFresh hg2 a _ b => rw [hg] at hg2; cases hg2; obtain ⟨rfl, rfl⟩ := ih1 a; exact ih2 b
    | resumeSuspended hg2 => rw [hg] at hg2; cases hg2
    | resumeJustStarted _ hv => exact absurd rfl hv
    | resumeRunning hg2 => rw [hg] at hg2; cases hg2
    | resumeFinished hg2 => rw [hg] at hg2; cases hg2
  | resumeSuspended hg _ _ _ ih1 ih2 =>
    intro _ _ h2
    cases h2 with
    | resumeFresh hg2 => rw [hg] at hg2; cases hg2
    | resumeSuspended hg2 a _ b => rw [hg] at hg2; cases hg2; obtain ⟨rfl, rfl⟩ := ih1 a; exact ih2 b
    | resumeJustStarted hg2 => rw [hg] at hg2; cases hg2
    | resumeThrowFresh hg2 => rw [hg] at hg2; cases hg2
    | resumeRunning hg2 => rw [hg] at hg2; cases hg2
    | resumeFinished hg2 => rw [hg] at hg2; cases hg2
  | resumeJustStarted hg hv _ ih =>
    intro _ _ h2
    cases h2 with
    | resumeFresh => exact absurd rfl hv
    | resumeSuspended hg2 => rw [hg] at hg2; cases hg2
    | resumeJustStarted _ _ b => exact ih b
    | resumeRunning hg2 => rw [hg] at hg2; cases hg2
    | resumeFinished hg2 => rw [hg] at hg2; cases hg2
  | resumeThrowFresh hg _ ih =>
    intro _ _ h2
    cases h2 with
    | resumeSuspended hg2 => rw [hg] at hg2; cases hg2
    | resumeThrowFresh _ b => exact ih b
    | resumeRunning hg2 => rw [hg] at hg2; cases hg2
    | resumeFinished hg2 => rw [hg] at hg2; cases hg2
  | resumeRunning hg _ ih =>
    intro _ _ h2
    cases h2 with
    | resumeFresh hg2 => rw [hg] at hg2; cases hg2
    | resumeSuspended hg2 => rw [hg] at hg2; cases hg2
    | resumeJustStarted hg2 => rw [hg] at hg2; cases hg2
    | resumeThrowFresh hg2 => rw [hg] at hg2; cases hg2
    | resumeRunning _ b => exact ih b
    | resumeFinished hg2 => rw [hg] at hg2; cases hg2
  | resumeFinished hg _ ih =>
    intro _ _ h2
    cases h2 with
    | resumeFresh hg2 => rw [hg] at hg2; cases hg2
    | resumeSuspended hg2 => rw [hg] at hg2; cases hg2
    | resumeJustStarted hg2 => rw [hg] at hg2; cases hg2
    | resumeThrowFresh hg2 => rw [hg] at hg2; cases hg2
    | resumeRunning hg2 => rw [hg] at hg2; cases hg2
    | resumeFinished _ b => exact ih b
  | segRet _ _ ih1 ih2 =>
    intro _ _ h2
    cases h2 with
    | segRet a b => obtain ⟨x, rfl⟩ := ih1 a; cases x; exact ih2 b
    | segSuspOut _ a => obtain ⟨x, _⟩ := ih1 a; cases x
    | segSuspGen _ a => obtain ⟨x, _⟩ := ih1 a; cases x
  | segGen _ _ ih1 ih2 =>
    intro _ _ h2
    cases h2 with
    | segGen a b => obtain ⟨x, rfl⟩ := ih1 a; cases x; exact ih2 b
    | segSuspOut _ a => obtain ⟨x, _⟩ := ih1 a; cases x
    | segSuspGen _ a => obtain ⟨x, _⟩ := ih1 a; cases x
  | segSuspOut hs _ ih1 =>
    intro _ _ h2
    cases h2 with
    | segRet a b => obtain ⟨x, _⟩ := ih1 a; cases x
    | segGen a b => obtain ⟨x, _⟩ := ih1 a; cases x
    | segSuspOut _ a => obtain ⟨x, rfl⟩ := ih1 a; cases x; exact ⟨rfl, rfl⟩
    | segSuspGen hs2 a => rw [hs] at hs2; cases hs2
  | segSuspGen hs _ _ _ ih1 ih2 =>
    intro _ _ h2
    cases h2 with
    | segRet a b => obtain ⟨x, _⟩ := ih1 a; cases x
    | segGen a b => obtain ⟨x, _⟩ := ih1 a; cases x
    | segSuspOut hs2 a => rw [hs] at hs2; cases hs2
    | segSuspGen hs2 a _ b => rw [hs] at hs2; cases hs2; obtain ⟨x, rfl⟩ := ih1 a; cases x; exact ih2 b
theorem wakes_one {M : Model} {Γ : Ctx} {p : Pos} {g : Nat} {r : Resume} {s s1 s2 : Shared} {r1 r2 : GenResult} (h : Wakes M Γ p g r s r1 s1) (h2 : Wakes M Γ p g r s r2 s2) : r1 = r2 ∧ s1 = s2 := by
  unfold Wakes at h h2
  cases hg : s.gens[g]? with
  | none => simp only [hg] at h
  | some x =>
    simp only [hg] at h h2
    cases x with
    | fresh c =>
      cases r with
      | send v =>
        cases v with
        | none =>
          obtain ⟨e1, u1, a, _, rfl, rfl⟩ := h
          obtain ⟨e2, u2, b, _, rfl, rfl⟩ := h2
          obtain ⟨rfl, rfl⟩ := runs_one a b
          exact ⟨rfl, rfl⟩
        | _ => exact ⟨h.1.trans h2.1.symm, h.2.trans h2.2.symm⟩
      | throw x => exact ⟨h.1.trans h2.1.symm, h.2.trans h2.2.symm⟩
    | suspended k l c p fs cl =>
      obtain ⟨e1, u1, a, _, rfl, rfl⟩ := h
      obtain ⟨e2, u2, b, _, rfl, rfl⟩ := h2
      obtain ⟨rfl, rfl⟩ := runs_one a b
      exact ⟨rfl, rfl⟩
    | running => exact ⟨h.1.trans h2.1.symm, h.2.trans h2.2.symm⟩
    | finished => exact ⟨h.1.trans h2.1.symm, h.2.trans h2.2.symm⟩
theorem wp_both {α : Type} {M : Model} {Γ : Ctx} (t : Sem α) : ∀ {Q Q' : α → Pos → Shared → Prop} {E E' : Value → Pos → Shared → Prop} {p : Pos} {s : Shared}, wp M Γ t Q E p s → wp M Γ t Q' E' p s → wp M Γ t (fun a p s => Q a p s ∧ Q' a p s) (fun a p s => E a p s ∧ E' a p s) p s := by
  induction t with
  | pure a => intro _ _ _ _ _ _ a b; exact ⟨a, b⟩
  | raise a => intro _ _ _ _ _ _ a b; exact ⟨a, b⟩
  | unsupported _ => intro _ _ _ _ _ _ a b; exact a
  | finish _ => intro _ _ _ _ _ _ a b; exact a
  | rule _ k ih => intro _ _ _ _ _ _ a b; exact ih () a b
  | «at» p k ih => intro _ _ _ _ _ _ a b; exact ih () a b
  | load a _ k ih => intro _ _ _ _ _ _ ⟨o, ho, a⟩ ⟨o2, ho2, b⟩; rw [ho] at ho2; cases ho2; exact ⟨o, ho, ih o a b⟩
  | update a _ f k ih => intro _ _ _ _ _ _ a b; exact ⟨a.1, ih () a.2 b.2⟩
  | loadIfAlive a k ih => intro _ _ _ _ _ _ a b; exact ih _ a b
  | point _ k ih => intro _ _ _ _ _ _ a b; exact ih () a b
  | register _ _ => intro _ _ _ _ _ _ a b; exact a
  | alloc o k ih => intro _ _ _ _ _ _ a b; exact ih _ a b
  | fresh k ih => intro _ _ _ _ _ _ a b; exact ih _ a b
  | ask k ih => intro _ _ _ _ _ _ a b; exact ih _ a b
  | choose src m k ih => intro _ _ _ _ _ _ a b; exact ⟨a.1, ih _ a.2 b.2⟩
  | os q _ k ih => intro _ _ _ _ _ _ a b; exact ih _ a b
  | call c hd _ _ k ih =>
    intro _ _ _ _ _ _ ⟨r, u, hr, a⟩ ⟨r2, u2, hr2, b⟩
    obtain ⟨x, rfl⟩ := runs_one hr hr2
    cases x
    exact ⟨r, u, hr, ih r a b⟩
  | handled own k ih => intro _ _ _ _ _ _ a b; exact ih _ a b
  | genState g k ih => intro _ _ _ _ _ _ ⟨o, ho, a⟩ ⟨o2, ho2, b⟩; rw [ho] at ho2; cases ho2; exact ⟨o, ho, ih _ a b⟩
  | newGen c k ih => intro _ _ _ _ _ _ a b; exact ih _ a b
  | resume g r _ k ih =>
    intro _ _ _ _ _ _ ⟨r, u, hr, a⟩ ⟨r2, u2, hr2, b⟩
    obtain ⟨rfl, rfl⟩ := wakes_one hr hr2
    exact ⟨r, u, hr, ih r a b⟩
  | yield _ _ _ _ => intro _ _ _ _ _ _ a b; exact a
  | stack k ih => intro _ _ _ _ _ _ a b; exact ih _ a b
  | fork _ _ => intro _ _ _ _ _ _ a b; exact a
  | thread k ih => intro _ _ _ _ _ _ a b; exact ih _ a b
  | await _ _ _ _ _ => intro _ _ _ _ _ _ a b; exact a
theorem both {α : Type} {M : Model} {A : Around} {t : Sem α} {Q Q' : α → Shared → Prop} {E E' : Value → Shared → Prop} {s : Shared} (a : wpAny M A t Q E s) (b : wpAny M A t Q' E' s) : wpAny M A t (fun x s => Q x s ∧ Q' x s) (fun x s => E x s ∧ E' x s) s :=
  fun Γ p h => wp_both t (a Γ p h) (b Γ p h)
theorem bothC {M : Model} {A : Around} {c : Code} {Q Q' : Result → Shared → Prop} {s : Shared} (a : codeAny M A c Q s) (b : codeAny M A c Q' s) : codeAny M A c (fun x s => Q x s ∧ Q' x s) s := by
  intro Γ p h1 h2
  obtain ⟨r, u, hr, q⟩ := a Γ p h1 h2
  obtain ⟨r2, u2, hr2, q2⟩ := b Γ p h1 h2
  obtain ⟨x, rfl⟩ := runs_one hr hr2
  cases x
  exact ⟨r, u, hr, q, q2⟩
end LdP
/-! # LdText -/
/-! The text by places; what the head tells of it. -/
namespace LdP
open L2 PyProof.Rows PySem PySem.Spec
def topS (i : Nat) : Stmt := PySem.Challenge.pw_letdays_k18_whole_days_between.main.body.getD i (.Pass ⟨0, 0, 0, 0⟩)

abbrev s_isinteger : Stmt := topS 5
abbrev n_isinteger : List Str := ["value"]
abbrev p_isinteger : List Str := ["value"]
theorem sc_isinteger : FnScope n_isinteger p_isinteger (defScope s_isinteger) := ⟨rfl, rfl, rfl, by decide +kernel, rfl, by decide +kernel, by decide +kernel⟩
abbrev s_islist : Stmt := topS 6
abbrev n_islist : List Str := ["value"]
abbrev p_islist : List Str := ["value"]
theorem sc_islist : FnScope n_islist p_islist (defScope s_islist) := ⟨rfl, rfl, rfl, by decide +kernel, rfl, by decide +kernel, by decide +kernel⟩
abbrev s_isname : Stmt := topS 7
abbrev n_isname : List Str := ["value", "letter"]
abbrev p_isname : List Str := ["value"]
theorem sc_isname : FnScope n_isname p_isname (defScope s_isname) := ⟨rfl, rfl, rfl, by decide +kernel, rfl, by decide +kernel, by decide +kernel⟩
abbrev s_ismoment : Stmt := topS 8
abbrev n_ismoment : List Str := ["value"]
abbrev p_ismoment : List Str := ["value"]
theorem sc_ismoment : FnScope n_ismoment p_ismoment (defScope s_ismoment) := ⟨rfl, rfl, rfl, by decide +kernel, rfl, by decide +kernel, by decide +kernel⟩
abbrev s_ispoint : Stmt := topS 9
abbrev n_ispoint : List Str := ["value"]
abbrev p_ispoint : List Str := ["value"]
theorem sc_ispoint : FnScope n_ispoint p_ispoint (defScope s_ispoint) := ⟨rfl, rfl, rfl, by decide +kernel, rfl, by decide +kernel, by decide +kernel⟩
abbrev s_isclause : Stmt := topS 10
abbrev n_isclause : List Str := ["value"]
abbrev p_isclause : List Str := ["value"]
theorem sc_isclause : FnScope n_isclause p_isclause (defScope s_isclause) := ⟨rfl, rfl, rfl, by decide +kernel, rfl, by decide +kernel, by decide +kernel⟩
abbrev s_DyInit : Stmt := inClass (topS 26) 0
abbrev n_DyInit : List Str := ["self", "moments", "clauses", "changed", "turn", "moment"]
abbrev p_DyInit : List Str := ["self", "moments", "clauses"]
theorem sc_DyInit : FnScope n_DyInit p_DyInit (defScope s_DyInit) := ⟨rfl, rfl, rfl, by decide +kernel, rfl, by decide +kernel, by decide +kernel⟩
abbrev s_Dychangedby : Stmt := inClass (topS 26) 1
abbrev n_Dychangedby : List Str := ["self", "clauses", "changed", "clause", "one", "other", "number"]
abbrev p_Dychangedby : List Str := ["self", "clauses"]
theorem sc_Dychangedby : FnScope n_Dychangedby p_Dychangedby (defScope s_Dychangedby) := ⟨rfl, rfl, rfl, by decide +kernel, rfl, by decide +kernel, by decide +kernel⟩
abbrev s_Dyringat : Stmt := inClass (topS 26) 2
abbrev n_Dyringat : List Str := ["self", "moment", "turn", "found"]
abbrev p_Dyringat : List Str := ["self", "moment"]
theorem sc_Dyringat : FnScope n_Dyringat p_Dyringat (defScope s_Dyringat) := ⟨rfl, rfl, rfl, by decide +kernel, rfl, by decide +kernel, by decide +kernel⟩
abbrev s_Dyring : Stmt := inClass (topS 26) 3
abbrev n_Dyring : List Str := ["self"]
abbrev p_Dyring : List Str := ["self"]
theorem sc_Dyring : FnScope n_Dyring p_Dyring (defScope s_Dyring) := ⟨rfl, rfl, rfl, by decide +kernel, rfl, by decide +kernel, by decide +kernel⟩
abbrev s_Dydates : Stmt := inClass (topS 26) 4
abbrev n_Dydates : List Str := ["self", "first", "moment"]
abbrev p_Dydates : List Str := ["self"]
theorem sc_Dydates : FnScope n_Dydates p_Dydates (defScope s_Dydates) := ⟨rfl, rfl, rfl, by decide +kernel, rfl, by decide +kernel, by decide +kernel⟩
abbrev s_ClInit : Stmt := inClass (topS 27) 0
abbrev n_ClInit : List Str := ["self", "moments", "clauses"]
abbrev p_ClInit : List Str := ["self", "moments", "clauses"]
theorem sc_ClInit : FnScope n_ClInit p_ClInit (defScope s_ClInit) := ⟨rfl, rfl, rfl, by decide +kernel, rfl, by decide +kernel, by decide +kernel⟩
abbrev s_Clring : Stmt := inClass (topS 27) 1
abbrev n_Clring : List Str := ["self"]
abbrev p_Clring : List Str := ["self"]
theorem sc_Clring : FnScope n_Clring p_Clring (defScope s_Clring) := ⟨rfl, rfl, rfl, by decide +kernel, rfl, by decide +kernel, by decide +kernel⟩
abbrev s_somedates : Stmt := topS 28
abbrev n_somedates : List Str := ["moments", "clauses", "found"]
abbrev p_somedates : List Str := ["moments", "clauses"]
theorem sc_somedates : FnScope n_somedates p_somedates (defScope s_somedates) := ⟨rfl, rfl, rfl, by decide +kernel, rfl, by decide +kernel, by decide +kernel⟩
abbrev s_CaInit : Stmt := inClass (topS 30) 3
abbrev n_CaInit : List Str := ["self", "moments", "clauses", "position", "moment", "clause"]
abbrev p_CaInit : List Str := ["self", "moments", "clauses"]
theorem sc_CaInit : FnScope n_CaInit p_CaInit (defScope s_CaInit) := ⟨rfl, rfl, rfl, by decide +kernel, rfl, by decide +kernel, by decide +kernel⟩
abbrev s_Caisownform : Stmt := inClass (topS 30) 5
abbrev n_Caisownform : List Str := ["self", "value"]
abbrev p_Caisownform : List Str := ["self", "value"]
theorem sc_Caisownform : FnScope n_Caisownform p_Caisownform (defScope s_Caisownform) := ⟨rfl, rfl, rfl, by decide +kernel, rfl, by decide +kernel, by decide +kernel⟩
abbrev s_Cahasmoment : Stmt := inClass (topS 30) 7
abbrev n_Cahasmoment : List Str := ["self", "value"]
abbrev p_Cahasmoment : List Str := ["self", "value"]
theorem sc_Cahasmoment : FnScope n_Cahasmoment p_Cahasmoment (defScope s_Cahasmoment) := ⟨rfl, rfl, rfl, by decide +kernel, rfl, by decide +kernel, by decide +kernel⟩
abbrev s_Camoments : Stmt := inClass (topS 30) 8
abbrev n_Camoments : List Str := ["self"]
abbrev p_Camoments : List Str := ["self"]
theorem sc_Camoments : FnScope n_Camoments p_Camoments (defScope s_Camoments) := ⟨rfl, rfl, rfl, by decide +kernel, rfl, by decide +kernel, by decide +kernel⟩
abbrev s_Caclauses : Stmt := inClass (topS 30) 9
abbrev n_Caclauses : List Str := ["self"]
abbrev p_Caclauses : List Str := ["self"]
theorem sc_Caclauses : FnScope n_Caclauses p_Caclauses (defScope s_Caclauses) := ⟨rfl, rfl, rfl, by decide +kernel, rfl, by decide +kernel, by decide +kernel⟩
abbrev s_CaHas : Stmt := inClass (topS 30) 12
abbrev n_CaHas : List Str := ["self", "value", "days", "moment", "one", "other", "number"]
abbrev p_CaHas : List Str := ["self", "value"]
theorem sc_CaHas : FnScope n_CaHas p_CaHas (defScope s_CaHas) := ⟨rfl, rfl, rfl, by decide +kernel, rfl, by decide +kernel, by decide +kernel⟩
abbrev s_Caclosed : Stmt := inClass (topS 30) 15
abbrev n_Caclosed : List Str := ["self"]
abbrev p_Caclosed : List Str := ["self"]
theorem sc_Caclosed : FnScope n_Caclosed p_Caclosed (defScope s_Caclosed) := ⟨rfl, rfl, rfl, by decide +kernel, rfl, by decide +kernel, by decide +kernel⟩
abbrev s_wantpoint : Stmt := topS 33
abbrev n_wantpoint : List Str := ["calendar", "point"]
abbrev p_wantpoint : List Str := ["calendar", "point"]
theorem sc_wantpoint : FnScope n_wantpoint p_wantpoint (defScope s_wantpoint) := ⟨rfl, rfl, rfl, by decide +kernel, rfl, by decide +kernel, by decide +kernel⟩
abbrev s_closedof : Stmt := topS 34
abbrev n_closedof : List Str := ["calendar", "found"]
abbrev p_closedof : List Str := ["calendar"]
theorem sc_closedof : FnScope n_closedof p_closedof (defScope s_closedof) := ⟨rfl, rfl, rfl, by decide +kernel, rfl, by decide +kernel, by decide +kernel⟩
abbrev s_datesapart : Stmt := topS 35
abbrev n_datesapart : List Str := ["calendar", "one", "other", "number"]
abbrev p_datesapart : List Str := ["calendar", "one", "other", "number"]
theorem sc_datesapart : FnScope n_datesapart p_datesapart (defScope s_datesapart) := ⟨rfl, rfl, rfl, by decide +kernel, rfl, by decide +kernel, by decide +kernel⟩
abbrev s_dateswith : Stmt := topS 36
abbrev n_dateswith : List Str := ["calendar", "point", "other", "number"]
abbrev p_dateswith : List Str := ["calendar", "point", "other", "number"]
theorem sc_dateswith : FnScope n_dateswith p_dateswith (defScope s_dateswith) := ⟨rfl, rfl, rfl, by decide +kernel, rfl, by decide +kernel, by decide +kernel⟩
abbrev s_daylists : Stmt := topS 37
abbrev n_daylists : List Str := ["many", "first", "last", "found", "turn", "days", "day"]
abbrev p_daylists : List Str := ["many", "first", "last"]
theorem sc_daylists : FnScope n_daylists p_daylists (defScope s_daylists) := ⟨rfl, rfl, rfl, by decide +kernel, rfl, by decide +kernel, by decide +kernel⟩
abbrev s_alldates : Stmt := topS 38
abbrev n_alldates : List Str := ["calendar", "first", "last", "moments", "many", "moment", "days", "found"]
abbrev p_alldates : List Str := ["calendar", "first", "last"]
abbrev s_Lpot : Stmt := topS 40
abbrev n_Lpot : List Str := ["_law_script", "_law_k", "_law_cell"]
abbrev p_Lpot : List Str := ["_law_script", "_law_k"]
theorem sc_Lpot : FnScope n_Lpot p_Lpot (defScope s_Lpot) := ⟨rfl, rfl, rfl, by decide +kernel, rfl, by decide +kernel, by decide +kernel⟩
abbrev s_Ldraw : Stmt := topS 41
abbrev n_Ldraw : List Str := ["_law_pot_here", "_law_faces", "_law_digit"]
abbrev p_Ldraw : List Str := ["_law_pot_here", "_law_faces"]
theorem sc_Ldraw : FnScope n_Ldraw p_Ldraw (defScope s_Ldraw) := ⟨rfl, rfl, rfl, by decide +kernel, rfl, by decide +kernel, by decide +kernel⟩
abbrev s_Lpick : Stmt := topS 42
abbrev n_Lpick : List Str := ["_law_pot_here", "_law_some"]
abbrev p_Lpick : List Str := ["_law_pot_here", "_law_some"]
theorem sc_Lpick : FnScope n_Lpick p_Lpick (defScope s_Lpick) := ⟨rfl, rfl, rfl, by decide +kernel, rfl, by decide +kernel, by decide +kernel⟩
abbrev s_Lall : Stmt := topS 43
abbrev n_Lall : List Str := ["_law_labels", "_law_clauses", "_law_early", "_law_late", "_law_found", "_law_label", "_law_longer", "_law_near", "_law_day"]
abbrev p_Lall : List Str := ["_law_labels", "_law_clauses", "_law_early", "_law_late"]
theorem sc_Lall : FnScope n_Lall p_Lall (defScope s_Lall) := ⟨rfl, rfl, rfl, by decide +kernel, rfl, by decide +kernel, by decide +kernel⟩
abbrev s_Lkeeps : Stmt := topS 44
abbrev n_Lkeeps : List Str := ["_law_near", "_law_clauses", "_law_days", "_law_fore", "_law_aft", "_law_many"]
abbrev p_Lkeeps : List Str := ["_law_near", "_law_clauses"]
theorem sc_Lkeeps : FnScope n_Lkeeps p_Lkeeps (defScope s_Lkeeps) := ⟨rfl, rfl, rfl, by decide +kernel, rfl, by decide +kernel, by decide +kernel⟩
abbrev s_Ldraft : Stmt := topS 45
abbrev n_Ldraft : List Str := ["_law_pot_here", "_law_labels", "_law_clauses", "_law_label", "_law_low", "_law_turn", "_law_fore", "_law_aft", "_law_link"]
abbrev p_Ldraft : List Str := ["_law_pot_here"]
theorem sc_Ldraft : FnScope n_Ldraft p_Ldraft (defScope s_Ldraft) := ⟨rfl, rfl, rfl, by decide +kernel, rfl, by decide +kernel, by decide +kernel⟩
abbrev s_Lgonethrough : Stmt := topS 46
abbrev n_Lgonethrough : List Str := ["_law_chart", "_law_draft_here", "_law_early", "_law_late", "_law_due", "_law_told", "_law_near", "_law_twin"]
abbrev p_Lgonethrough : List Str := ["_law_chart", "_law_draft_here", "_law_early", "_law_late"]
theorem sc_Lgonethrough : FnScope n_Lgonethrough p_Lgonethrough (defScope s_Lgonethrough) := ⟨rfl, rfl, rfl, by decide +kernel, rfl, by decide +kernel, by decide +kernel⟩
abbrev s_Lnumberright : Stmt := topS 47
abbrev n_Lnumberright : List Str := ["_law_draft_here", "_law_chart", "_law_whole", "_law_early", "_law_second", "_law_many", "_law_near", "_law_days", "_law_is_due", "_law_day", "_law_kept", "_law_some"]
abbrev p_Lnumberright : List Str := ["_law_draft_here", "_law_chart", "_law_whole", "_law_early", "_law_second", "_law_many"]
theorem sc_Lnumberright : FnScope n_Lnumberright p_Lnumberright (defScope s_Lnumberright) := ⟨rfl, rfl, rfl, by decide +kernel, rfl, by decide +kernel, by decide +kernel⟩
abbrev s_Lright : Stmt := topS 48
abbrev n_Lright : List Str := ["_law_pot_here", "_law_draft_here", "_law_chart", "_law_whole", "_law_turn", "_law_places", "_law_early", "_law_second", "_law_low", "_law_high", "_law_many", "_law_torn", "_law_near"]
abbrev p_Lright : List Str := ["_law_pot_here"]
theorem sc_Lright : FnScope n_Lright p_Lright (defScope s_Lright) := ⟨rfl, rfl, rfl, by decide +kernel, rfl, by decide +kernel, by decide +kernel⟩
abbrev s_Lbetween : Stmt := topS 49
abbrev n_Lbetween : List Str := ["_law_near", "_law_early", "_law_second", "_law_days"]
abbrev p_Lbetween : List Str := ["_law_near", "_law_early", "_law_second"]
theorem sc_Lbetween : FnScope n_Lbetween p_Lbetween (defScope s_Lbetween) := ⟨rfl, rfl, rfl, by decide +kernel, rfl, by decide +kernel, by decide +kernel⟩
abbrev s_law : Stmt := topS 50
abbrev n_law : List Str := ["_law_script", "_law_k"]
abbrev p_law : List Str := ["_law_script"]
theorem sc_law : FnScope n_law p_law (defScope s_law) := ⟨rfl, rfl, rfl, by decide +kernel, rfl, by decide +kernel, by decide +kernel⟩


/-- one def of the top; a method: the j-th statement of the class -/
def dTop (x : Str) (i : Nat) (qual : Str) : He.DefD := ⟨(x, none), qual, qual, defArgs (topS i), defBody (topS i), defScope (topS i), [], []⟩
def dIn (C m : Str) (i j : Nat) (qual : Str) : He.DefD := ⟨(C, some m), m, qual, defArgs (inClass (topS i) j), defBody (inClass (topS i) j), defScope (inClass (topS i) j), [], []⟩

def d_isinteger : He.DefD := dTop "is_integer" 5 "is_integer"
def d_islist : He.DefD := dTop "is_list" 6 "is_list"
def d_isname : He.DefD := dTop "is_name" 7 "is_name"
def d_ismoment : He.DefD := dTop "is_moment" 8 "is_moment"
def d_ispoint : He.DefD := dTop "is_point" 9 "is_point"
def d_isclause : He.DefD := dTop "is_clause_basics" 10 "is_clause"
def d_DyInit : He.DefD := dIn "Days" "__init__" 26 0 "Days.__init__"
def d_Dychangedby : He.DefD := dIn "Days" "changed_by" 26 1 "Days.changed_by"
def d_Dyringat : He.DefD := dIn "Days" "ring_at" 26 2 "Days.ring_at"
def d_Dyring : He.DefD := dIn "Days" "ring" 26 3 "Days.ring"
def d_Dydates : He.DefD := dIn "Days" "dates" 26 4 "Days.dates"
def d_ClInit : He.DefD := dIn "Closed" "__init__" 27 0 "Closed.__init__"
def d_Clring : He.DefD := dIn "Closed" "ring" 27 1 "Closed.ring"
def d_somedates : He.DefD := dTop "some_dates" 28 "some_dates"
def d_CaInit : He.DefD := { dIn "Calendar" "__init__" 30 3 "Calendar.__init__" with dfl := [.adr (He.dflAt ("Calendar", some "__init__") 0)] }
def d_Caisownform : He.DefD := dIn "Calendar" "is_own_form" 30 5 "Calendar.is_own_form"
def d_Cahasmoment : He.DefD := dIn "Calendar" "has_moment" 30 7 "Calendar.has_moment"
def d_Camoments : He.DefD := dIn "Calendar" "moments" 30 8 "Calendar.moments"
def d_Caclauses : He.DefD := dIn "Calendar" "clauses" 30 9 "Calendar.clauses"
def d_CaHas : He.DefD := dIn "Calendar" "__contains__" 30 12 "Calendar.__contains__"
def d_Caclosed : He.DefD := dIn "Calendar" "closed" 30 15 "Calendar.closed"
def d_wantpoint : He.DefD := dTop "want_point" 33 "want_point"
def d_closedof : He.DefD := dTop "closed_of" 34 "closed_of"
def d_datesapart : He.DefD := dTop "dates_apart" 35 "dates_apart"
def d_dateswith : He.DefD := dTop "dates_with" 36 "dates_with"
def d_daylists : He.DefD := dTop "day_lists" 37 "day_lists"
def d_alldates : He.DefD := dTop "all_dates" 38 "all_dates"
def d_Lpot : He.DefD := dTop "_law_pot" 40 "_law_pot"
def d_Ldraw : He.DefD := dTop "_law_draw" 41 "_law_draw"
def d_Lpick : He.DefD := dTop "_law_pick" 42 "_law_pick"
def d_Lall : He.DefD := dTop "_law_all" 43 "_law_all"
def d_Lkeeps : He.DefD := dTop "_law_keeps" 44 "_law_keeps"
def d_Ldraft : He.DefD := dTop "_law_draft" 45 "_law_draft"
def d_Lgonethrough : He.DefD := dTop "_law_gone_through" 46 "_law_gone_through"
def d_Lnumberright : He.DefD := dTop "_law_number_right" 47 "_law_number_right"
def d_Lright : He.DefD := dTop "_law_right" 48 "_law_right"
def d_Lbetween : He.DefD := dTop "_law_between" 49 "_law_between"
def d_law : He.DefD := dTop "law" 50 "law"
def fn : List He.DefD := [d_isinteger, d_islist, d_isname, d_ismoment, d_ispoint, d_isclause, d_DyInit, d_Dychangedby, d_Dyringat, d_Dyring, d_Dydates, d_ClInit, d_Clring, d_somedates, d_CaInit, d_Caisownform, d_Cahasmoment, d_Camoments, d_Caclauses, d_CaHas, d_Caclosed, d_wantpoint, d_closedof, d_datesapart, d_dateswith, d_daylists, d_alldates, d_Lpot, d_Ldraw, d_Lpick, d_Lall, d_Lkeeps, d_Ldraft, d_Lgonethrough, d_Lnumberright, d_Lright, d_Lbetween, d_law]
def fa0 : List He.Fa := [.glo "is_integer", .glo "is_list", .glo "is_name", .glo "is_moment", .glo "is_point", .glo "is_clause_basics", .glo "some_dates", .glo "want_point", .glo "closed_of", .glo "dates_apart", .glo "dates_with", .glo "day_lists", .glo "all_dates", .glo "_law_pot", .glo "_law_draw", .glo "_law_pick", .glo "_law_all", .glo "_law_keeps", .glo "_law_draft", .glo "_law_gone_through", .glo "_law_number_right", .glo "_law_right", .glo "_law_between", .glo "law", .glo "Days", .glo "Closed", .glo "Calendar"]
def fa1 : List He.Fa := [.str "LETTERS" "abcdefghijklmnopqrstuvwxyz", .int "MOST_LETTERS" 6, .str "ZERO" "day", .int "MOST_DATES" 4096, .free "isinstance", .free "len", .free "all", .free "list", .free "sorted", .free "dict", .free "zip", .free "range", .free "enumerate", .free "repr", .free "min", .free "max", .free "abs", .free "int", .free "divmod", .free "bool", .free "str", .free "tuple", .cls "Days", .mkr "Days", .meth "Days" "changed_by", .meth "Days" "ring_at", .meth "Days" "ring"]
def fa2 : List He.Fa := [.meth "Days" "dates", .noat "Days" "own_days", .noat "Days" "own_last", .noat "Days" "own_ring", .cls "Closed", .mkr "Closed", .meth "Closed" "ring", .noat "Closed" "own_moments", .noat "Closed" "own_clauses", .noat "Closed" "own_days", .noat "Closed" "own_rows", .cls "Calendar", .mkr "Calendar", .meth "Calendar" "is_own_form", .meth "Calendar" "has_moment", .meth "Calendar" "moments", .meth "Calendar" "clauses", .meth "Calendar" "__contains__", .meth "Calendar" "closed", .noat "Calendar" "own_moments", .noat "Calendar" "own_clauses"]
def fa : List He.Fa := fa0 ++ fa1 ++ fa2
/-- a constant of a class -/
def conB (K : PySem.W.Frag) (C f : Str) (v : V) : Bool := match PySem.W.findIn K (.ref (He.ga K C)) f with
  | some (some u) => He.relB v u && decide (PySem.W.specialIn K u "__get__" = some none)
  | _ => false
/-- the default of Calendar.__init__: an empty tuple -/
def emptB (K : PySem.W.Frag) : Bool := match K.lookup (He.dflAt ("Calendar", some "__init__") 0 K) with
  | some ⟨.type c, _, .seq its _, _⟩ => decide (c = "tuple") && its.isEmpty
  | _ => false
def ex (K : PySem.W.Frag) : Bool := conB K "Calendar" "ZERO" (.str "day") && (conB K "Calendar" "MOST_MOMENTS" (.int 8) && (conB K "Calendar" "MOST_CLAUSES" (.int 40) && emptB K))
abbrev AlL : Type := He.AlD × Bool
def obsL (K : PySem.W.Frag) : AlL := (He.obsD fa fn K, ex K)
def valL : AlL := (He.valD fn, true)
/-- all that the proofs take from the head -/
structure Tx (K : PySem.W.Frag) (mg : Str → Option Value) : Prop where
  c : obsL K = valL
  h : ∃ h : Heap, K.In h ∧ h.Ns mainGlobals mg
section
variable {K : PySem.W.Frag} {mg : Str → Option Value}
theorem Tx.d (t : Tx K mg) : He.SaysD fa fn K := congrArg (fun z : AlL => z.1) t.c
theorem Tx.x (t : Tx K mg) : ex K = true := congrArg (fun z : AlL => z.2) t.c
theorem con_ok {C f : Str} {v : V} (hcp : PySem.W.copiedNames.contains f = false) (h : conB K C f v = true) : ∃ u, Con K (He.ga K C) f v u := by
  unfold conB at h
  split at h
  · rename_i u e
    obtain ⟨h1, h2⟩ := He.ba h
    exact ⟨u, e, He.relB_ok h1, of_decide_eq_true h2, hcp⟩
  · cases h
theorem Tx.zero (t : Tx K mg) : ∃ u, Con K (He.ga K "Calendar") "ZERO" (.str "day") u := con_ok (by decide +kernel) (He.ba t.x).1
theorem Tx.mostM (t : Tx K mg) : ∃ u, Con K (He.ga K "Calendar") "MOST_MOMENTS" (.int 8) u := con_ok (by decide +kernel) (He.ba (He.ba t.x).2).1
theorem Tx.mostC (t : Tx K mg) : ∃ u, Con K (He.ga K "Calendar") "MOST_CLAUSES" (.int 40) u := con_ok (by decide +kernel) (He.ba (He.ba (He.ba t.x).2).2).1
abbrev dflC (K : PySem.W.Frag) : Addr := He.dflAt ("Calendar", some "__init__") 0 K
theorem Tx.dfl (t : Tx K mg) : ∃ dd n sl, K.lookup (dflC K) = some ⟨.type "tuple", dd, .seq #[] n, sl⟩ := by
  have h := (He.ba (He.ba (He.ba t.x).2).2).2
  unfold emptB at h
  split at h
  · rename_i c dd its n sl e
    obtain ⟨h1, h2⟩ := He.ba h
    have h3 := of_decide_eq_true h1
    subst h3
    rw [Array.isEmpty_iff.mp h2] at e
    exact ⟨_, _, _, e⟩
  · cases h
theorem Tx.g_isinteger (t : Tx K mg) : mg "is_integer" = some (.ref (He.ga K "is_integer")) := let ⟨_, X, G⟩ := t.h; He.glo_ok X G (t.d.fact 0 (f := .glo "is_integer") rfl)
theorem Tx.g_islist (t : Tx K mg) : mg "is_list" = some (.ref (He.ga K "is_list")) := let ⟨_, X, G⟩ := t.h; He.glo_ok X G (t.d.fact 1 (f := .glo "is_list") rfl)
theorem Tx.g_isname (t : Tx K mg) : mg "is_name" = some (.ref (He.ga K "is_name")) := let ⟨_, X, G⟩ := t.h; He.glo_ok X G (t.d.fact 2 (f := .glo "is_name") rfl)
theorem Tx.g_ismoment (t : Tx K mg) : mg "is_moment" = some (.ref (He.ga K "is_moment")) := let ⟨_, X, G⟩ := t.h; He.glo_ok X G (t.d.fact 3 (f := .glo "is_moment") rfl)
theorem Tx.g_ispoint (t : Tx K mg) : mg "is_point" = some (.ref (He.ga K "is_point")) := let ⟨_, X, G⟩ := t.h; He.glo_ok X G (t.d.fact 4 (f := .glo "is_point") rfl)
theorem Tx.g_isclausebasics (t : Tx K mg) : mg "is_clause_basics" = some (.ref (He.ga K "is_clause_basics")) := let ⟨_, X, G⟩ := t.h; He.glo_ok X G (t.d.fact 5 (f := .glo "is_clause_basics") rfl)
theorem Tx.g_somedates (t : Tx K mg) : mg "some_dates" = some (.ref (He.ga K "some_dates")) := let ⟨_, X, G⟩ := t.h; He.glo_ok X G (t.d.fact 6 (f := .glo "some_dates") rfl)
theorem Tx.g_wantpoint (t : Tx K mg) : mg "want_point" = some (.ref (He.ga K "want_point")) := let ⟨_, X, G⟩ := t.h; He.glo_ok X G (t.d.fact 7 (f := .glo "want_point") rfl)
theorem Tx.g_closedof (t : Tx K mg) : mg "closed_of" = some (.ref (He.ga K "closed_of")) := let ⟨_, X, G⟩ := t.h; He.glo_ok X G (t.d.fact 8 (f := .glo "closed_of") rfl)
theorem Tx.g_datesapart (t : Tx K mg) : mg "dates_apart" = some (.ref (He.ga K "dates_apart")) := let ⟨_, X, G⟩ := t.h; He.glo_ok X G (t.d.fact 9 (f := .glo "dates_apart") rfl)
theorem Tx.g_dateswith (t : Tx K mg) : mg "dates_with" = some (.ref (He.ga K "dates_with")) := let ⟨_, X, G⟩ := t.h; He.glo_ok X G (t.d.fact 10 (f := .glo "dates_with") rfl)
theorem Tx.g_daylists (t : Tx K mg) : mg "day_lists" = some (.ref (He.ga K "day_lists")) := let ⟨_, X, G⟩ := t.h; He.glo_ok X G (t.d.fact 11 (f := .glo "day_lists") rfl)
theorem Tx.g_alldates (t : Tx K mg) : mg "all_dates" = some (.ref (He.ga K "all_dates")) := let ⟨_, X, G⟩ := t.h; He.glo_ok X G (t.d.fact 12 (f := .glo "all_dates") rfl)
theorem Tx.g_lawpot (t : Tx K mg) : mg "_law_pot" = some (.ref (He.ga K "_law_pot")) := let ⟨_, X, G⟩ := t.h; He.glo_ok X G (t.d.fact 13 (f := .glo "_law_pot") rfl)
theorem Tx.g_lawdraw (t : Tx K mg) : mg "_law_draw" = some (.ref (He.ga K "_law_draw")) := let ⟨_, X, G⟩ := t.h; He.glo_ok X G (t.d.fact 14 (f := .glo "_law_draw") rfl)
theorem Tx.g_lawpick (t : Tx K mg) : mg "_law_pick" = some (.ref (He.ga K "_law_pick")) := let ⟨_, X, G⟩ := t.h; He.glo_ok X G (t.d.fact 15 (f := .glo "_law_pick") rfl)
theorem Tx.g_lawall (t : Tx K mg) : mg "_law_all" = some (.ref (He.ga K "_law_all")) := let ⟨_, X, G⟩ := t.h; He.glo_ok X G (t.d.fact 16 (f := .glo "_law_all") rfl)
theorem Tx.g_lawkeeps (t : Tx K mg) : mg "_law_keeps" = some (.ref (He.ga K "_law_keeps")) := let ⟨_, X, G⟩ := t.h; He.glo_ok X G (t.d.fact 17 (f := .glo "_law_keeps") rfl)
theorem Tx.g_lawdraft (t : Tx K mg) : mg "_law_draft" = some (.ref (He.ga K "_law_draft")) := let ⟨_, X, G⟩ := t.h; He.glo_ok X G (t.d.fact 18 (f := .glo "_law_draft") rfl)
theorem Tx.g_lawgonethrough (t : Tx K mg) : mg "_law_gone_through" = some (.ref (He.ga K "_law_gone_through")) := let ⟨_, X, G⟩ := t.h; He.glo_ok X G (t.d.fact 19 (f := .glo "_law_gone_through") rfl)
theorem Tx.g_lawnumberright (t : Tx K mg) : mg "_law_number_right" = some (.ref (He.ga K "_law_number_right")) := let ⟨_, X, G⟩ := t.h; He.glo_ok X G (t.d.fact 20 (f := .glo "_law_number_right") rfl)
theorem Tx.g_lawright (t : Tx K mg) : mg "_law_right" = some (.ref (He.ga K "_law_right")) := let ⟨_, X, G⟩ := t.h; He.glo_ok X G (t.d.fact 21 (f := .glo "_law_right") rfl)
theorem Tx.g_lawbetween (t : Tx K mg) : mg "_law_between" = some (.ref (He.ga K "_law_between")) := let ⟨_, X, G⟩ := t.h; He.glo_ok X G (t.d.fact 22 (f := .glo "_law_between") rfl)
theorem Tx.g_law (t : Tx K mg) : mg "law" = some (.ref (He.ga K "law")) := let ⟨_, X, G⟩ := t.h; He.glo_ok X G (t.d.fact 23 (f := .glo "law") rfl)
theorem Tx.g_Days (t : Tx K mg) : mg "Days" = some (.ref (He.ga K "Days")) := let ⟨_, X, G⟩ := t.h; He.glo_ok X G (t.d.fact 24 (f := .glo "Days") rfl)
theorem Tx.g_Closed (t : Tx K mg) : mg "Closed" = some (.ref (He.ga K "Closed")) := let ⟨_, X, G⟩ := t.h; He.glo_ok X G (t.d.fact 25 (f := .glo "Closed") rfl)
theorem Tx.g_Calendar (t : Tx K mg) : mg "Calendar" = some (.ref (He.ga K "Calendar")) := let ⟨_, X, G⟩ := t.h; He.glo_ok X G (t.d.fact 26 (f := .glo "Calendar") rfl)
theorem Tx.k_LETTERS (t : Tx K mg) : ∃ u, mg "LETTERS" = some (.str "abcdefghijklmnopqrstuvwxyz" u) := let ⟨_, X, G⟩ := t.h; He.str_ok X G (t.d.fact 27 (f := .str "LETTERS" "abcdefghijklmnopqrstuvwxyz") rfl)
theorem Tx.k_MOSTLETTERS (t : Tx K mg) : ∃ u, mg "MOST_LETTERS" = some (.int 6 u) := let ⟨_, X, G⟩ := t.h; He.int_ok X G (t.d.fact 28 (f := .int "MOST_LETTERS" 6) rfl)
theorem Tx.k_ZERO (t : Tx K mg) : ∃ u, mg "ZERO" = some (.str "day" u) := let ⟨_, X, G⟩ := t.h; He.str_ok X G (t.d.fact 29 (f := .str "ZERO" "day") rfl)
theorem Tx.k_MOSTDATES (t : Tx K mg) : ∃ u, mg "MOST_DATES" = some (.int 4096 u) := let ⟨_, X, G⟩ := t.h; He.int_ok X G (t.d.fact 30 (f := .int "MOST_DATES" 4096) rfl)
theorem Tx.f_isinstance (t : Tx K mg) : mg "isinstance" = none := let ⟨_, X, G⟩ := t.h; He.free_ok X G (t.d.fact 31 (f := .free "isinstance") rfl)
theorem Tx.f_len (t : Tx K mg) : mg "len" = none := let ⟨_, X, G⟩ := t.h; He.free_ok X G (t.d.fact 32 (f := .free "len") rfl)
theorem Tx.f_all (t : Tx K mg) : mg "all" = none := let ⟨_, X, G⟩ := t.h; He.free_ok X G (t.d.fact 33 (f := .free "all") rfl)
theorem Tx.f_list (t : Tx K mg) : mg "list" = none := let ⟨_, X, G⟩ := t.h; He.free_ok X G (t.d.fact 34 (f := .free "list") rfl)
theorem Tx.f_sorted (t : Tx K mg) : mg "sorted" = none := let ⟨_, X, G⟩ := t.h; He.free_ok X G (t.d.fact 35 (f := .free "sorted") rfl)
theorem Tx.f_dict (t : Tx K mg) : mg "dict" = none := let ⟨_, X, G⟩ := t.h; He.free_ok X G (t.d.fact 36 (f := .free "dict") rfl)
theorem Tx.f_zip (t : Tx K mg) : mg "zip" = none := let ⟨_, X, G⟩ := t.h; He.free_ok X G (t.d.fact 37 (f := .free "zip") rfl)
theorem Tx.f_range (t : Tx K mg) : mg "range" = none := let ⟨_, X, G⟩ := t.h; He.free_ok X G (t.d.fact 38 (f := .free "range") rfl)
theorem Tx.f_enumerate (t : Tx K mg) : mg "enumerate" = none := let ⟨_, X, G⟩ := t.h; He.free_ok X G (t.d.fact 39 (f := .free "enumerate") rfl)
theorem Tx.f_repr (t : Tx K mg) : mg "repr" = none := let ⟨_, X, G⟩ := t.h; He.free_ok X G (t.d.fact 40 (f := .free "repr") rfl)
theorem Tx.f_min (t : Tx K mg) : mg "min" = none := let ⟨_, X, G⟩ := t.h; He.free_ok X G (t.d.fact 41 (f := .free "min") rfl)
theorem Tx.f_max (t : Tx K mg) : mg "max" = none := let ⟨_, X, G⟩ := t.h; He.free_ok X G (t.d.fact 42 (f := .free "max") rfl)
theorem Tx.f_abs (t : Tx K mg) : mg "abs" = none := let ⟨_, X, G⟩ := t.h; He.free_ok X G (t.d.fact 43 (f := .free "abs") rfl)
theorem Tx.f_int (t : Tx K mg) : mg "int" = none := let ⟨_, X, G⟩ := t.h; He.free_ok X G (t.d.fact 44 (f := .free "int") rfl)
theorem Tx.f_divmod (t : Tx K mg) : mg "divmod" = none := let ⟨_, X, G⟩ := t.h; He.free_ok X G (t.d.fact 45 (f := .free "divmod") rfl)
theorem Tx.f_bool (t : Tx K mg) : mg "bool" = none := let ⟨_, X, G⟩ := t.h; He.free_ok X G (t.d.fact 46 (f := .free "bool") rfl)
theorem Tx.f_str (t : Tx K mg) : mg "str" = none := let ⟨_, X, G⟩ := t.h; He.free_ok X G (t.d.fact 47 (f := .free "str") rfl)
theorem Tx.f_tuple (t : Tx K mg) : mg "tuple" = none := let ⟨_, X, G⟩ := t.h; He.free_ok X G (t.d.fact 48 (f := .free "tuple") rfl)
theorem Tx.c_Days (t : Tx K mg) : Cls K (He.ga K "Days") := He.cls_ok (t.d.fact 49 (f := .cls "Days") rfl)
theorem Tx.mk_Days (t : Tx K mg) : Mk K (He.ga K "Days") (He.ma K (He.ga K "Days") "__init__") := He.mkr_ok (t.d.fact 50 (f := .mkr "Days") rfl)
theorem Tx.m_Days_changedby (t : Tx K mg) : Meth K (He.ga K "Days") "changed_by" (He.ma K (He.ga K "Days") "changed_by") := He.meth_ok (t.d.fact 51 (f := .meth "Days" "changed_by") rfl)
theorem Tx.m_Days_ringat (t : Tx K mg) : Meth K (He.ga K "Days") "ring_at" (He.ma K (He.ga K "Days") "ring_at") := He.meth_ok (t.d.fact 52 (f := .meth "Days" "ring_at") rfl)
theorem Tx.m_Days_ring (t : Tx K mg) : Meth K (He.ga K "Days") "ring" (He.ma K (He.ga K "Days") "ring") := He.meth_ok (t.d.fact 53 (f := .meth "Days" "ring") rfl)
theorem Tx.m_Days_dates (t : Tx K mg) : Meth K (He.ga K "Days") "dates" (He.ma K (He.ga K "Days") "dates") := He.meth_ok (t.d.fact 54 (f := .meth "Days" "dates") rfl)
theorem Tx.a_Days_owndays (t : Tx K mg) : NoAttr K (He.ga K "Days") "own_days" := He.noat_ok (t.d.fact 55 (f := .noat "Days" "own_days") rfl)
theorem Tx.a_Days_ownlast (t : Tx K mg) : NoAttr K (He.ga K "Days") "own_last" := He.noat_ok (t.d.fact 56 (f := .noat "Days" "own_last") rfl)
theorem Tx.a_Days_ownring (t : Tx K mg) : NoAttr K (He.ga K "Days") "own_ring" := He.noat_ok (t.d.fact 57 (f := .noat "Days" "own_ring") rfl)
theorem Tx.c_Closed (t : Tx K mg) : Cls K (He.ga K "Closed") := He.cls_ok (t.d.fact 58 (f := .cls "Closed") rfl)
theorem Tx.mk_Closed (t : Tx K mg) : Mk K (He.ga K "Closed") (He.ma K (He.ga K "Closed") "__init__") := He.mkr_ok (t.d.fact 59 (f := .mkr "Closed") rfl)
theorem Tx.m_Closed_ring (t : Tx K mg) : Meth K (He.ga K "Closed") "ring" (He.ma K (He.ga K "Closed") "ring") := He.meth_ok (t.d.fact 60 (f := .meth "Closed" "ring") rfl)
theorem Tx.a_Closed_ownmoments (t : Tx K mg) : NoAttr K (He.ga K "Closed") "own_moments" := He.noat_ok (t.d.fact 61 (f := .noat "Closed" "own_moments") rfl)
theorem Tx.a_Closed_ownclauses (t : Tx K mg) : NoAttr K (He.ga K "Closed") "own_clauses" := He.noat_ok (t.d.fact 62 (f := .noat "Closed" "own_clauses") rfl)
theorem Tx.a_Closed_owndays (t : Tx K mg) : NoAttr K (He.ga K "Closed") "own_days" := He.noat_ok (t.d.fact 63 (f := .noat "Closed" "own_days") rfl)
theorem Tx.a_Closed_ownrows (t : Tx K mg) : NoAttr K (He.ga K "Closed") "own_rows" := He.noat_ok (t.d.fact 64 (f := .noat "Closed" "own_rows") rfl)
theorem Tx.c_Calendar (t : Tx K mg) : Cls K (He.ga K "Calendar") := He.cls_ok (t.d.fact 65 (f := .cls "Calendar") rfl)
theorem Tx.mk_Calendar (t : Tx K mg) : Mk K (He.ga K "Calendar") (He.ma K (He.ga K "Calendar") "__init__") := He.mkr_ok (t.d.fact 66 (f := .mkr "Calendar") rfl)
theorem Tx.m_Calendar_isownform (t : Tx K mg) : Meth K (He.ga K "Calendar") "is_own_form" (He.ma K (He.ga K "Calendar") "is_own_form") := He.meth_ok (t.d.fact 67 (f := .meth "Calendar" "is_own_form") rfl)
theorem Tx.m_Calendar_hasmoment (t : Tx K mg) : Meth K (He.ga K "Calendar") "has_moment" (He.ma K (He.ga K "Calendar") "has_moment") := He.meth_ok (t.d.fact 68 (f := .meth "Calendar" "has_moment") rfl)
theorem Tx.m_Calendar_moments (t : Tx K mg) : Meth K (He.ga K "Calendar") "moments" (He.ma K (He.ga K "Calendar") "moments") := He.meth_ok (t.d.fact 69 (f := .meth "Calendar" "moments") rfl)
theorem Tx.m_Calendar_clauses (t : Tx K mg) : Meth K (He.ga K "Calendar") "clauses" (He.ma K (He.ga K "Calendar") "clauses") := He.meth_ok (t.d.fact 70 (f := .meth "Calendar" "clauses") rfl)
theorem Tx.m_Calendar_contains (t : Tx K mg) : Meth K (He.ga K "Calendar") "__contains__" (He.ma K (He.ga K "Calendar") "__contains__") := He.meth_ok (t.d.fact 71 (f := .meth "Calendar" "__contains__") rfl)
theorem Tx.m_Calendar_closed (t : Tx K mg) : Meth K (He.ga K "Calendar") "closed" (He.ma K (He.ga K "Calendar") "closed") := He.meth_ok (t.d.fact 72 (f := .meth "Calendar" "closed") rfl)
theorem Tx.a_Calendar_ownmoments (t : Tx K mg) : NoAttr K (He.ga K "Calendar") "own_moments" := He.noat_ok (t.d.fact 73 (f := .noat "Calendar" "own_moments") rfl)
theorem Tx.a_Calendar_ownclauses (t : Tx K mg) : NoAttr K (He.ga K "Calendar") "own_clauses" := He.noat_ok (t.d.fact 74 (f := .noat "Calendar" "own_clauses") rfl)
theorem Tx.def_isinteger (t : Tx K mg) : ∃ fd, FunD K d_isinteger.name d_isinteger.qual d_isinteger.params d_isinteger.body d_isinteger.scope (d_isinteger.dvs K) (d_isinteger.kws K) (He.fAd K d_isinteger.at_) fd := t.d.def_ 0 (d := d_isinteger) rfl
theorem Tx.def_islist (t : Tx K mg) : ∃ fd, FunD K d_islist.name d_islist.qual d_islist.params d_islist.body d_islist.scope (d_islist.dvs K) (d_islist.kws K) (He.fAd K d_islist.at_) fd := t.d.def_ 1 (d := d_islist) rfl
theorem Tx.def_isname (t : Tx K mg) : ∃ fd, FunD K d_isname.name d_isname.qual d_isname.params d_isname.body d_isname.scope (d_isname.dvs K) (d_isname.kws K) (He.fAd K d_isname.at_) fd := t.d.def_ 2 (d := d_isname) rfl
theorem Tx.def_ismoment (t : Tx K mg) : ∃ fd, FunD K d_ismoment.name d_ismoment.qual d_ismoment.params d_ismoment.body d_ismoment.scope (d_ismoment.dvs K) (d_ismoment.kws K) (He.fAd K d_ismoment.at_) fd := t.d.def_ 3 (d := d_ismoment) rfl
theorem Tx.def_ispoint (t : Tx K mg) : ∃ fd, FunD K d_ispoint.name d_ispoint.qual d_ispoint.params d_ispoint.body d_ispoint.scope (d_ispoint.dvs K) (d_ispoint.kws K) (He.fAd K d_ispoint.at_) fd := t.d.def_ 4 (d := d_ispoint) rfl
theorem Tx.def_isclause (t : Tx K mg) : ∃ fd, FunD K d_isclause.name d_isclause.qual d_isclause.params d_isclause.body d_isclause.scope (d_isclause.dvs K) (d_isclause.kws K) (He.fAd K d_isclause.at_) fd := t.d.def_ 5 (d := d_isclause) rfl
theorem Tx.def_DyInit (t : Tx K mg) : ∃ fd, FunD K d_DyInit.name d_DyInit.qual d_DyInit.params d_DyInit.body d_DyInit.scope (d_DyInit.dvs K) (d_DyInit.kws K) (He.fAd K d_DyInit.at_) fd := t.d.def_ 6 (d := d_DyInit) rfl
theorem Tx.def_Dychangedby (t : Tx K mg) : ∃ fd, FunD K d_Dychangedby.name d_Dychangedby.qual d_Dychangedby.params d_Dychangedby.body d_Dychangedby.scope (d_Dychangedby.dvs K) (d_Dychangedby.kws K) (He.fAd K d_Dychangedby.at_) fd := t.d.def_ 7 (d := d_Dychangedby) rfl
theorem Tx.def_Dyringat (t : Tx K mg) : ∃ fd, FunD K d_Dyringat.name d_Dyringat.qual d_Dyringat.params d_Dyringat.body d_Dyringat.scope (d_Dyringat.dvs K) (d_Dyringat.kws K) (He.fAd K d_Dyringat.at_) fd := t.d.def_ 8 (d := d_Dyringat) rfl
theorem Tx.def_Dyring (t : Tx K mg) : ∃ fd, FunD K d_Dyring.name d_Dyring.qual d_Dyring.params d_Dyring.body d_Dyring.scope (d_Dyring.dvs K) (d_Dyring.kws K) (He.fAd K d_Dyring.at_) fd := t.d.def_ 9 (d := d_Dyring) rfl
theorem Tx.def_Dydates (t : Tx K mg) : ∃ fd, FunD K d_Dydates.name d_Dydates.qual d_Dydates.params d_Dydates.body d_Dydates.scope (d_Dydates.dvs K) (d_Dydates.kws K) (He.fAd K d_Dydates.at_) fd := t.d.def_ 10 (d := d_Dydates) rfl
theorem Tx.def_ClInit (t : Tx K mg) : ∃ fd, FunD K d_ClInit.name d_ClInit.qual d_ClInit.params d_ClInit.body d_ClInit.scope (d_ClInit.dvs K) (d_ClInit.kws K) (He.fAd K d_ClInit.at_) fd := t.d.def_ 11 (d := d_ClInit) rfl
theorem Tx.def_Clring (t : Tx K mg) : ∃ fd, FunD K d_Clring.name d_Clring.qual d_Clring.params d_Clring.body d_Clring.scope (d_Clring.dvs K) (d_Clring.kws K) (He.fAd K d_Clring.at_) fd := t.d.def_ 12 (d := d_Clring) rfl
theorem Tx.def_somedates (t : Tx K mg) : ∃ fd, FunD K d_somedates.name d_somedates.qual d_somedates.params d_somedates.body d_somedates.scope (d_somedates.dvs K) (d_somedates.kws K) (He.fAd K d_somedates.at_) fd := t.d.def_ 13 (d := d_somedates) rfl
theorem Tx.def_CaInit (t : Tx K mg) : ∃ fd, FunD K d_CaInit.name d_CaInit.qual d_CaInit.params d_CaInit.body d_CaInit.scope (d_CaInit.dvs K) (d_CaInit.kws K) (He.fAd K d_CaInit.at_) fd := t.d.def_ 14 (d := d_CaInit) rfl
theorem Tx.def_Caisownform (t : Tx K mg) : ∃ fd, FunD K d_Caisownform.name d_Caisownform.qual d_Caisownform.params d_Caisownform.body d_Caisownform.scope (d_Caisownform.dvs K) (d_Caisownform.kws K) (He.fAd K d_Caisownform.at_) fd := t.d.def_ 15 (d := d_Caisownform) rfl
theorem Tx.def_Cahasmoment (t : Tx K mg) : ∃ fd, FunD K d_Cahasmoment.name d_Cahasmoment.qual d_Cahasmoment.params d_Cahasmoment.body d_Cahasmoment.scope (d_Cahasmoment.dvs K) (d_Cahasmoment.kws K) (He.fAd K d_Cahasmoment.at_) fd := t.d.def_ 16 (d := d_Cahasmoment) rfl
theorem Tx.def_Camoments (t : Tx K mg) : ∃ fd, FunD K d_Camoments.name d_Camoments.qual d_Camoments.params d_Camoments.body d_Camoments.scope (d_Camoments.dvs K) (d_Camoments.kws K) (He.fAd K d_Camoments.at_) fd := t.d.def_ 17 (d := d_Camoments) rfl
theorem Tx.def_Caclauses (t : Tx K mg) : ∃ fd, FunD K d_Caclauses.name d_Caclauses.qual d_Caclauses.params d_Caclauses.body d_Caclauses.scope (d_Caclauses.dvs K) (d_Caclauses.kws K) (He.fAd K d_Caclauses.at_) fd := t.d.def_ 18 (d := d_Caclauses) rfl
theorem Tx.def_CaHas (t : Tx K mg) : ∃ fd, FunD K d_CaHas.name d_CaHas.qual d_CaHas.params d_CaHas.body d_CaHas.scope (d_CaHas.dvs K) (d_CaHas.kws K) (He.fAd K d_CaHas.at_) fd := t.d.def_ 19 (d := d_CaHas) rfl
theorem Tx.def_Caclosed (t : Tx K mg) : ∃ fd, FunD K d_Caclosed.name d_Caclosed.qual d_Caclosed.params d_Caclosed.body d_Caclosed.scope (d_Caclosed.dvs K) (d_Caclosed.kws K) (He.fAd K d_Caclosed.at_) fd := t.d.def_ 20 (d := d_Caclosed) rfl
theorem Tx.def_wantpoint (t : Tx K mg) : ∃ fd, FunD K d_wantpoint.name d_wantpoint.qual d_wantpoint.params d_wantpoint.body d_wantpoint.scope (d_wantpoint.dvs K) (d_wantpoint.kws K) (He.fAd K d_wantpoint.at_) fd := t.d.def_ 21 (d := d_wantpoint) rfl
theorem Tx.def_closedof (t : Tx K mg) : ∃ fd, FunD K d_closedof.name d_closedof.qual d_closedof.params d_closedof.body d_closedof.scope (d_closedof.dvs K) (d_closedof.kws K) (He.fAd K d_closedof.at_) fd := t.d.def_ 22 (d := d_closedof) rfl
theorem Tx.def_datesapart (t : Tx K mg) : ∃ fd, FunD K d_datesapart.name d_datesapart.qual d_datesapart.params d_datesapart.body d_datesapart.scope (d_datesapart.dvs K) (d_datesapart.kws K) (He.fAd K d_datesapart.at_) fd := t.d.def_ 23 (d := d_datesapart) rfl
theorem Tx.def_dateswith (t : Tx K mg) : ∃ fd, FunD K d_dateswith.name d_dateswith.qual d_dateswith.params d_dateswith.body d_dateswith.scope (d_dateswith.dvs K) (d_dateswith.kws K) (He.fAd K d_dateswith.at_) fd := t.d.def_ 24 (d := d_dateswith) rfl
theorem Tx.def_daylists (t : Tx K mg) : ∃ fd, FunD K d_daylists.name d_daylists.qual d_daylists.params d_daylists.body d_daylists.scope (d_daylists.dvs K) (d_daylists.kws K) (He.fAd K d_daylists.at_) fd := t.d.def_ 25 (d := d_daylists) rfl
theorem Tx.def_alldates (t : Tx K mg) : ∃ fd, FunD K d_alldates.name d_alldates.qual d_alldates.params d_alldates.body d_alldates.scope (d_alldates.dvs K) (d_alldates.kws K) (He.fAd K d_alldates.at_) fd := t.d.def_ 26 (d := d_alldates) rfl
theorem Tx.def_Lpot (t : Tx K mg) : ∃ fd, FunD K d_Lpot.name d_Lpot.qual d_Lpot.params d_Lpot.body d_Lpot.scope (d_Lpot.dvs K) (d_Lpot.kws K) (He.fAd K d_Lpot.at_) fd := t.d.def_ 27 (d := d_Lpot) rfl
theorem Tx.def_Ldraw (t : Tx K mg) : ∃ fd, FunD K d_Ldraw.name d_Ldraw.qual d_Ldraw.params d_Ldraw.body d_Ldraw.scope (d_Ldraw.dvs K) (d_Ldraw.kws K) (He.fAd K d_Ldraw.at_) fd := t.d.def_ 28 (d := d_Ldraw) rfl
theorem Tx.def_Lpick (t : Tx K mg) : ∃ fd, FunD K d_Lpick.name d_Lpick.qual d_Lpick.params d_Lpick.body d_Lpick.scope (d_Lpick.dvs K) (d_Lpick.kws K) (He.fAd K d_Lpick.at_) fd := t.d.def_ 29 (d := d_Lpick) rfl
theorem Tx.def_Lall (t : Tx K mg) : ∃ fd, FunD K d_Lall.name d_Lall.qual d_Lall.params d_Lall.body d_Lall.scope (d_Lall.dvs K) (d_Lall.kws K) (He.fAd K d_Lall.at_) fd := t.d.def_ 30 (d := d_Lall) rfl
theorem Tx.def_Lkeeps (t : Tx K mg) : ∃ fd, FunD K d_Lkeeps.name d_Lkeeps.qual d_Lkeeps.params d_Lkeeps.body d_Lkeeps.scope (d_Lkeeps.dvs K) (d_Lkeeps.kws K) (He.fAd K d_Lkeeps.at_) fd := t.d.def_ 31 (d := d_Lkeeps) rfl
theorem Tx.def_Ldraft (t : Tx K mg) : ∃ fd, FunD K d_Ldraft.name d_Ldraft.qual d_Ldraft.params d_Ldraft.body d_Ldraft.scope (d_Ldraft.dvs K) (d_Ldraft.kws K) (He.fAd K d_Ldraft.at_) fd := t.d.def_ 32 (d := d_Ldraft) rfl
theorem Tx.def_Lgonethrough (t : Tx K mg) : ∃ fd, FunD K d_Lgonethrough.name d_Lgonethrough.qual d_Lgonethrough.params d_Lgonethrough.body d_Lgonethrough.scope (d_Lgonethrough.dvs K) (d_Lgonethrough.kws K) (He.fAd K d_Lgonethrough.at_) fd := t.d.def_ 33 (d := d_Lgonethrough) rfl
theorem Tx.def_Lnumberright (t : Tx K mg) : ∃ fd, FunD K d_Lnumberright.name d_Lnumberright.qual d_Lnumberright.params d_Lnumberright.body d_Lnumberright.scope (d_Lnumberright.dvs K) (d_Lnumberright.kws K) (He.fAd K d_Lnumberright.at_) fd := t.d.def_ 34 (d := d_Lnumberright) rfl
theorem Tx.def_Lright (t : Tx K mg) : ∃ fd, FunD K d_Lright.name d_Lright.qual d_Lright.params d_Lright.body d_Lright.scope (d_Lright.dvs K) (d_Lright.kws K) (He.fAd K d_Lright.at_) fd := t.d.def_ 35 (d := d_Lright) rfl
theorem Tx.def_Lbetween (t : Tx K mg) : ∃ fd, FunD K d_Lbetween.name d_Lbetween.qual d_Lbetween.params d_Lbetween.body d_Lbetween.scope (d_Lbetween.dvs K) (d_Lbetween.kws K) (He.fAd K d_Lbetween.at_) fd := t.d.def_ 36 (d := d_Lbetween) rfl
theorem Tx.def_law (t : Tx K mg) : ∃ fd, FunD K d_law.name d_law.qual d_law.params d_law.body d_law.scope (d_law.dvs K) (d_law.kws K) (He.fAd K d_law.at_) fd := t.d.def_ 37 (d := d_law) rfl
end
end LdP
/-! # LdLay1 -/
/-! Calls of the text's defs, in short. -/
namespace LdP
open PySem PySem.Spec PyProof.Rows L2 Evl

/-- the def at f keeps the promise sp; every parameter is given by its place -/
structure Ok (P : Program) (w : World) (K : PySem.W.Frag) (mg : Str → Option Value) (base : Heap) (k : Nat) (f : Addr) (ps : List Str) (sp : Sp) : Prop where
  ex : ∃ fd, FnOk P w K mg base CX0 k f fd ps sp ∧ Binds K fd ps []
  kp : (PySem.W.keepIn K (.ref f)) = true
theorem Ok.mono {P : Program} {w : World} {K : PySem.W.Frag} {mg : Str → Option Value} {base : Heap} {j k : Nat} {f : Addr} {ps : List Str} {sp : Sp} (F : Ok P w K mg base j f ps sp) (h : j ≤ k) : Ok P w K mg base k f ps sp :=
  ⟨let ⟨fd, F1, F2⟩ := F.ex; ⟨fd, F1.mono h, F2⟩, F.kp⟩
section
variable {P : Program} {w : World} {K : PySem.W.Frag} {mg : Str → Option Value} {base : Heap} {k : Nat} {f : Addr} {ps N : List Str} {sp : Sp}
/-- the context of a body out of which nothing is raised -/
abbrev cx (P : Program) (w : World) (K : PySem.W.Frag) (mg : Str → Option Value) (base : Heap) (N : List Str) (qual : Str) (scope : Scope) (f : Addr) (cdv : Value) (A : Around) (outer : List Env) (s : Shared) (H : Hp) (E : XK) : Cx :=
  (cxOf CX0 P w K mg base N qual scope f cdv A outer s H E).nox
abbrev wish (Q : VK) : Ends := { nx := fun _ H' => Q .non H', rt := Q }
/-- from the body -/
theorem ok_of {x qual : Str} {params : Arguments} {body : List Stmt} {scope : Scope} {fd : FuncData} (F : FunD K x qual params body scope [] [] f fd) (S : FnScope N ps scope)
    (hb : ∀ (kV doc pm : Value) (an : Option Addr) (cdv ct : Value) (us : List Value), us.length = ps.length → bindArgs (PySem.W.fnOf x qual params body scope .none kV doc pm an cdv ct) ⟨us, []⟩ = pure (ps.zip us))
    (len : ∀ vs H Q E, sp vs H Q E → vs.length = ps.length) (run : ∀ (cdv : Value) (A : Around) (outer : List Env) (s : Shared) (H : Hp) (vs : List V) (Q : VK) (E : XK), Room k (A.deeper (envOfC qual scope s.heap.objs.size f cdv)) → sp vs H Q E →
      ∃ t, PSs (cx P w K mg base N qual scope f cdv A outer s H E) body t ∧ t (wish Q) (start N vs) H) : Ok P w K mg base (k + 1) f ps sp :=
  ⟨⟨fd, F.ok S len fun cdv A outer s H vs Q E hr hsp => by
      obtain ⟨t, h, q⟩ := run cdv A outer s H vs Q E hr hsp
      exact ⟨t, h.nox, q⟩, F.bindsN hb⟩, F.kp⟩
end
section
variable {X : Cx} {k : Nat} {f C : Addr} {ps : List Str} {sp : Sp} {x m : Str} {p pos apos : Pos} {e o : Expr} {es : List Expr} {ta : TE} {t : TA}
/-- f(e, ..) -/
theorem pe_fn (F : Ok X.prog X.w X.K X.mg X.base k f ps sp) (hr : Room k X.A) (hm : X.mg x = some (.ref f)) (ha : PA X (e :: es) t) (hg : Gl X x := by rfl) (hdb : (x == ("__debug__" : Str)) = false := by decide)
    (he : starEach (e :: es) X.env = (false, eval e X.env) :: starEach es X.env := by rfl) (hpl : (backTo pos (starEach es X.env)).any (·.1) = false := by rfl) : PE X (.Call (.Name x p) (e :: es) [] pos) (tCall sp [] E0 t) := by
  obtain ⟨fd, F1, F2⟩ := F.ex
  exact pe_call F1 hr hg hm F.kp F2 .nil pass0 ha hdb he hpl
/-- o.m(e, ..) -/
theorem pe_md {pl : Sem Bool} (he : PE X o ta) (c : Cls X.K C) (hm : Meth X.K C m f) (F : Ok X.prog X.w X.K X.mg X.base k f ps sp) (hr : Room k X.A) (ha : PA X (e :: es) t)
    (hst : starEach (e :: es) X.env = (false, eval e X.env) :: starEach es X.env := by rfl) (hpl : (backTo pos (starEach es X.env)).any (·.1) = false := by rfl) (ht : eval (.Call (.Attribute o m apos) (e :: es) [] pos) X.env = (do
      let ov ← eval o X.env
      standAt apos.atName
      let (f, first) ← (holding [ov] (getMethod ov m pl))
      callWith pos f first (backTo pos (starEach (e :: es) X.env)) (backToKw pos (keywordEach [] X.env))) := by rfl) : PE X (.Call (.Attribute o m apos) (e :: es) [] pos) (tMeth C m sp [] E0 ta t) := by
  obtain ⟨fd, F1, F2⟩ := F.ex
  exact pe_meth he c hm F1 hr F2 .nil pass0 ha hst hpl ht
/-- o.m() -/
theorem pe_md0 {pl : Sem Bool} (he : PE X o ta) (c : Cls X.K C) (hm : Meth X.K C m f) (F : Ok X.prog X.w X.K X.mg X.base k f ps sp) (hr : Room k X.A)
    (ht : (eval (.Call (.Attribute o m apos) [] [] pos) X.env) = (do
      let ov ← eval o X.env
      standAt apos.atName
      let (f, first) ← (holding [ov] (getMethod ov m pl))
      callWith pos f first (backTo pos (starEach [] X.env)) (backToKw pos (keywordEach [] X.env))) := by rfl) : PE X (.Call (.Attribute o m apos) [] [] pos) (tMeth C m sp [] E0 ta tNil) := by
  obtain ⟨fd, F1, F2⟩ := F.ex
  exact pe_meth0 he c hm F1 hr F2 .nil pass0 ht
/-- C(e, ..) -/
theorem pe_mk (M : Mk X.K C f) (F : Ok X.prog X.w X.K X.mg X.base k f ps sp) (hr : Room (k + 1) X.A) (hm : X.mg x = some (.ref C)) (ha : PA X (e :: es) t) (hg : Gl X x := by rfl) (hdb : (x == ("__debug__" : Str)) = false := by decide)
    (he : starEach (e :: es) X.env = (false, eval e X.env) :: starEach es X.env := by rfl) (hpl : (backTo pos (starEach es X.env)).any (·.1) = false := by rfl) : PE X (.Call (.Name x p) (e :: es) [] pos) (tMake C sp [] E0 t) := by
  obtain ⟨fd, F1, F2⟩ := F.ex
  exact pe_make M F1 hr hg hm F2 .nil pass0 ha hdb he hpl
end

theorem hu65 {k : Nat} {A : Around} (hr : Room k A) : A.units + 65 < cLine := by have := hr.un; omega
theorem hu64 {k : Nat} {A : Around} (hr : Room k A) : A.units + 64 < cLine := by have := hr.un; omega
/-! ### heaps -/
theorem ex_upd {H : Hp} {p : Addr} {o : HO} (h : H p = none) : Ex H (upd H p o) := Ex.new h
theorem ne_free {H : Hp} {a p : Addr} {o : HO} (h : H a = some o) (hp : H p = none) : a ≠ p := ne_of_none h hp

/-! ### what evaluates to what, further -/
section
variable {K : PySem.W.Frag} {σ : L2.St} {H H' : Hp} {ta tb tc te : TE} {t u : TT} {x y z v : V} {r r' : R2}
/-- to some value with the property R -/
def EvR (te : TE) (σ : L2.St) (H : Hp) (R : V → Hp → Prop) : Prop := ∀ H1, Ex H H1 → ∀ Q : VK, (∀ v H2, Ex H1 H2 → R v H2 → Q v H2) → te σ H1 Q
theorem evR_of (h : Ev te σ H v) {R : V → Hp → Prop} (hR : ∀ H2, Ex H H2 → R v H2) : EvR te σ H R := fun H1 e Q q => h H1 e Q fun H2 e2 => q v H2 e2 (hR H2 (e.trans e2))
theorem rc_isi {n T : String} {b : Bool} (h : ∀ H1, Ex H H1 → TyX K H1 x (.type n)) (e : kitB n T = some b) : RC (rIsi K) [x, .ty T] H (.bl b) := fun H1 e1 Q q =>
  ⟨x, .ty T, .type n, .type T, b, rfl, .ty T, h H1 e1, kit_ty e, q H1 (Ex.refl H1)⟩
theorem ev_isi {n T : String} {b : Bool} (hx : Ev te σ H x) (h : ∀ H1, Ex H H1 → TyX K H1 x (.type n)) (e : kitB n T = some b) : Ev (tCB (rIsi K) (tCons te (tCons (tC (.ty T)) tNil))) σ H (.bl b) :=
  ev_cb (ea_cons hx (ea_cons ev_c ea_nil)) (rc_isi h e)
theorem ev_isiI {i : Int} {T : String} {b : Bool} (hx : Ev te σ H (.int i)) (e : kitB "int" T = some b) : Ev (tCB (rIsi K) (tCons te (tCons (tC (.ty T)) tNil))) σ H (.bl b) := ev_isi hx (fun _ _ => .base (.int _)) e
theorem ev_isiS {i : Str} {T : String} {b : Bool} (hx : Ev te σ H (.str i)) (e : kitB "str" T = some b) : Ev (tCB (rIsi K) (tCons te (tCons (tC (.ty T)) tNil))) σ H (.bl b) := ev_isi hx (fun _ _ => .base (.str _)) e
theorem ev_isiT {a : Addr} {xs : List V} {T : String} {b : Bool} (hx : Ev te σ H (.ref a)) (ha : H a = some (.tup xs)) (e : kitB "tuple" T = some b) : Ev (tCB (rIsi K) (tCons te (tCons (tC (.ty T)) tNil))) σ H (.bl b) := ev_isi hx (fun H1 e1 => .base (.tup (e1 _ _ ha))) e
theorem ev_isiD {a : Addr} {xs : List (Key × V)} {T : String} {b : Bool} (hx : Ev te σ H (.ref a)) (ha : H a = some (.dK xs)) (e : kitB "dict" T = some b) : Ev (tCB (rIsi K) (tCons te (tCons (tC (.ty T)) tNil))) σ H (.bl b) := ev_isi hx (fun H1 e1 => .base (.dK (e1 _ _ ha))) e
/-- a op b op' c of ints -/
theorem ev_chainI {g g' : Int → Int → Bool} {i j k : Int} (ha : Ev ta σ H (.int i)) (hb : Ev tb σ H (.int j)) (hc : Ev tc σ H (.int k)) : Ev (tChain (rI0 fun i j => .bl (g i j)) (rI0 fun i j => .bl (g' i j)) ta tb tc) σ H (.bl (g i j && g' j k)) := fun H1 e Q q =>
  ha H1 e _ fun H2 e2 => hb H2 (e.trans e2) _ fun H3 e3 => ⟨i, j, rfl, rfl, g i j, rfl, by
    cases hg : g i j with
    | true =>
      refine iteT ?_
      refine hc H3 ((e.trans e2).trans e3) _ fun H4 e4 => ⟨j, k, rfl, rfl, ?_⟩
      have := q H4 ((e2.trans e3).trans e4)
      rw [hg] at this
      exact this
    | false =>
      refine iteF ?_
      have := q H3 (e2.trans e3)
      rw [hg] at this
      exact this⟩
theorem ev_sign {c : Nat} {z : Str} (ha : Ev ta σ H (.str ⟨#[c]⟩)) (hb : Ev tb σ H (.str z)) : Ev (tOp (fun x y H Q => ∃ (c : Nat) (z : Str), x = .str ⟨#[c]⟩ ∧ y = .str z ∧ Q (.bl (decide (c ∈ z.cps.toList))) H) ta tb) σ H (.bl (decide (c ∈ z.cps.toList))) :=
  ev_op ha hb (rv_val fun H1 _ Q q => ⟨c, z, rfl, rfl, q⟩)
theorem ev_lenS {z : Str} (ha : Ev ta σ H (.str z)) (hz : z.length ≤ sizeLine) : Ev (tCB (fun xs H Q => ∃ z, xs = [.str z] ∧ z.length ≤ sizeLine ∧ Q (.int z.length) H) (tCons ta tNil)) σ H (.int (z.length : Nat)) :=
  ev_cb (ea_cons ha ea_nil) fun H1 _ Q q => ⟨z, rfl, hz, q H1 (Ex.refl H1)⟩
theorem ev_lenT {a : Addr} {xs : List V} (hx : Ev ta σ H (.ref a)) (ha : H a = some (.tup xs)) : Ev (tCB (rLenS K) (tCons ta tNil)) σ H (.int (xs.length : Nat)) :=
  ev_cb (ea_cons hx ea_nil) fun H1 e1 Q q => ⟨a, xs, rfl, .inr (SqT.of (e1 _ _ ha)), q H1 (Ex.refl H1)⟩
theorem ev_lenL {a : Addr} {xs : List V} (hx : Ev ta σ H (.ref a)) (ha : H a = some (.lst xs)) : Ev (tCB (rLenS K) (tCons ta tNil)) σ H (.int (xs.length : Nat)) :=
  ev_cb (ea_cons hx ea_nil) fun H1 e1 Q q => ⟨a, xs, rfl, .inl (SqL.of (e1 _ _ ha)), q H1 (Ex.refl H1)⟩
theorem ev_fld {a C dx : Addr} {fs : List (Str × V)} {f : Str} (h : Ev ta σ H (.ref a)) (ha : H a = some (.ins C dx fs)) (c : Cls K C) (n : NoAttr K C f) (l : fs.lookup f = some v) : Ev (tFld K ta f) σ H v := fun H1 e Q q =>
  h H1 e _ fun H2 e2 => ⟨a, C, dx, fs, v, rfl, e2 _ _ (e _ _ ha), c, n, l, q H2 e2⟩
theorem ev_con {a C dx : Addr} {fs : List (Str × V)} {f : Str} {u : Value} (h : Ev ta σ H (.ref a)) (ha : H a = some (.ins C dx fs)) (c : Cls K C) (n : Con K C f v u) (l : fs.lookup f = none) : Ev (tCon K ta f) σ H v := fun H1 e Q q =>
  h H1 e _ fun H2 e2 => ⟨a, C, dx, fs, v, u, rfl, e2 _ _ (e _ _ ha), c, n, l, q H2 e2⟩
/-- list(xs): a new list -/
theorem el_list1 {p : Addr} {xs : List V} (ha : Ev ta σ H (.ref p)) (h : H p = some (.lst xs)) : EvL (tCB (fun ys H Q => ∃ p xs, ys = [.ref p] ∧ (SqL K H p xs ∨ SqT K H p xs) ∧ ∀ l, H l = none → Q (.ref l) (upd H l (.lst xs))) (tCons ta tNil)) σ H xs := fun H1 e Q q =>
  ha H1 e _ fun H2 e2 => ⟨p, xs, rfl, .inl (SqL.of (e2 _ _ (e _ _ h))), fun l hl => q l _ (fresh_back e2 hl) (e2.trans (Ex.new hl)) upd_same⟩
/-- o.m(..), a promise that hands back a value -/
theorem ev_meth {a C dx : Addr} {fs : List (Str × V)} {m : Str} {sp : Sp} {E : XK} {ta' : TA} {vs : List V} (h : Ev ta σ H (.ref a)) (ha : H a = some (.ins C dx fs)) (l : fs.lookup m = none) (hs : EvA ta' σ H vs) (hsp : SpV sp (.ref a :: (vs ++ [])) H v) : Ev (tMeth C m sp [] E ta ta') σ H v := fun H1 e Q q =>
  h H1 e _ fun H2 e2 => ⟨a, dx, fs, rfl, e2 _ _ (e _ _ ha), l, hs H2 (e.trans e2) _ fun H3 e3 => hsp H3 ((e.trans e2).trans e3) Q (fun H4 e4 => q H4 ((e2.trans e3).trans e4)) E⟩
theorem el_meth {a C dx : Addr} {fs : List (Str × V)} {m : Str} {sp : Sp} {E : XK} {ta' : TA} {vs xs : List V} (h : Ev ta σ H (.ref a)) (ha : H a = some (.ins C dx fs)) (l : fs.lookup m = none) (hs : EvA ta' σ H vs) (hsp : SpL sp (.ref a :: (vs ++ [])) H xs) : EvL (tMeth C m sp [] E ta ta') σ H xs := fun H1 e Q q =>
  h H1 e _ fun H2 e2 => ⟨a, dx, fs, rfl, e2 _ _ (e _ _ ha), l, hs H2 (e.trans e2) _ fun H3 e3 => hsp H3 ((e.trans e2).trans e3) Q (fun p H4 h0 e4 h4 => q p H4 (fresh_back (e2.trans e3) h0) ((e2.trans e3).trans e4) h4) E⟩
theorem inV_str {z : Str} {zs : List Str} : inV (.str z) (zs.map V.str) = decide (z ∈ zs) := by
  unfold inV
  rw [List.any_map]
  by_cases h : z ∈ zs
  · rw [decide_eq_true h, List.any_eq_true]
    exact ⟨z, h, beq_self_eq_true z⟩
  · rw [decide_eq_false h, List.any_eq_false]
    intro y hy e
    have e2 : (y == z) = true := e
    exact h (eq_of_beq e2 ▸ hy)
theorem flat_strs {zs : List Str} : (zs.map V.str).all flatV = true := by
  rw [List.all_map, List.all_eq_true]
  intro _ _
  rfl
/-- all(..) of a new list of bools -/
theorem ev_allN {bs : List Bool} (h : EvL ta σ H (bs.map V.bl)) : Ev (tCB (rAll K) (tCons ta tNil)) σ H (.bl (bs.all id)) := fun H1 e Q q =>
  h H1 e _ fun p H2 _ e2 hp => ⟨p, bs, rfl, sq_of hp, q H2 e2⟩
/-- [e for c in text] -/
theorem el_lcS {zs : Str} {tl : TE} {j : Nat} {vs : List Nat} (v : Nat → V) (h : Ev tl σ H (.str zs)) (hz : zs.cps.size ≤ 40000) (hw : ∀ x, wipe ((wipe σ vs).set j (some x)) vs = wipe σ vs)
    (he : ∀ (i c : Nat) H1, Ex H H1 → zs.cps[i]? = some c → Ev te ((wipe σ vs).set j (some (.str ⟨#[c]⟩))) H1 (v i)) : EvL (tLc (iStr tl) (gName j) tYes te vs) σ H (given zs.cps.size (fun _ => true) v) := fun H0 e Q q => h H0 e _ fun H1 e1 => ⟨zs, rfl, fun Dl hD =>
  lc_it walk_str (Cw H1 (fun _ => true) v Dl) ⟨hD, Ex.new hD, upd_same⟩ (fun _ _ _ _ => trivial) (fun i x H' H'' hi p hY => by
    obtain ⟨rfl, c, hc, rfl⟩ := hY
    exact ⟨hw _, cw_turn p (by omega) (fun H2 _ Q2 q2 => q2 H2 (Ex.refl H2)) (fun _ => he i c H1 (e.trans e1) hc)⟩) (fun H' p => q Dl H' (fresh_back e1 p.1) (e1.trans p.2.1) p.2.2)⟩
/-! ### statements, further -/
variable {D : Ends} {tu tz : TS} {g : TG}
/-- o.f = e, the value known; o is at a -/
theorem q_fld {a C dx : Addr} {fs : List (Str × V)} {f : Str} (hv : Ev te σ H v) (ho : Ev ta σ H (.ref a)) (ha : H a = some (.ins C dx fs)) (c : Cls K C) (n : NoAttr K C f) (hl : fs.length < 1000) (k : ∀ H1, Ex H H1 → tz D σ (upd H1 a (.ins C dx (putF f v fs)))) :
    tSeq (sFld K ta te f) tz D σ H := hv H (Ex.refl H) _ fun H1 e1 => ho H1 e1 _ fun H2 e2 => ⟨a, C, dx, fs, rfl, (e1.trans e2) _ _ ha, c, n, hl, k H2 (e1.trans e2)⟩
theorem q_fldL {a C dx : Addr} {fs : List (Str × V)} {f : Str} {xs : List V} (hv : EvL te σ H xs) (ho : Ev ta σ H (.ref a)) (ha : H a = some (.ins C dx fs)) (c : Cls K C) (n : NoAttr K C f) (hl : fs.length < 1000)
    (k : ∀ p H1, H p = none → Ex H H1 → H1 p = some (.lst xs) → tz D σ (upd H1 a (.ins C dx (putF f (.ref p) fs)))) :
    tSeq (sFld K ta te f) tz D σ H := hv H (Ex.refl H) _ fun p H1 hp e1 h1 => ho H1 e1 _ fun H2 e2 => ⟨a, C, dx, fs, rfl, (e1.trans e2) _ _ ha, c, n, hl, k p H2 hp (e1.trans e2) (e2 _ _ h1)⟩
theorem s_fld {a C dx : Addr} {fs : List (Str × V)} {f : Str} (hv : Ev te σ H v) (ho : Ev ta σ H (.ref a)) (ha : H a = some (.ins C dx fs)) (c : Cls K C) (n : NoAttr K C f) (hl : fs.length < 1000) (k : ∀ H1, Ex H H1 → D.nx σ (upd H1 a (.ins C dx (putF f v fs)))) :
    sFld K ta te f D σ H := hv H (Ex.refl H) _ fun H1 e1 => ho H1 e1 _ fun H2 e2 => ⟨a, C, dx, fs, rfl, (e1.trans e2) _ _ ha, c, n, hl, k H2 (e1.trans e2)⟩
theorem ev_sorted {a : Addr} {xs ys : List Str} (h : Ev te σ H (.ref a)) (ha : H a = some (.lst (xs.map V.str))) (h64 : xs.length < 64) (hu : ∀ zs : List Str, zs.Perm xs → sortedS zs = true → zs = ys) : EvL (tCB (rSortedS K) (tCons te tNil)) σ H (ys.map V.str) := fun H1 e Q q =>
  h H1 e _ fun H2 e2 => ⟨a, xs, rfl, SqL.of (e2 _ _ (e _ _ ha)), h64, fun zs p hp hs hn => by
    rw [hu zs hp hs]
    exact q p _ (fresh_back e2 hn) (e2.trans (Ex.new hn)) upd_same⟩
/-- a pair taken apart into two names -/
theorem g_pair {T : Addr} {x y : V} {i j : Nat} {Q : L2.St → Hp → Prop} (h : H T = some (.tup [x, y])) (q : Q ((σ.set i (some x)).set j (some y)) H) : gTup K 2 (gCons (gName i) (gCons (gName j) gNil)) (.ref T) σ H Q :=
  ⟨T, [x, y], rfl, SqT.of h, rfl, x, [y], rfl, y, [], rfl, rfl, q⟩
theorem g_triple {T : Addr} {x y z : V} {i j l : Nat} {Q : L2.St → Hp → Prop} (h : H T = some (.tup [x, y, z])) (q : Q (((σ.set i (some x)).set j (some y)).set l (some z)) H) : gTup K 3 (gCons (gName i) (gCons (gName j) (gCons (gName l) gNil))) (.ref T) σ H Q :=
  ⟨T, [x, y, z], rfl, SqT.of h, rfl, x, [y, z], rfl, y, [z], rfl, z, [], rfl, rfl, q⟩
/-- for i, x in enumerate(xs) -/
theorem q_forE {a : Addr} {xs : List V} {ta : TA} (h : EvA ta σ H [.ref a]) (hx : SqL K H a xs) (Pv : Nat → L2.St → Hp → Prop) (h0 : ∀ H1, Ex H H1 → Pv 0 σ H1) (hl : ∀ i σ' H', i ≤ xs.length → Pv i σ' H' → SqL K H' a xs)
    (hs : ∀ (i : Nat) x T σ' H', xs[i]? = some x → Pv i σ' H' → H' T = none → g (.ref T) σ' (upd H' T (.tup [.int (i : Nat), x])) fun σ2 H2 => tu { D with nx := Pv (i + 1), ct := Pv (i + 1), bk := tz D } σ2 H2) (hd : ∀ σ' H', Pv xs.length σ' H' → tz D σ' H') :
    tSeq (tFor (iEnum K ta) g tu) tz D σ H := h H (Ex.refl H) _ fun H1 e => ⟨a, xs, rfl, ex_l e hx, for_it (D := { D with nx := tz D }) walk_enum Pv (h0 H1 e) hl (fun i x σ' H' H'' hi p hY => by
      obtain ⟨T, x1, x2, rfl, hT, rfl, e1, e2⟩ := hY
      have e3 : x1 = V.int (i : Nat) := (Option.some.inj e1).symm
      subst e3
      exact hs i x2 T σ' H' e2 p hT) hd⟩
theorem given_all (n : Nat) (v : Nat → V) : given n (fun _ => true) v = (List.range n).map v := by
  unfold given
  rw [List.filter_eq_self.mpr fun _ _ => rfl]
end

/-! ### a list comprehension whose items are known: behind i turns the first i of xs stand at D -/
structure AtD (H1 : Hp) (D : Addr) (xs : List V) (i : Nat) (H : Hp) : Prop where
  s : Ex H1 H
  d : H D = some (.lst (xs.take i))
theorem atD_zero {H1 : Hp} {D : Addr} {xs : List V} (hD : H1 D = none) : AtD H1 D xs 0 (upd H1 D (.lst [])) := ⟨ex_upd hD, by rw [upd_same]; rfl⟩
theorem atD_next {H1 H H4 : Hp} {D : Addr} {xs : List V} {i : Nat} {y : V} (hD : H1 D = none) (a : AtD H1 D xs i H) (s : Ex H H4) (hy : xs[i]? = some y) (hz : xs.length ≤ sizeLine) :
    ∃ acc, H4 D = some (.lst acc) ∧ acc.length < sizeLine ∧ AtD H1 D xs (i + 1) (upd H4 D (.lst (acc ++ [y]))) := by
  refine ⟨xs.take i, s _ _ a.d, ?_, Ex.mut (a.s.trans s) hD, ?_⟩
  · have hi := (List.getElem?_eq_some_iff.mp hy).1
    rw [List.length_take]
    omega
  · rw [upd_same, List.take_add_one, hy]
    rfl
theorem AtD.all {H1 H : Hp} {D : Addr} {xs : List V} {n : Nat} (a : AtD H1 D xs n H) (hn : n = xs.length) : H D = some (.lst xs) := by
  rw [a.d, hn, List.take_length]
end LdP
/-! # LdMath -/
/-! Plain mathematics of rows.Days: days that are taken ahead, clause by clause, round by round. -/
namespace Ld
section
variable {κ : Type _} [DecidableEq κ]

/-- a clause: one is at most num days behind other -/
structure Cls (κ : Type) where
  one : κ
  other : κ
  num : Int
  deriving DecidableEq

/-- the state: days, last clauses, (ghosts: round and tick of the last change), ticks, the last changed -/
structure Bf (κ : Type) where
  f : κ → Int
  L : κ → Option (Cls κ)
  R : κ → Nat
  T : κ → Nat
  clk : Nat
  ch : Option κ

def up {α : Type} (g : κ → α) (k : κ) (v : α) : κ → α := fun x => if x = k then v else g x
theorem up_same {α : Type} {g : κ → α} {k : κ} {v : α} : up g k v k = v := by simp [up]
theorem up_ne {α : Type} {g : κ → α} {k x : κ} {v : α} (h : x ≠ k) : up g k v x = g x := by simp [up, h]

def bf0 : Bf κ := ⟨fun _ => 0, fun _ => none, fun _ => 0, fun _ => 0, 0, none⟩
def fire (t : Nat) (s : Bf κ) (c : Cls κ) : Bf κ :=
  ⟨up s.f c.one (s.f c.other + c.num), up s.L c.one (some c), up s.R c.one t, up s.T c.one (s.clk + 1), s.clk + 1, some c.one⟩
def step (t : Nat) (s : Bf κ) (c : Cls κ) : Bf κ := if s.f c.one > s.f c.other + c.num then fire t s c else s
def pass (t : Nat) (cs : List (Cls κ)) (s : Bf κ) : Bf κ := cs.foldl (step t) { s with ch := none }
def rounds (cs : List (Cls κ)) : Nat → Bf κ
  | 0 => bf0
  | t + 1 => pass (t + 1) cs (rounds cs t)

/-! ### no change: all clauses are kept -/
theorem ch_some (t : Nat) : ∀ (cs : List (Cls κ)) (s : Bf κ), s.ch ≠ none → (cs.foldl (step t) s).ch ≠ none
  | [], _, h => h
  | c :: cs, s, h => by
    rw [List.foldl_cons]
    refine ch_some t cs _ ?_
    unfold step
    split
    · simp [fire]
    · exact h
theorem ch_none (t : Nat) : ∀ (cs : List (Cls κ)) (s : Bf κ), (cs.foldl (step t) s).ch = none → cs.foldl (step t) s = s ∧ ∀ c ∈ cs, s.f c.one ≤ s.f c.other + c.num
  | [], s, _ => ⟨rfl, fun c h => by simp at h⟩
  | c :: cs, s, h => by
    rw [List.foldl_cons] at h ⊢
    by_cases e : s.f c.one > s.f c.other + c.num
    · have hs : step t s c = fire t s c := if_pos e
      rw [hs] at h
      exact absurd h (ch_some t cs _ (by simp [fire]))
    · have hs : step t s c = s := if_neg e
      rw [hs] at h ⊢
      obtain ⟨h1, h2⟩ := ch_none t cs s h
      refine ⟨h1, fun d hdz => ?_⟩
      rcases List.mem_cons.mp hdz with rfl | hdz
      · omega
      · exact h2 d hdz
theorem kept_of_none {cs : List (Cls κ)} {t : Nat} (h : (rounds cs (t + 1)).ch = none) : ∀ c ∈ cs, (rounds cs (t + 1)).f c.one ≤ (rounds cs (t + 1)).f c.other + c.num := by
  unfold rounds pass at h ⊢
  obtain ⟨h1, h2⟩ := ch_none _ _ _ h
  rw [h1]
  exact h2

/-! ### a change in the last round -/
/-- what holds between two clauses of round t: done are those that were looked at in it -/
structure Mid (t : Nat) (done rest : List (Cls κ)) (s : Bf κ) : Prop where
  a : ∀ c ∈ done, s.f c.one ≤ s.f c.other + c.num ∨ t ≤ s.R c.other
  b : ∀ c ∈ rest, s.f c.one ≤ s.f c.other + c.num ∨ t ≤ s.R c.other + 1
  le : ∀ v, s.R v ≤ t
  L0 : ∀ v, s.L v = none → s.R v = 0
  L1 : ∀ v c, s.L v = some c → c.one = v ∧ c ∈ done ++ rest ∧ 1 ≤ s.R v ∧ s.R v ≤ s.R c.other + 1 ∧ s.f c.other + c.num ≤ s.f v ∧ (s.T c.other < s.T v ∨ s.f c.other + c.num < s.f v)
  tk : ∀ v, s.T v ≤ s.clk

theorem Mid.step {t : Nat} {done rest : List (Cls κ)} {c : Cls κ} {s : Bf κ} (ht : 1 ≤ t) (m : Mid t done (c :: rest) s) : Mid t (done ++ [c]) rest (step t s c) := by
  unfold Ld.step
  have hmem : ∀ x, x ∈ done ++ c :: rest ↔ x ∈ (done ++ [c]) ++ rest := fun x => by simp
  by_cases e : s.f c.one > s.f c.other + c.num
  · rw [if_pos e]
    have hR : t ≤ s.R c.other + 1 := by
      rcases m.b c (by simp) with h | h
      · omega
      · exact h
    have fdec : ∀ v, (fire t s c).f v ≤ s.f v := fun v => by
      show up s.f c.one _ v ≤ _
      by_cases h : v = c.one
      · subst h; rw [up_same]; omega
      · rw [up_ne h]; exact Int.le_refl _
    have Rinc : ∀ v, s.R v ≤ (fire t s c).R v := fun v => by
      show _ ≤ up s.R c.one t v
      by_cases h : v = c.one
      · subst h; rw [up_same]; exact m.le _
      · rw [up_ne h]; exact Nat.le_refl _
    have Tinc : ∀ v, s.T v ≤ (fire t s c).T v := fun v => by
      show _ ≤ up s.T c.one _ v
      by_cases h : v = c.one
      · subst h; rw [up_same]; exact Nat.le_succ_of_le (m.tk _)
      · rw [up_ne h]; exact Nat.le_refl _
    have keep : ∀ (d : Cls κ) (n : Nat), n ≤ t → (s.f d.one ≤ s.f d.other + d.num ∨ n ≤ s.R d.other) → (fire t s c).f d.one ≤ (fire t s c).f d.other + d.num ∨ n ≤ (fire t s c).R d.other := fun d n hn h => by
      by_cases hd : d.other = c.one
      · right
        show n ≤ up s.R c.one t d.other
        rw [hd, up_same]; exact hn
      · rcases h with h | h
        · left
          have e1 : (fire t s c).f d.other = s.f d.other := up_ne hd
          rw [e1]
          exact Int.le_trans (fdec _) h
        · right
          exact Nat.le_trans h (Rinc _)
    have own : (fire t s c).f c.one ≤ (fire t s c).f c.other + c.num ∨ t ≤ (fire t s c).R c.other := by
      by_cases hc : c.other = c.one
      · right
        show t ≤ up s.R c.one t c.other
        rw [hc, up_same]; exact Nat.le_refl _
      · left
        have e1 : (fire t s c).f c.other = s.f c.other := up_ne hc
        have e2 : (fire t s c).f c.one = s.f c.other + c.num := up_same
        rw [e1, e2]; exact Int.le_refl _
    refine ⟨fun d hd => ?_, fun d hd => ?_, fun v => ?_, fun v hv => ?_, fun v d hv => ?_, fun v => ?_⟩
    · rcases List.mem_append.mp hd with hd | hd
      · exact keep d t (Nat.le_refl _) (m.a d hd)
      · rw [List.mem_singleton.mp hd]; exact own
    · have := keep d (t - 1) (by omega) (by rcases m.b d (List.mem_cons_of_mem _ hd) with h | h; exact .inl h; exact .inr (by omega))
      rcases this with h | h
      · exact .inl h
      · exact .inr (by omega)
    · show up s.R c.one t v ≤ t
      by_cases h : v = c.one
      · subst h; rw [up_same]; exact Nat.le_refl _
      · rw [up_ne h]; exact m.le v
    · by_cases h : v = c.one
      · subst h
        have e1 : (fire t s c).L c.one = some c := up_same
        rw [e1] at hv; cases hv
      · have e1 : (fire t s c).L v = s.L v := up_ne h
        have e2 : (fire t s c).R v = s.R v := up_ne h
        rw [e1] at hv; rw [e2]; exact m.L0 v hv
    · by_cases h : v = c.one
      · subst h
        have e1 : (fire t s c).L c.one = some c := up_same
        rw [e1] at hv; cases hv
        have eR : (fire t s c).R c.one = t := up_same
        have eT : (fire t s c).T c.one = s.clk + 1 := up_same
        have eF : (fire t s c).f c.one = s.f c.other + c.num := up_same
        refine ⟨rfl, by simp, by omega, ?_, ?_, ?_⟩
        · rw [eR]; have := Rinc c.other; omega
        · rw [eF]; have := fdec c.other; omega
        · by_cases hc : c.other = c.one
          · right
            have : (fire t s c).f c.other = s.f c.other + c.num := by rw [hc]; rw [eF, hc]
            rw [this, eF]
            have hlt : s.f c.one > s.f c.other + c.num := e
            rw [hc] at hlt ⊢
            omega
          · left
            have e3 : (fire t s c).T c.other = s.T c.other := up_ne hc
            rw [e3, eT]; have := m.tk c.other; omega
      · have e1 : (fire t s c).L v = s.L v := up_ne h
        have eR : (fire t s c).R v = s.R v := up_ne h
        have eT : (fire t s c).T v = s.T v := up_ne h
        have eF : (fire t s c).f v = s.f v := up_ne h
        rw [e1] at hv
        obtain ⟨h1, h2, h3, h4, h5, h6⟩ := m.L1 v d hv
        refine ⟨h1, (hmem d).mp h2, by rw [eR]; exact h3, ?_, ?_, ?_⟩
        · rw [eR]; have := Rinc d.other; omega
        · rw [eF]; have := fdec d.other; omega
        · rw [eF, eT]
          by_cases hc : d.other = c.one
          · right
            have e4 : (fire t s c).f d.other = s.f c.other + c.num := by rw [hc]; exact up_same
            rw [e4]
            rw [hc] at h5
            omega
          · have e5 : (fire t s c).T d.other = s.T d.other := up_ne hc
            have e6 : (fire t s c).f d.other = s.f d.other := up_ne hc
            rw [e5, e6]; exact h6
    · show up s.T c.one (s.clk + 1) v ≤ s.clk + 1
      by_cases h : v = c.one
      · subst h; rw [up_same]; exact Nat.le_refl _
      · rw [up_ne h]; exact Nat.le_succ_of_le (m.tk v)
  · rw [if_neg e]
    refine ⟨fun d hd => ?_, fun d hd => m.b d (List.mem_cons_of_mem _ hd), m.le, m.L0, fun v d hv => ?_, m.tk⟩
    · rcases List.mem_append.mp hd with hd | hd
      · exact m.a d hd
      · rw [List.mem_singleton.mp hd]; left; omega
    · obtain ⟨h1, h2, h3⟩ := m.L1 v d hv
      exact ⟨h1, (hmem d).mp h2, h3⟩
theorem Mid.all {t : Nat} (ht : 1 ≤ t) : ∀ (rest done : List (Cls κ)) (s : Bf κ), Mid t done rest s → Mid t (done ++ rest) [] (rest.foldl (Ld.step t) s)
  | [], done, s, m => by rw [List.append_nil]; exact m
  | c :: rest, done, s, m => by
    have := Mid.all ht rest (done ++ [c]) (Ld.step t s c) (m.step ht)
    rw [List.append_assoc] at this; exact this
theorem mid_ch {t : Nat} {done rest : List (Cls κ)} {s : Bf κ} (m : Mid t done rest s) : Mid t done rest { s with ch := none } := ⟨m.a, m.b, m.le, m.L0, m.L1, m.tk⟩
theorem mid_rounds (cs : List (Cls κ)) : ∀ t, Mid (t + 1) [] cs (rounds cs t)
  | 0 => ⟨fun c h => by simp at h, fun c _ => .inr (by show 0 + 1 ≤ 0 + 1; omega), fun v => Nat.zero_le _, fun v _ => rfl, fun v c h => (by cases h), fun v => Nat.zero_le _⟩
  | t + 1 => by
    have m := Mid.all (by omega) cs [] _ (mid_ch (mid_rounds cs t))
    rw [List.nil_append] at m
    show Mid (t + 1 + 1) [] cs (pass (t + 1) cs (rounds cs t))
    refine ⟨fun c h => by simp at h, fun c hc => ?_, fun v => Nat.le_succ_of_le (m.le v), m.L0, fun v c hv => ?_, m.tk⟩
    · rcases m.a c hc with h | h
      · exact .inl h
      · exact .inr (by show t + 1 + 1 ≤ _; unfold pass; omega)
    · obtain ⟨h1, h2, h3⟩ := m.L1 v c hv
      exact ⟨h1, by simpa using h2, h3⟩
/-- behind round t + 1: in terms of it alone -/
theorem mid_end (cs : List (Cls κ)) (t : Nat) : Mid (t + 1) cs [] (rounds cs (t + 1)) := by
  have m := Mid.all (by omega) cs [] _ (mid_ch (mid_rounds cs t))
  rw [List.nil_append] at m
  exact m
theorem ch_R (t : Nat) : ∀ (cs : List (Cls κ)) (s : Bf κ), (∀ v, s.R v ≤ t) → (∀ v, s.ch = some v → s.R v = t) → ∀ v, (cs.foldl (step t) s).ch = some v → (cs.foldl (step t) s).R v = t
  | [], _, _, h => h
  | c :: cs, s, hle, h => by
    rw [List.foldl_cons]
    unfold step
    split
    · refine ch_R t cs _ (fun v => ?_) (fun v hv => ?_)
      · show up s.R c.one t v ≤ t
        by_cases e : v = c.one
        · subst e; rw [up_same]; exact Nat.le_refl _
        · rw [up_ne e]; exact hle v
      · have e : c.one = v := Option.some.inj hv
        subst e
        exact up_same
    · exact ch_R t cs s hle h
theorem ch_round {cs : List (Cls κ)} {t : Nat} {v : κ} (h : (rounds cs (t + 1)).ch = some v) : (rounds cs (t + 1)).R v = t + 1 :=
  ch_R (t + 1) cs { rounds cs t with ch := none } (mid_rounds cs t).le (fun _ h => by cases h) v h

/-! ### where the last clauses lead -/
def nx (L : κ → Option (Cls κ)) (v : κ) : κ := match L v with | some c => c.other | none => v
def walk (L : κ → Option (Cls κ)) (v : κ) : Nat → κ
  | 0 => v
  | k + 1 => nx L (walk L v k)
theorem walk_add (L : κ → Option (Cls κ)) (v : κ) (i : Nat) : ∀ k, walk L v (i + k) = walk L (walk L v i) k
  | 0 => rfl
  | k + 1 => by
    show nx L (walk L v (i + k)) = nx L _
    rw [walk_add L v i k]
/-- more places than things: two are the same -/
theorem length_le_of : ∀ (l ks : List κ), l.Nodup → (∀ x ∈ l, x ∈ ks) → l.length ≤ ks.length
  | [], _, _, _ => (Nat.zero_le _)
  | x :: l, ks, hn, hs => by
    have hx : x ∈ ks := hs x (by simp)
    have := length_le_of l (ks.erase x) (List.nodup_cons.mp hn).2 (fun y hy => by
      refine (List.mem_erase_of_ne ?_).mpr (hs y (by simp [hy]))
      rintro rfl
      exact (List.nodup_cons.mp hn).1 hy)
    rw [List.length_erase_of_mem hx] at this
    have hp : 0 < ks.length := List.length_pos_of_mem hx
    rw [List.length_cons]
    omega
theorem twice_of (g : Nat → κ) : ∀ (n : Nat), ¬ ((List.range n).map g).Nodup → ∃ i j, i < j ∧ j < n ∧ g i = g j
  | 0, h => by simp at h
  | n + 1, h => by
    rw [List.range_succ, List.map_append, List.map_cons, List.map_nil, List.nodup_append] at h
    by_cases h1 : ((List.range n).map g).Nodup
    · by_cases h2 : g n ∈ (List.range n).map g
      · obtain ⟨i, hi, e⟩ := List.mem_map.mp h2
        exact ⟨i, n, List.mem_range.mp hi, Nat.lt_succ_self n, e⟩
      · refine absurd ⟨h1, by simp, fun a ha b hb => ?_⟩ h
        rw [List.mem_singleton.mp hb]
        rintro rfl
        exact h2 ha
    · obtain ⟨i, j, hij, hj, e⟩ := twice_of g n h1
      exact ⟨i, j, hij, Nat.lt_succ_of_lt hj, e⟩
theorem pigeon {g : Nat → κ} {n : Nat} {ks : List κ} (hk : ks.length < n) (h : ∀ i, i < n → g i ∈ ks) : ∃ i j, i < j ∧ j < n ∧ g i = g j := by
  refine twice_of g n fun hn => ?_
  have := length_le_of _ ks hn (fun x hx => by
    obtain ⟨i, hi, rfl⟩ := List.mem_map.mp hx
    exact h i (List.mem_range.mp hi))
  rw [List.length_map, List.length_range] at this
  omega

section
variable {cs : List (Cls κ)} {ks : List κ} {v : κ}
/-- for so many steps there is a last clause -/
theorem walk_R {t : Nat} (h : (rounds cs (t + 1)).ch = some v) : ∀ k, k ≤ t → t + 1 ≤ (rounds cs (t + 1)).R (walk (rounds cs (t + 1)).L v k) + k
  | 0, _ => by
    show t + 1 ≤ (rounds cs (t + 1)).R v + 0
    rw [ch_round h]; exact Nat.le_refl _
  | k + 1, hk => by
    have ih := walk_R h k (by omega)
    have m := mid_end cs t
    show t + 1 ≤ (rounds cs (t + 1)).R (nx _ (walk _ v k)) + (k + 1)
    unfold nx
    cases e : (rounds cs (t + 1)).L (walk (rounds cs (t + 1)).L v k) with
    | none =>
      have := m.L0 _ e
      omega
    | some c =>
      obtain ⟨_, _, _, h4, _⟩ := m.L1 _ c e
      show t + 1 ≤ (rounds cs (t + 1)).R c.other + (k + 1)
      omega
theorem walk_some {t : Nat} (h : (rounds cs (t + 1)).ch = some v) {k : Nat} (hk : k ≤ t) : ∃ c, (rounds cs (t + 1)).L (walk (rounds cs (t + 1)).L v k) = some c := by
  have m := mid_end cs t
  cases e : (rounds cs (t + 1)).L (walk (rounds cs (t + 1)).L v k) with
  | some c => exact ⟨c, rfl⟩
  | none =>
    have h1 := m.L0 _ e
    have h2 := walk_R h k hk
    omega
theorem walk_mem (hcs : ∀ c ∈ cs, c.one ∈ ks ∧ c.other ∈ ks) {t : Nat} (h : (rounds cs (t + 1)).ch = some v) : ∀ k, k ≤ t → walk (rounds cs (t + 1)).L v k ∈ ks := fun k hk => by
  obtain ⟨c, e⟩ := walk_some h hk
  obtain ⟨h1, h2, _⟩ := (mid_end cs t).L1 _ c e
  rw [← h1]
  exact (hcs c (by simpa using h2)).1
/-- the walk comes round within so many steps -/
theorem walk_round (hcs : ∀ c ∈ cs, c.one ∈ ks ∧ c.other ∈ ks) (h : (rounds cs (ks.length + 1)).ch = some v) :
    ∃ i p, 0 < p ∧ i + p ≤ ks.length ∧ walk (rounds cs (ks.length + 1)).L v (i + p) = walk (rounds cs (ks.length + 1)).L v i := by
  obtain ⟨i, j, hij, hj, e⟩ := pigeon (g := walk (rounds cs (ks.length + 1)).L v) (n := ks.length + 1) (ks := ks) (Nat.lt_succ_self _) fun i hi => walk_mem hcs h i (by omega)
  exact ⟨i, j - i, by omega, by omega, by rw [show i + (j - i) = j by omega]; exact e.symm⟩
theorem walk_period {L : κ → Option (Cls κ)} {i p : Nat} (h : walk L v (i + p) = walk L v i) : ∀ k, walk L v (i + p + k) = walk L v (i + k) := fun k => by
  rw [walk_add, h, ← walk_add]
/-- from place n on every place has a last clause, and p steps behind n one is there again -/
theorem walk_ring (hcs : ∀ c ∈ cs, c.one ∈ ks ∧ c.other ∈ ks) (h : (rounds cs (ks.length + 1)).ch = some v) :
    (∀ k, ∃ c, (rounds cs (ks.length + 1)).L (walk (rounds cs (ks.length + 1)).L v k) = some c) ∧
      ∃ p, 0 < p ∧ p ≤ ks.length ∧ walk (rounds cs (ks.length + 1)).L v (ks.length + p) = walk (rounds cs (ks.length + 1)).L v ks.length := by
  obtain ⟨i, p, hp, hip, e⟩ := walk_round hcs h
  refine ⟨fun k => ?_, p, hp, by omega, ?_⟩
  · induction k using Nat.strongRecOn with
    | ind k ih =>
      by_cases hk : k ≤ ks.length
      · exact walk_some h hk
      · have e2 := walk_period e (k - (i + p))
        rw [show i + p + (k - (i + p)) = k by omega] at e2
        rw [e2]
        exact ih _ (by omega)
  · have e2 := walk_period e (ks.length - i)
    rw [show i + p + (ks.length - i) = ks.length + p by omega, show i + (ks.length - i) = ks.length by omega] at e2
    exact e2

/-- no dates -/
theorem no_dates (hcs : ∀ c ∈ cs, c.one ∈ ks ∧ c.other ∈ ks) (h : (rounds cs (ks.length + 1)).ch = some v) (D : κ → Int) (hD : ∀ c ∈ cs, D c.one ≤ D c.other + c.num) : False := by
  obtain ⟨i, p, hp, hip, e⟩ := walk_round hcs h
  have m := mid_end cs ks.length
  -- along the walk the days less D fall, or the ticks do
  have one : ∀ k, k ≤ ks.length → ∀ x y, x = walk (rounds cs (ks.length + 1)).L v k → y = walk (rounds cs (ks.length + 1)).L v (k + 1) →
      ((rounds cs (ks.length + 1)).f y - D y < (rounds cs (ks.length + 1)).f x - D x) ∨ ((rounds cs (ks.length + 1)).f y - D y = (rounds cs (ks.length + 1)).f x - D x ∧ (rounds cs (ks.length + 1)).T y < (rounds cs (ks.length + 1)).T x) := by
    intro k hk x y hx hy
    obtain ⟨c, ec⟩ := walk_some h hk
    have ey : y = c.other := by
      rw [hy]
      show nx _ (walk _ v k) = _
      unfold nx
      rw [ec]
    rw [← hx] at ec
    obtain ⟨h1, h2, _, _, h5, h6⟩ := m.L1 _ c ec
    have hd := hD c (by simpa using h2)
    rw [h1] at hd
    rw [ey]
    rcases h6 with h6 | h6
    · by_cases q : (rounds cs (ks.length + 1)).f c.other - D c.other < (rounds cs (ks.length + 1)).f x - D x
      · exact .inl q
      · exact .inr ⟨by omega, h6⟩
    · left; omega
  have many : ∀ q, 0 < q → i + q ≤ ks.length + 1 → ∀ x y, x = walk (rounds cs (ks.length + 1)).L v i → y = walk (rounds cs (ks.length + 1)).L v (i + q) →
      ((rounds cs (ks.length + 1)).f y - D y < (rounds cs (ks.length + 1)).f x - D x) ∨ ((rounds cs (ks.length + 1)).f y - D y = (rounds cs (ks.length + 1)).f x - D x ∧ (rounds cs (ks.length + 1)).T y < (rounds cs (ks.length + 1)).T x) := by
    intro q
    induction q with
    | zero => intro h0; omega
    | succ q ih =>
      intro _ hq x y hx hy
      have last := one (i + q) (by omega) _ y rfl hy
      by_cases h0 : q = 0
      · subst h0
        rw [hx]
        exact last
      · have := ih (by omega) (by omega) x _ hx rfl
        rcases this with a | ⟨a, a'⟩ <;> rcases last with b | ⟨b, b'⟩
        · left; omega
        · left; omega
        · left; omega
        · right; exact ⟨by omega, by omega⟩
  have := many p hp (by omega) _ _ rfl e.symm
  omega
end
end
end Ld
/-! # LdDates -/
/-! Plain mathematics of dates: the days' product, what keeps clauses, what dates_with gives. -/
namespace Ld
section
variable {κ : Type _} [DecidableEq κ]
abbrev Dt (κ : Type) := List (κ × Int)

def dv : Dt κ → κ → Int
  | [], _ => 0
  | (k, n) :: r, m => if m = k then n else dv r m
theorem dv_out : ∀ (d : Dt κ) (m : κ), m ∉ d.map (·.1) → dv d m = 0
  | [], _, _ => rfl
  | (k, n) :: r, m, h => by
    simp only [List.map_cons, List.mem_cons, not_or] at h
    show (if m = k then n else dv r m) = 0
    rw [if_neg h.1, dv_out r m h.2]
def keeps (cs : List (Cls κ)) (d : Dt κ) : Bool := cs.all fun c => decide (dv d c.one ≤ dv d c.other + c.num)
theorem keeps_iff {cs : List (Cls κ)} {d : Dt κ} : keeps cs d = true ↔ ∀ c ∈ cs, dv d c.one ≤ dv d c.other + c.num := by
  unfold keeps
  simp

def rng (e l : Int) : List Int := (List.range (l + 1 - e).toNat).map fun i => e + ((i : Nat) : Int)
theorem mem_rng {e l x : Int} : x ∈ rng e l ↔ e ≤ x ∧ x ≤ l := by
  unfold rng
  rw [List.mem_map]
  constructor
  · rintro ⟨i, hi, rfl⟩
    have := List.mem_range.mp hi
    omega
  · rintro ⟨h1, h2⟩
    exact ⟨(x - e).toNat, List.mem_range.mpr (by omega), by omega⟩
theorem rng_len (e l : Int) : (rng e l).length = (l + 1 - e).toNat := by simp [rng]

def grow (e l : Int) (lab : κ) (ds : List (Dt κ)) : List (Dt κ) := ds.flatMap fun near => (rng e l).map fun d => near ++ [(lab, d)]
def allD (e l : Int) (labs : List κ) : List (Dt κ) := labs.foldl (fun ds lab => grow e l lab ds) [[]]
def growN (e l : Int) (ds : List (List Int)) : List (List Int) := ds.flatMap fun near => (rng e l).map fun d => near ++ [d]
def dayLs (e l : Int) : Nat → List (List Int)
  | 0 => [[]]
  | n + 1 => growN e l (dayLs e l n)

theorem dayLs_len_mem {e l : Int} : ∀ (n : Nat) (x : List Int), x ∈ dayLs e l n → x.length = n
  | 0, x, h => by
    rw [List.mem_singleton.mp h]; rfl
  | n + 1, x, h => by
    obtain ⟨y, hy, hx⟩ := List.mem_flatMap.mp h
    obtain ⟨d, _, rfl⟩ := List.mem_map.mp hx
    rw [List.length_append, dayLs_len_mem n y hy]; rfl
theorem allD_snoc (e l : Int) (labs : List κ) (x : κ) : allD e l (labs ++ [x]) = grow e l x (allD e l labs) := by
  unfold allD
  rw [List.foldl_append]; rfl
/-- the law's dates are the program's -/
theorem allD_zip (e l : Int) : ∀ (n : Nat) (labs : List κ), labs.length = n → allD e l labs = (dayLs e l n).map fun ds => labs.zip ds
  | 0, labs, h => by
    rw [List.eq_nil_of_length_eq_zero h]; rfl
  | n + 1, labs, h => by
    have hne : labs ≠ [] := by rintro rfl; cases h
    obtain ⟨pre, x, rfl⟩ : ∃ pre x, labs = pre ++ [x] := ⟨labs.dropLast, labs.getLast hne, (List.dropLast_concat_getLast hne).symm⟩
    have hp : pre.length = n := by simpa using h
    rw [allD_snoc, allD_zip e l n pre hp]
    show grow e l x _ = (growN e l (dayLs e l n)).map _
    unfold grow growN
    rw [List.flatMap_map, List.map_flatMap]
    refine flatMap_cong fun y hy => ?_
    rw [List.map_map]
    refine List.map_congr_left fun d _ => ?_
    show pre.zip y ++ [(x, d)] = (pre ++ [x]).zip (y ++ [d])
    rw [List.zip_append (by rw [hp, dayLs_len_mem n y hy])]; rfl
where
  flatMap_cong {α β : Type} {f g : α → List β} : ∀ {l : List α}, (∀ x ∈ l, f x = g x) → l.flatMap f = l.flatMap g
    | [], _ => rfl
    | x :: l, h => by
      rw [List.flatMap_cons, List.flatMap_cons, h x (by simp), flatMap_cong fun y hy => h y (by simp [hy])]
theorem flatMap_const_len {α β : Type} {f : α → List β} {m : Nat} : ∀ {l : List α}, (∀ x ∈ l, (f x).length = m) → (l.flatMap f).length = l.length * m
  | [], _ => by simp
  | x :: l, h => by
    rw [List.flatMap_cons, List.length_append, h x (by simp), flatMap_const_len fun y hy => h y (by simp [hy]), List.length_cons, Nat.succ_mul]
    omega
theorem grow_len (e l : Int) (lab : κ) (ds : List (Dt κ)) : (grow e l lab ds).length = ds.length * (l + 1 - e).toNat :=
  flatMap_const_len fun x _ => by rw [List.length_map, rng_len]
theorem growN_len (e l : Int) (ds : List (List Int)) : (growN e l ds).length = ds.length * (l + 1 - e).toNat :=
  flatMap_const_len fun x _ => by rw [List.length_map, rng_len]
theorem allD_len (e l : Int) : ∀ (n : Nat) (labs : List κ), labs.length = n → (allD e l labs).length = (l + 1 - e).toNat ^ n := fun n labs h => by
  rw [allD_zip e l n labs h, List.length_map]
  clear h
  induction n with
  | zero => rfl
  | succ n ih =>
    show (growN e l (dayLs e l n)).length = _
    rw [growN_len, ih, Nat.pow_succ]
theorem mem_allD {e l : Int} : ∀ (n : Nat) (labs : List κ) (d : Dt κ), labs.length = n → (d ∈ allD e l labs ↔ d.map (·.1) = labs ∧ ∀ x ∈ d, e ≤ x.2 ∧ x.2 ≤ l)
  | 0, labs, d, h => by
    rw [List.eq_nil_of_length_eq_zero h]
    show d ∈ [[]] ↔ _
    rw [List.mem_singleton]
    constructor
    · rintro rfl; exact ⟨rfl, fun x hx => by simp at hx⟩
    · rintro ⟨h1, _⟩
      exact List.map_eq_nil_iff.mp h1
  | n + 1, labs, d, h => by
    have hne : labs ≠ [] := by rintro rfl; cases h
    obtain ⟨pre, x, rfl⟩ : ∃ pre x, labs = pre ++ [x] := ⟨labs.dropLast, labs.getLast hne, (List.dropLast_concat_getLast hne).symm⟩
    have hp : pre.length = n := by simpa using h
    rw [allD_snoc]
    unfold grow
    rw [List.mem_flatMap]
    constructor
    · rintro ⟨y, hy, hd⟩
      obtain ⟨k, hk, rfl⟩ := List.mem_map.mp hd
      obtain ⟨h1, h2⟩ := (mem_allD n pre y hp).mp hy
      refine ⟨by rw [List.map_append, h1]; rfl, fun z hzz => ?_⟩
      rcases List.mem_append.mp hzz with hzz | hzz
      · exact h2 z hzz
      · rw [List.mem_singleton.mp hzz]
        exact mem_rng.mp hk
    · rintro ⟨h1, h2⟩
      have hdn : d ≠ [] := by rintro rfl; simp at h1
      have ed := (List.dropLast_concat_getLast hdn).symm
      have e2 : d.dropLast.map (·.1) ++ [(d.getLast hdn).1] = pre ++ [x] := by
        rw [← h1]
        have := congrArg (List.map (·.1)) ed
        rw [List.map_append] at this
        exact this.symm
      have ha := List.append_inj_left' e2 rfl
      have hb := List.append_inj_right' e2 rfl
      have hx : (d.getLast hdn).1 = x := by simpa using hb
      refine ⟨d.dropLast, (mem_allD n pre _ hp).mpr ⟨ha, fun z hzz => h2 z (List.dropLast_subset _ hzz)⟩, ?_⟩
      refine List.mem_map.mpr ⟨(d.getLast hdn).2, mem_rng.mpr (h2 _ (List.getLast_mem hdn)), ?_⟩
      rw [← hx]
      exact ed.symm

/-! ### dates_with -/
/-- two clauses: p is just n days behind q -/
def apart (p q : κ) (n : Int) : List (Cls κ) := [⟨p, q, n⟩, ⟨q, p, -n⟩]
/-- the days of some moments, told from the day of z on -/
def datesOf (f : κ → Int) (z : κ) (labs : List κ) : Dt κ := labs.map fun m => (m, f m - f z)
theorem datesOf_keys (f : κ → Int) (z : κ) (labs : List κ) : (datesOf f z labs).map (·.1) = labs := by
  unfold datesOf
  rw [List.map_map]
  exact List.map_id labs
theorem dv_datesOf (f : κ → Int) (z : κ) : ∀ (labs : List κ) (m : κ), m ∈ labs → dv (datesOf f z labs) m = f m - f z
  | [], m, h => by simp at h
  | x :: r, m, h => by
    show (if m = x then f x - f z else dv (datesOf f z r) m) = _
    by_cases e : m = x
    · rw [if_pos e, e]
    · rw [if_neg e]
      refine dv_datesOf f z r m ?_
      rcases (List.mem_cons.mp h) with q | q
      · exact absurd q e
      · exact q
/-- also at z, which is none of them -/
theorem dv_datesOf' (f : κ → Int) {z : κ} {labs : List κ} (hz : z ∉ labs) {m : κ} (h : m ∈ labs ++ [z]) : dv (datesOf f z labs) m = f m - f z := by
  rcases (List.mem_append.mp h) with h | h
  · exact dv_datesOf f z labs m h
  · rw [List.mem_singleton.mp h, dv_out _ _ (by rw [datesOf_keys]; exact hz)]; omega

/-- a calendar within e .. l: its moments labs, the fixed day z -/
structure Cal (e l : Int) (z : κ) (labs : List κ) (cs : List (Cls κ)) : Prop where
  nz : z ∉ labs
  mem : ∀ c ∈ cs, c.one ∈ labs ++ [z] ∧ c.other ∈ labs ++ [z]
  bd : ∀ m ∈ labs, (∃ n, n ≤ l ∧ (⟨m, z, n⟩ : Cls κ) ∈ cs) ∧ ∃ n, n ≤ -e ∧ (⟨z, m, n⟩ : Cls κ) ∈ cs

variable {e l : Int} {z : κ} {labs : List κ} {cs : List (Cls κ)}
/-- all days that keep the clauses lie within -/
theorem Cal.within (C : Cal e l z labs cs) {d : Dt κ} (hk : d.map (·.1) = labs) (hd : keeps cs d = true) (nd : labs.Nodup) : d ∈ allD e l labs := by
  refine (mem_allD labs.length labs d rfl).mpr ⟨hk, fun x hx => ?_⟩
  have hm : x.1 ∈ labs := by rw [← hk]; exact List.mem_map.mpr ⟨x, hx, rfl⟩
  have hv : dv d x.1 = x.2 := by
    rw [← hk] at nd
    clear hk hm C hd
    induction d with
    | nil => simp at hx
    | cons y r ih =>
      obtain ⟨k, n⟩ := y
      show (if x.1 = k then n else dv r x.1) = x.2; rw [List.map_cons, List.nodup_cons] at nd
      rcases List.mem_cons.mp hx with q | q
      · rw [q, if_pos rfl]
      · rw [if_neg, ih nd.2 q]
        rintro rfl
        exact nd.1 (List.mem_map.mpr ⟨x, q, rfl⟩)
  have hz : dv d z = 0 := dv_out d z (by rw [hk]; exact C.nz)
  obtain ⟨⟨n1, a1, b1⟩, n2, a2, b2⟩ := C.bd x.1 hm
  have c1 := keeps_iff.mp hd _ b1
  have c2 := keeps_iff.mp hd _ b2
  simp only [hv, hz] at c1 c2
  omega
/-- the clauses with those of the asked number -/
theorem apart_mem {C : Cal e l z labs cs} {p q : κ} (hp : p ∈ labs ++ [z]) (hq : q ∈ labs ++ [z]) (n : Int) : ∀ c ∈ cs ++ apart p q n, c.one ∈ labs ++ [z] ∧ c.other ∈ labs ++ [z] := fun c hcz => by
  rcases List.mem_append.mp hcz with hz | hz
  · exact C.mem c hz
  · unfold apart at hz
    simp only [List.mem_cons, List.not_mem_nil, or_false] at hz
    rcases hz with rfl | rfl
    · exact ⟨hp, hq⟩
    · exact ⟨hq, hp⟩
/-- days that keep the clauses are dates -/
theorem kept_dates {f : κ → Int} (hz : z ∉ labs) (hm : ∀ c ∈ cs, c.one ∈ labs ++ [z] ∧ c.other ∈ labs ++ [z]) (h : ∀ c ∈ cs, f c.one ≤ f c.other + c.num) : keeps cs (datesOf f z labs) = true := by
  refine keeps_iff.mpr fun c hc => ?_
  obtain ⟨h1, h2⟩ := hm c hc
  have := h c hc
  rw [dv_datesOf' f hz h1, dv_datesOf' f hz h2]
  omega
/-- a calendar that some days keep has no ring -/
theorem no_ring (hm : ∀ c ∈ cs, c.one ∈ labs ++ [z] ∧ c.other ∈ labs ++ [z]) {d : Dt κ} (hd : keeps cs d = true) {n : Nat} (hn : n = (labs ++ [z]).length + 1) : (rounds cs n).ch = none := by
  subst hn
  cases e : (rounds cs ((labs ++ [z]).length + 1)).ch with
  | none => rfl
  | some v => exact (no_dates hm e (dv d) (keeps_iff.mp hd)).elim
/-- the number is due exactly if there is no ring -/
theorem due_iff (C : Cal e l z labs cs) (nd : labs.Nodup) {p q : κ} (hp : p ∈ labs ++ [z]) (hq : q ∈ labs ++ [z]) (a b n : Int) {k : Nat} (hk : k = (labs ++ [z]).length + 1) :
    (∃ d ∈ (allD e l labs).filter (keeps cs), dv d p + a - dv d q - b = n) ↔ (rounds (cs ++ apart p q (n + b - a)) k).ch = none := by
  subst hk
  have hm := apart_mem (C := C) hp hq (n + b - a)
  constructor
  · rintro ⟨d, hd, e1⟩
    obtain ⟨_, h2⟩ := List.mem_filter.mp hd
    refine no_ring hm (d := d) (keeps_iff.mpr fun c hcz => ?_) rfl
    rcases List.mem_append.mp hcz with hz | hz
    · exact keeps_iff.mp h2 c hz
    · unfold apart at hz
      simp only [List.mem_cons, List.not_mem_nil, or_false] at hz
      rcases hz with rfl | rfl
      · show dv d p ≤ dv d q + (n + b - a); omega
      · show dv d q ≤ dv d p + -(n + b - a); omega
  · intro hz
    have hf := kept_of_none hz
    have h1 := kept_dates C.nz hm hf
    generalize (rounds (cs ++ apart p q (n + b - a)) ((labs ++ [z]).length + 1)).f = f at hf h1
    have h2 : keeps cs (datesOf f z labs) = true := keeps_iff.mpr fun c hcz => keeps_iff.mp h1 c (List.mem_append_left _ hcz)
    refine ⟨datesOf f z labs, List.mem_filter.mpr ⟨C.within (datesOf_keys _ _ _) h2 nd, h2⟩, ?_⟩
    have e1 := hf ⟨p, q, n + b - a⟩ (List.mem_append_right _ (by simp [apart]))
    have e2 := hf ⟨q, p, -(n + b - a)⟩ (List.mem_append_right _ (by simp [apart]))
    rw [dv_datesOf' f C.nz hp, dv_datesOf' f C.nz hq]
    simp only at e1 e2
    omega
/-- what is handed back keeps the clauses, and has the number -/
theorem with_ok (C : Cal e l z labs cs) {p q : κ} (hp : p ∈ labs ++ [z]) (hq : q ∈ labs ++ [z]) (a b n : Int) {k : Nat} (h : (rounds (cs ++ apart p q (n + b - a)) (k + 1)).ch = none) :
    keeps cs (datesOf (rounds (cs ++ apart p q (n + b - a)) (k + 1)).f z labs) = true ∧
      dv (datesOf (rounds (cs ++ apart p q (n + b - a)) (k + 1)).f z labs) p + a - dv (datesOf (rounds (cs ++ apart p q (n + b - a)) (k + 1)).f z labs) q - b = n := by
  have hm := apart_mem (C := C) hp hq (n + b - a)
  have hf := kept_of_none h
  have h1 := kept_dates C.nz hm hf
  generalize (rounds (cs ++ apart p q (n + b - a)) (k + 1)).f = f at hf h1
  refine ⟨keeps_iff.mpr fun c hc => keeps_iff.mp h1 c (List.mem_append_left _ hc), ?_⟩
  have e1 := hf ⟨p, q, n + b - a⟩ (List.mem_append_right _ (by simp [apart]))
  have e2 := hf ⟨q, p, -(n + b - a)⟩ (List.mem_append_right _ (by simp [apart]))
  rw [dv_datesOf' f C.nz hp, dv_datesOf' f C.nz hq]
  simp only at e1 e2
  omega
end
end Ld
/-! # LdData -/
/-! What stands in the heap: clauses, calendars, dates; sorted texts. -/
namespace LdP
open PySem PySem.Spec PyProof.Rows L2 Evl
abbrev Cl : Type := Ld.Cls Str
def day : Str := "day"
def clO (c : Cl) : HO := .tup [.str c.one, .str c.other, .int c.num]
def ClP (H : Hp) : List Addr → List Cl → Prop := Paired fun t c => H t = some (clO c)
def ClsAt (H : Hp) (a : Addr) (cs : List Cl) : Prop := ∃ ts : List Addr, H a = some (.lst (ts.map V.ref)) ∧ ClP H ts cs
theorem ClP.ex {H H' : Hp} (e : Ex H H') : ∀ {ts : List Addr} {cs : List Cl}, ClP H ts cs → ClP H' ts cs
  | _, _, .nil => .nil
  | _, _, .cons h t => .cons (e _ _ h) (ClP.ex e t)
theorem ClsAt.ex {H H' : Hp} {a : Addr} {cs : List Cl} (e : Ex H H') (h : ClsAt H a cs) : ClsAt H' a cs := let ⟨ts, h1, h2⟩ := h; ⟨ts, e _ _ h1, h2.ex e⟩
theorem paired_get {α β : Type} {F : α → β → Prop} : ∀ {xs : List α} {ys : List β} {i : Nat} {x : α}, Paired F xs ys → xs[i]? = some x → ∃ y, ys[i]? = some y ∧ F x y
  | _, _, _, _, .nil, h => by simp at h
  | _, _, 0, x, .cons h _, e => by
    have := Option.some.inj e
    subst this
    exact ⟨_, rfl, h⟩
  | _, _, i + 1, x, .cons _ t, e => paired_get (i := i) t e
theorem paired_get' {α β : Type} {F : α → β → Prop} : ∀ {xs : List α} {ys : List β} {i : Nat} {y : β}, Paired F xs ys → ys[i]? = some y → ∃ x, xs[i]? = some x ∧ F x y
  | _, _, _, _, .nil, h => by simp at h
  | _, _, 0, x, .cons h _, e => by
    have := Option.some.inj e
    subst this
    exact ⟨_, rfl, h⟩
  | _, _, i + 1, x, .cons _ t, e => paired_get' (i := i) t e
theorem paired_len {α β : Type} {F : α → β → Prop} {xs : List α} {ys : List β} (h : Paired F xs ys) : xs.length = ys.length := Paired.length h
theorem paired_take {α β : Type} {F : α → β → Prop} : ∀ (n : Nat) {xs : List α} {ys : List β}, Paired F xs ys → Paired F (xs.take n) (ys.take n)
  | 0, _, _, _ => .nil
  | _ + 1, _, _, .nil => .nil
  | n + 1, _, _, .cons h t => .cons h (paired_take n t)
theorem paired_app {α β : Type} {F : α → β → Prop} : ∀ {xs xs' : List α} {ys ys' : List β}, Paired F xs ys → Paired F xs' ys' → Paired F (xs ++ xs') (ys ++ ys')
  | _, _, _, _, .nil, h => h
  | _, _, _, _, .cons h t, h' => .cons h (paired_app t h')

/-! ### clauses as data -/
def dC (c : Cl) : PyData := .tuple [.str c.one, .str c.other, .int c.num]
theorem dp_cl {K : PySem.W.Frag} {H : Hp} {t : Addr} {c : Cl} (h : H t = some (clO c)) : Dp K H (.ref t) (dC c) := .tup (SqT.of h) (.cons (.str _) (.cons (.str _) (.cons (.int _) .nil)))
theorem dp_cls {K : PySem.W.Frag} {H : Hp} : ∀ {ts : List Addr} {cs : List Cl}, ClP H ts cs → DpAll K H (ts.map V.ref) (cs.map dC)
  | _, _, .nil => .nil
  | _, _, .cons h t => .cons (dp_cl h) (dp_cls t)
theorem eqv_dC (a b : Cl) : PyData.eqv (dC a) (dC b) = decide (a = b) := by
  obtain ⟨a1, a2, a3⟩ := a
  obtain ⟨b1, b2, b3⟩ := b
  unfold dC
  simp only [PyData.eqv, PyData.eqvAll, Bool.and_true, Ld.Cls.mk.injEq]
  by_cases h1 : a1 = b1 <;> by_cases h2 : a2 = b2 <;> by_cases h3 : a3 = b3 <;> simp [h1, h2, h3]
/-- texts that may be laid -/
def ClS (c : Cl) : Prop := PyData.strOk c.one = true ∧ PyData.strOk c.other = true
theorem can_dC {c : Cl} (h : ClS c) : PyData.canLay0 (dC c) = true := by
  unfold dC
  simp only [PyData.canLay0, PyData.canLayAll0, h.1, h.2, Bool.and_self]
theorem dep_dC (c : Cl) : PyData.depth (dC c) = 1 := by
  unfold dC; simp only [PyData.depth, PyData.depthAll]
  rfl
theorem shaped_dC {c : Cl} (h : ClS c) : SeqAt.shaped (dC c) = true := by
  unfold SeqAt.shaped
  rw [can_dC h, dep_dC]
  rfl
theorem canAll_dC : ∀ {cs : List Cl}, (∀ c ∈ cs, ClS c) → PyData.canLayAll0 (cs.map dC) = true
  | [], _ => rfl
  | c :: cs, h => by
    have h2 : PyData.canLayAll0 (cs.map dC) = true := canAll_dC fun d hd => h d (List.mem_cons_of_mem _ hd)
    simp only [List.map_cons, PyData.canLayAll0, can_dC (h c (by simp)), h2, Bool.and_self]
theorem depAll_dC : ∀ (cs : List Cl), PyData.depthAll (cs.map dC) ≤ 1
  | [] => by simp only [List.map_nil, PyData.depthAll]; decide
  | c :: cs => by
    simp only [List.map_cons, PyData.depthAll, dep_dC]
    have := depAll_dC cs
    omega
theorem shaped_cls {cs : List Cl} (h : ∀ c ∈ cs, ClS c) : SeqAt.shaped (.list (cs.map dC)) = true := by
  unfold SeqAt.shaped
  have h1 : PyData.canLay0 (.list (cs.map dC)) = true := by
    simp only [PyData.canLay0]
    exact canAll_dC h
  have h2 : PyData.depth (.list (cs.map dC)) ≤ 64 := by
    simp only [PyData.depth]
    have := depAll_dC cs
    omega
  rw [h1, decide_eq_true h2]
  rfl
theorem any_dC (c : Cl) (cs : List Cl) : ((cs.map dC).any fun z => PyData.eqv z (dC c)) = decide (c ∈ cs) := by
  rw [List.any_map]
  by_cases h : c ∈ cs
  · rw [decide_eq_true h, List.any_eq_true]
    exact ⟨c, h, by show PyData.eqv (dC c) (dC c) = true; rw [eqv_dC]; simp⟩
  · rw [decide_eq_false h, List.any_eq_false]
    intro y hy e
    have e2 : PyData.eqv (dC y) (dC c) = true := e
    rw [eqv_dC] at e2
    exact h (of_decide_eq_true e2 ▸ hy)
theorem rv_inC {K : PySem.W.Frag} {H : Hp} {t p : Addr} {c : Cl} {ts : List Addr} {cs : List Cl} (h : H t = some (clO c)) (hp : H p = some (.lst (ts.map V.ref))) (hc : ClP H ts cs) (s1 : ClS c) (s2 : ∀ c ∈ cs, ClS c) :
    RV (rInD K) (.ref t) (.ref p) H (.bl (decide (c ∈ cs))) := fun H1 e1 Q q => ⟨dC c, cs.map dC, dp_cl (e1 _ _ h), .lst (SqL.of (e1 _ _ hp)) (dp_cls (hc.ex e1)), shaped_dC s1, shaped_cls s2, by
    rw [any_dC]
    exact q H1 (Ex.refl H1)⟩
theorem rv_ninC {K : PySem.W.Frag} {H : Hp} {t p : Addr} {c : Cl} {ts : List Addr} {cs : List Cl} (h : H t = some (clO c)) (hp : H p = some (.lst (ts.map V.ref))) (hc : ClP H ts cs) (s1 : ClS c) (s2 : ∀ c ∈ cs, ClS c) :
    RV (rNotInD K) (.ref t) (.ref p) H (.bl (!decide (c ∈ cs))) := fun H1 e1 Q q => ⟨dC c, cs.map dC, dp_cl (e1 _ _ h), .lst (SqL.of (e1 _ _ hp)) (dp_cls (hc.ex e1)), shaped_dC s1, shaped_cls s2, by
    rw [any_dC]
    exact q H1 (Ex.refl H1)⟩
theorem cutV_take (xs : List V) {i : Nat} (h : i ≤ xs.length) : cutV xs none (some (i : Int)) = xs.take i := by
  unfold cutV
  rw [HT.sIx_none, show HT.sIx xs.length xs.length (some (i : Int)) = min i xs.length from HT.sIx_nat xs.length xs.length i]
  rw [Nat.min_eq_left h]
  simp

/-! ### sorted texts -/
def Srt (xs ys : List Str) : Prop := ys.Perm xs ∧ sortedS ys = true
theorem pairwise_of_rising : ∀ (l : List Str) (p : Str), risingS p l = true → (p :: l).Pairwise (fun a b => a.cps.toList ≤ b.cps.toList)
  | [], p, _ => by simp
  | x :: r, p, h => by
    have h1 : (!ltCps x.cps.toList p.cps.toList && risingS x r) = true := h
    rw [Bool.and_eq_true] at h1
    have ih := pairwise_of_rising r x h1.2
    have hx : p.cps.toList ≤ x.cps.toList := by
      have := h1.1
      rw [ltCps_eq] at this
      have h2 : ¬ x.cps.toList < p.cps.toList := by simpa using this
      exact List.not_lt.mp h2
    refine List.pairwise_cons.mpr ⟨fun y hyz => ?_, ih⟩
    rcases List.mem_cons.mp hyz with rfl | hyz
    · exact hx
    · exact List.le_trans hx ((List.pairwise_cons.mp ih).1 y hyz)
theorem pairwise_of_sorted : ∀ {l : List Str}, sortedS l = true → l.Pairwise (fun a b => a.cps.toList ≤ b.cps.toList)
  | [], _ => by simp
  | x :: r, h => pairwise_of_rising r x h
theorem str_ext {x y : Str} (h : x.cps.toList = y.cps.toList) : x = y := by
  obtain ⟨⟨a⟩⟩ := x
  obtain ⟨⟨b⟩⟩ := y
  have e : a = b := h
  rw [e]
theorem sorted_unique {xs ys : List Str} (hp : xs.Perm ys) (hx : xs.Pairwise (fun a b => a.cps.toList ≤ b.cps.toList)) (hy : ys.Pairwise (fun a b => a.cps.toList ≤ b.cps.toList)) : xs = ys :=
  hp.eq_of_pairwise (fun x y _ _ h1 h2 => str_ext (List.le_antisymm h1 h2)) hx hy
theorem Srt.unique {xs ys zs : List Str} (a : Srt xs ys) (b : Srt xs zs) : ys = zs := sorted_unique (a.1.trans b.1.symm) (pairwise_of_sorted a.2) (pairwise_of_sorted b.2)
end LdP
/-! # LdDict -/
/-! Dicts: what evaluates to what. -/
namespace LdP
open PySem PySem.Spec PyProof.Rows L2 Evl
section
variable {K : PySem.W.Frag} {σ : L2.St} {H H' : Hp} {ta tb tc te td ty tv : TE} {t u : TT} {x y z v : V} {D : Ends} {tu tz : TS} {g : TG}
/-- to a new dict -/
def EvD (te : TE) (σ : L2.St) (H : Hp) (kvs : List (Key × V)) : Prop := ∀ H1, Ex H H1 → ∀ Q : VK, (∀ p H2, H1 p = none → Ex H1 H2 → H2 p = some (.dK kvs) → Q (.ref p) H2) → te σ H1 Q
theorem ev_dget {a : Addr} {kvs : List (Key × V)} {k : Key} (hd : Ev td σ H (.ref a)) (hk : Ev ty σ H (kV k)) (ha : H a = some (.dK kvs)) (hv : valV kvs k = some v) : Ev (tDGet td ty) σ H v := fun H1 e Q q =>
  hd H1 e _ fun H2 e2 => hk H2 (e.trans e2) _ fun H3 e3 => ⟨a, v, rfl, by rw [← hv]; exact DGet.k (((e.trans e2).trans e3) _ _ ha), q H3 (e2.trans e3)⟩
theorem q_dput {a : Addr} {kvs : List (Key × V)} {k : Key} (hv : Ev tv σ H v) (hd : Ev td σ H (.ref a)) (hk : Ev ty σ H (kV k)) (ha : H a = some (.dK kvs)) (hl : kvs.length < 100000) (q : ∀ H1, Ex H H1 → tz D σ (upd H1 a (.dK (putK kvs k v)))) : tSeq (sDPut td ty tv) tz D σ H :=
  hv H (Ex.refl H) _ fun H1 e1 => hd H1 e1 _ fun H2 e2 => hk H2 (e1.trans e2) _ fun H3 e3 => ⟨a, _, rfl, DPut.k (((e1.trans e2).trans e3) _ _ ha) (sz_lt hl), q H3 ((e1.trans e2).trans e3)⟩
theorem ev_lenD {a : Addr} {kvs : List (Key × V)} (hd : Ev td σ H (.ref a)) (ha : H a = some (.dK kvs)) : Ev (tCB (fun xs H Q => ∃ a kvs, xs = [V.ref a] ∧ H a = some (.dK kvs) ∧ Q (.int kvs.length) H) (tCons td tNil)) σ H (.int (kvs.length : Nat)) :=
  ev_cb (ea_cons hd ea_nil) fun H1 e1 Q q => ⟨a, kvs, rfl, e1 _ _ ha, q H1 (Ex.refl H1)⟩
theorem q_asgD {i : Nat} {kvs : List (Key × V)} (h : EvD te σ H kvs) (k : ∀ p H1, H p = none → Ex H H1 → H1 p = some (.dK kvs) → tz D (σ.set i (some (.ref p))) H1) : tSeq (tAsg te (gName i)) tz D σ H := h H (Ex.refl H) _ fun p H1 hp e h1 => k p H1 hp e h1
theorem q_fldD {a C dx : Addr} {fs : List (Str × V)} {f : Str} {kvs : List (Key × V)} (hv : EvD te σ H kvs) (ho : Ev ta σ H (.ref a)) (ha : H a = some (.ins C dx fs)) (c : Cls K C) (n : NoAttr K C f) (hl : fs.length < 1000)
    (k : ∀ p H1, H p = none → Ex H H1 → H1 p = some (.dK kvs) → tz D σ (upd H1 a (.ins C dx (putF f (.ref p) fs)))) :
    tSeq (sFld K ta te f) tz D σ H := hv H (Ex.refl H) _ fun p H1 hp e1 h1 => ho H1 e1 _ fun H2 e2 => ⟨a, C, dx, fs, rfl, (e1.trans e2) _ _ ha, c, n, hl, k p H2 hp (e1.trans e2) (e2 _ _ h1)⟩
theorem ed_new : EvD tDNewK σ H [] := fun H1 e Q q p hp => q p _ hp (Ex.new hp) upd_same
/-- sorted(d), the keys texts -/
theorem el_sortedD {a : Addr} {kvs : List (Key × V)} {ks ys : List Str} (hd : Ev td σ H (.ref a)) (ha : H a = some (.dK kvs)) (hk : kvs.map (·.1) = ks.map Sum.inr) (h64 : ks.length < 64) (hu : ∀ zs : List Str, zs.Perm ks → sortedS zs = true → zs = ys) :
    EvL (tCB (fun xs H Q => ∃ (a : Addr) (kvs : List (Key × V)) (ks : List Str), xs = [.ref a] ∧ Rd H a (.dK kvs) ∧ kvs.map (·.1) = ks.map Sum.inr ∧ ks.length < 64 ∧ ∀ ys p, ys.Perm ks → sortedS ys = true → H p = none → Q (.ref p) (upd H p (.lst (ys.map V.str)))) (tCons td tNil)) σ H (ys.map V.str) := fun H1 e Q q =>
  hd H1 e _ fun H2 e2 => ⟨a, kvs, ks, rfl, .inl (e2 _ _ (e _ _ ha)), hk, h64, fun zs p h1 h2 hp => by
    rw [hu zs h1 h2]
    exact q p _ (fresh_back e2 hp) (e2.trans (Ex.new hp)) upd_same⟩

/-! ### dict comprehensions whose keys and values are known -/
def givenD (n : Nat) (f : Nat → Bool) (k : Nat → Str) (v : Nat → V) : List (Key × V) := ((List.range n).filter f).map fun i => (Sum.inr (k i), v i)
theorem givenD_yes {n : Nat} {f : Nat → Bool} {k : Nat → Str} {v : Nat → V} (h : f n = true) : givenD (n + 1) f k v = givenD n f k v ++ [(Sum.inr (k n), v n)] := by
  unfold givenD; rw [List.range_succ, List.filter_append, List.map_append, List.filter_cons, if_pos h] <;> rfl
theorem givenD_no {n : Nat} {f : Nat → Bool} {k : Nat → Str} {v : Nat → V} (h : f n = false) : givenD (n + 1) f k v = givenD n f k v := by
  unfold givenD
  rw [List.range_succ, List.filter_append, List.map_append, List.filter_cons, if_neg (by rw [h]; decide)]; show _ ++ [] = _
  rw [List.append_nil]
theorem givenD_len (n : Nat) (f : Nat → Bool) (k : Nat → Str) (v : Nat → V) : (givenD n f k v).length ≤ n := by
  unfold givenD
  rw [List.length_map]
  have hz := List.length_filter_le f (List.range n)
  rw [List.length_range] at hz
  exact hz
theorem givenD_none {n : Nat} {f : Nat → Bool} {k : Nat → Str} {v : Nat → V} {m : Str} (h : ∀ i, i < n → f i = true → k i ≠ m) : valV (givenD n f k v) (Sum.inr m) = none := by
  unfold valV
  rw [List.find?_eq_none.mpr]
  · rfl
  · intro p hp e
    unfold givenD at hp
    obtain ⟨i, hi, rfl⟩ := List.mem_map.mp hp
    obtain ⟨h1, h2⟩ := List.mem_filter.mp hi
    have e2 : (Sum.inr (k i) : Key) = Sum.inr m := of_decide_eq_true e
    exact h i (List.mem_range.mp h1) h2 (Sum.inr.inj e2)
def Cwd (H : Hp) (f : Nat → Bool) (k : Nat → Str) (v : Nat → V) (Dl : Addr) (i : Nat) (H' : Hp) : Prop := H Dl = none ∧ Ex H H' ∧ H' Dl = some (.dK (givenD i f k v))
theorem cwd_turn {H H' : Hp} {f : Nat → Bool} {k : Nat → Str} {v : Nat → V} {Dl : Addr} {i : Nat} {σ2 : L2.St} {tk : TE} (p : Cwd H f k v Dl i H') (hi : i < 50000) (hnd : ∀ j, j < i → f j = true → f i = true → k j ≠ k i) (ht : EvT t σ2 H (f i)) (hk : f i = true → Ev tk σ2 H (.str (k i))) (hv : f i = true → Ev tv σ2 H (v i)) :
    t σ2 H' fun b H3 => if b = true then tk σ2 H3 fun y H4 => tv σ2 H4 fun z H5 => ∃ kvs k', y = kV k' ∧ H5 Dl = some (.dK kvs) ∧ kvs.length < sizeLine ∧ Cwd H f k v Dl (i + 1) (upd H5 Dl (.dK (putK kvs k' z))) else Cwd H f k v Dl (i + 1) H3 := by
  obtain ⟨p1, p2z, p3⟩ := p
  refine ht H' p2z _ fun H3 e3z => ?_
  cases hf : f i with
  | true =>
    refine iteT ?_
    refine hk hf H3 (p2z.trans e3z) _ fun H4 e4 => hv hf H4 ((p2z.trans e3z).trans e4) _ fun H5 e5 => ⟨givenD i f k v, Sum.inr (k i), rfl, e5 _ _ (e4 _ _ (e3z _ _ p3)), sz_lt (by have := givenD_len i f k v; omega), p1, Ex.mut (((p2z.trans e3z).trans e4).trans e5) p1, ?_⟩
    rw [upd_same, givenD_yes hf, putK_new _ (givenD_none fun j hj hfj => hnd j hj hfj hf)]
  | false =>
    refine iteF ⟨p1, p2z.trans e3z, ?_⟩
    rw [givenD_no hf]
    exact e3z _ _ p3
/-- over a walk -/
theorem dc_it {J : It} {n : Nat} {G : Hp → Prop} {Y : Nat → Hp → V → Hp → Prop} (w : Walk J n G Y) {g : TG} {tt : TT} {tk tv : TE} {vs : List Nat} {σ : L2.St} {H1 : Hp} {D : Addr} {Qd : Hp → Prop} (Pv : Nat → Hp → Prop) (h0 : Pv 0 (upd H1 D (.dK []))) (hG : ∀ i H, i ≤ n → Pv i H → G H) (hs : ∀ i x H H', i < n → Pv i H → Y i H x H' → g x (wipe σ vs) H' fun σ2 H2 => wipe σ2 vs = wipe σ vs ∧ tt σ2 H2 fun b H3 => if b = true then tk σ2 H3 fun y H4 => tv σ2 H4 fun z H5 => ∃ kvs k, y = kV k ∧ H5 D = some (.dK kvs) ∧ kvs.length < sizeLine ∧ Pv (i + 1) (upd H5 D (.dK (putK kvs k z))) else Pv (i + 1) H3) (hd : ∀ H, Pv n H → Qd H) : ∃ W : Nat → Nat → Hp → Prop, (∃ m, W 0 m (upd H1 D (.dK []))) ∧ ∀ i m H, W i m H → (J.stop i H ∧ Qd H) ∨ (J.go i H ∧ ∃ Nx : Hp → Prop, (∀ H', Nx H' → ∃ m', m' < m ∧ W (i + 1) m' H') ∧ ∀ x H', J.yld i H x H' → g x (wipe σ vs) H' fun σ2 H2 => wipe σ2 vs = wipe σ vs ∧ tt σ2 H2 fun b H3 => if b = true then tk σ2 H3 fun y H4 => tv σ2 H4 fun z H5 => ∃ kvs k, y = kV k ∧ H5 D = some (.dK kvs) ∧ kvs.length < sizeLine ∧ Nx (upd H5 D (.dK (putK kvs k z))) else Nx H3) := by
  refine ⟨fun i m H => m + i = n ∧ Pv i H, ⟨n, by omega, h0⟩, ?_⟩
  rintro i m H ⟨hm, p⟩
  have qz := hG i H (by omega) p
  by_cases hlt : i < n
  · refine .inr ⟨w.goes i H hlt qz, Pv (i + 1), fun H' p' => ⟨n - (i + 1), by omega, by omega, p'⟩, fun x H' y => ?_⟩
    exact hs i x H H' hlt p (w.yields i H x H' hlt qz y)
  · have e : i = n := by omega
    subst e
    exact .inl ⟨w.stops H qz, hd H p⟩
/-- {k: v for x in xs if ..}, xs a list of texts; a new list -/
theorem ed_dcL {a : Addr} {zs : List Str} {tl tk : TE} {j : Nat} {vs : List Nat} (f : Nat → Bool) (k : Nat → Str) (v : Nat → V) (h : Ev tl σ H (.ref a)) (hx : H a = some (.lst (zs.map V.str))) (hz : zs.length ≤ 40000) (hw : ∀ x, wipe ((wipe σ vs).set j (some x)) vs = wipe σ vs)
    (hnd : ∀ i i', i < i' → i' < zs.length → f i = true → f i' = true → k i ≠ k i')
    (ht : ∀ (i : Nat) (x : Str) H1, Ex H H1 → zs[i]? = some x → EvT t ((wipe σ vs).set j (some (.str x))) H1 (f i)) (hk : ∀ (i : Nat) (x : Str) H1, Ex H H1 → zs[i]? = some x → f i = true → Ev tk ((wipe σ vs).set j (some (.str x))) H1 (.str (k i)))
    (hv : ∀ (i : Nat) (x : Str) H1, Ex H H1 → zs[i]? = some x → f i = true → Ev tv ((wipe σ vs).set j (some (.str x))) H1 (v i)) :
    EvD (tDc (iList K tl) (gName j) t tk tv vs) σ H (givenD zs.length f k v) := fun H0 e Q q => h H0 e _ fun H1 e1 => ⟨a, rfl, ⟨_, sq_of (e1 _ _ (e _ _ hx))⟩, fun Dl hD =>
  dc_it (walk_list (xs := zs.map V.str)) (Cwd H1 f k v Dl) ⟨hD, Ex.new hD, upd_same⟩ (fun i H' _ p => sq_of (p.2.1 _ _ (e1 _ _ (e _ _ hx)))) (fun i x H' H'' hi p hY => by
    obtain ⟨rfl, hy⟩ := hY
    rw [List.length_map] at hi
    obtain ⟨s, hs, rfl⟩ : ∃ s, zs[i]? = some s ∧ x = .str s := by
      rw [List.getElem?_map, List.getElem?_eq_getElem hi] at hy
      exact ⟨zs[i], List.getElem?_eq_getElem hi, (Option.some.inj hy).symm⟩
    exact ⟨hw _, cwd_turn p (by omega) (fun j' hj hfj hfi => hnd j' i hj hi hfj hfi) (ht i s H1 (e.trans e1) hs) (hk i s H1 (e.trans e1) hs) (hv i s H1 (e.trans e1) hs)⟩) (fun H' p => by
    rw [List.length_map] at p
    exact q Dl H' (fresh_back e1 p.1) (e1.trans p.2.1) p.2.2)⟩
theorem ed_dcNL {zs : List Str} {tl tk : TE} {j : Nat} {vs : List Nat} (f : Nat → Bool) (k : Nat → Str) (v : Nat → V) (h : EvL tl σ H (zs.map V.str)) (hz : zs.length ≤ 40000) (hw : ∀ x, wipe ((wipe σ vs).set j (some x)) vs = wipe σ vs)
    (hnd : ∀ i i', i < i' → i' < zs.length → f i = true → f i' = true → k i ≠ k i')
    (ht : ∀ (i : Nat) (x : Str) H1, Ex H H1 → zs[i]? = some x → EvT t ((wipe σ vs).set j (some (.str x))) H1 (f i)) (hk : ∀ (i : Nat) (x : Str) H1, Ex H H1 → zs[i]? = some x → f i = true → Ev tk ((wipe σ vs).set j (some (.str x))) H1 (.str (k i)))
    (hv : ∀ (i : Nat) (x : Str) H1, Ex H H1 → zs[i]? = some x → f i = true → Ev tv ((wipe σ vs).set j (some (.str x))) H1 (v i)) :
    EvD (tDc (iList K tl) (gName j) t tk tv vs) σ H (givenD zs.length f k v) := fun H0 e Q q => h H0 e _ fun a H1 ha e1 hx =>
  ⟨a, rfl, ⟨_, sq_of hx⟩, fun Dl hD =>
  dc_it (walk_list (xs := zs.map V.str)) (Cwd H1 f k v Dl) ⟨hD, Ex.new hD, upd_same⟩ (fun i H' _ p => sq_of (p.2.1 _ _ hx)) (fun i x H' H'' hi p hY => by
    obtain ⟨rfl, hy⟩ := hY
    rw [List.length_map] at hi
    obtain ⟨s, hs, rfl⟩ : ∃ s, zs[i]? = some s ∧ x = .str s := by
      rw [List.getElem?_map, List.getElem?_eq_getElem hi] at hy
      exact ⟨zs[i], List.getElem?_eq_getElem hi, (Option.some.inj hy).symm⟩
    exact ⟨hw _, cwd_turn p (by omega) (fun j' hj hfj hfi => hnd j' i hj hi hfj hfi) (ht i s H1 (e.trans e1) hs) (hk i s H1 (e.trans e1) hs) (hv i s H1 (e.trans e1) hs)⟩) (fun H' p => by
    rw [List.length_map] at p
    exact q Dl H' (fresh_back e1 p.1) (e1.trans p.2.1) p.2.2)⟩
end
/-! ### days by moments -/
def kvF (ks : List Str) (f : Str → Int) : List (Key × V) := ks.map fun m => (Sum.inr m, V.int (f m))
theorem kvF_len (ks : List Str) (f : Str → Int) : (kvF ks f).length = ks.length := List.length_map _
theorem kvF_val {ks : List Str} {f : Str → Int} {m : Str} (h : m ∈ ks) : valV (kvF ks f) (Sum.inr m) = some (V.int (f m)) := by
  induction ks with
  | nil => simp at h
  | cons k r ih =>
    by_cases e : k = m
    · subst e
      exact valV_pos (p := (Sum.inr k, V.int (f k))) rfl
    · rcases List.mem_cons.mp h with q | q
      · exact absurd q.symm e
      · have e2 : ¬ ((Sum.inr k, V.int (f k)) : Key × V).1 = Sum.inr m := fun z => e (Sum.inr.inj z)
        show valV ((Sum.inr k, V.int (f k)) :: kvF r f) (Sum.inr m) = _
        rw [valV_neg e2]
        exact ih q
theorem kvF_put {ks : List Str} {f : Str → Int} {m : Str} {n : Int} (h : m ∈ ks) : putK (kvF ks f) (Sum.inr m) (V.int n) = kvF ks (Ld.up f m n) := by
  unfold putK
  rw [valV_any, kvF_val h, if_pos (show (some (V.int (f m))).isSome = true from rfl)]
  unfold kvF
  rw [List.map_map]
  refine List.map_congr_left fun kz _ => ?_
  show (if (Sum.inr kz : Key) = Sum.inr m then ((Sum.inr kz : Key), V.int n) else (Sum.inr kz, V.int (f kz))) = _
  by_cases e : kz = m
  · subst e
    rw [if_pos rfl, Ld.up_same]
  · rw [if_neg fun z => e (Sum.inr.inj z), Ld.up_ne e]
theorem kvF_keys (ks : List Str) (f : Str → Int) : (kvF ks f).map (·.1) = ks.map Sum.inr := by
  unfold kvF
  rw [List.map_map]
  rfl
/-- the last clauses, by the dict that holds them -/
def LastP (H : Hp) (kvs : List (Key × V)) (L : Str → Option Cl) : Prop := ∀ m, match L m with
  | none => valV kvs (Sum.inr m) = none
  | some c => ∃ t : Addr, valV kvs (Sum.inr m) = some (.ref t) ∧ H t = some (clO c)
theorem LastP.ex {H H' : Hp} {kvs : List (Key × V)} {L : Str → Option Cl} (e : Ex H H') (h : LastP H kvs L) : LastP H' kvs L := fun m => by
  have := h m
  split at this
  · exact this
  · obtain ⟨t, h1, h2⟩ := this
    exact ⟨t, h1, e _ _ h2⟩
theorem LastP.put {H : Hp} {kvs : List (Key × V)} {L : Str → Option Cl} {k : Str} {c : Cl} {t : Addr} (h : LastP H kvs L) (ht : H t = some (clO c)) : LastP H (putK kvs (Sum.inr k) (.ref t)) (Ld.up L k (some c)) := fun m => by
  rw [valV_put]
  by_cases e : m = k
  · subst e
    rw [Ld.up_same, if_pos rfl]
    exact ⟨t, rfl, ht⟩
  · rw [Ld.up_ne e, if_neg fun z => e (Sum.inr.inj z)]
    exact h m
theorem LastP.get {H : Hp} {kvs : List (Key × V)} {L : Str → Option Cl} {m : Str} {c : Cl} (h : LastP H kvs L) (hm : L m = some c) : ∃ t : Addr, valV kvs (Sum.inr m) = some (.ref t) ∧ H t = some (clO c) := by
  have := h m
  rw [hm] at this
  exact this
end LdP
/-! # LdA -/
/-! letdays.basics -/
namespace LdP
open PySem PySem.Spec PyProof.Rows L2 Evl
section
variable {base : Heap} {mg : Str → Option Value} {K : PySem.W.Frag} {w : World} {P : Program}
theorem boot_int' : bootBuiltins "int" = some (.type "int") := by decide +kernel
theorem boot_bool' : bootBuiltins "bool" = some (.type "bool") := by decide +kernel
theorem boot_str' : bootBuiltins "str" = some (.type "str") := by decide +kernel
theorem boot_list' : bootBuiltins "list" = some (.type "list") := by decide +kernel
theorem boot_tuple' : bootBuiltins "tuple" = some (.type "tuple") := by decide +kernel
theorem boot_dict' : bootBuiltins "dict" = some (.type "dict") := by decide +kernel
theorem boot_isi : bootBuiltins "isinstance" = some (.builtin "isinstance") := by decide +kernel
theorem boot_all' : bootBuiltins "all" = some (.builtin "all") := by decide +kernel
theorem boot_len' : bootBuiltins "len" = some (.builtin "len") := by decide +kernel

/-! ### is_integer -/
def spIsInt : Sp := fun vs H Q _ => ∃ i, vs = [.int i] ∧ Q (.bl true) H
theorem ok_isinteger (t : Tx K mg) : Ok P w K mg base 1 (He.ga K "is_integer") p_isinteger spIsInt := by
  obtain ⟨fd, F⟩ := t.def_isinteger
  refine ok_of F sc_isinteger (fun _ _ _ _ _ _ us hl => match us, hl with | [_], _ => rfl) (fun vs H Q E h => ?_) (fun cdv A outer s H vs Q E hr h => ?_)
  · obtain ⟨i, rfl, _⟩ := h
    rfl
  · obtain ⟨i, rfl, q⟩ := h
    refine ⟨_, pss_one (ps_ret (pe_and (pe_callB call_isi (by rfl) t.f_isinstance boot_isi (pa_cons (pv 0) (pa_cons (pe_bltn (v := .ty "int") (by rfl) t.f_int boot_int' rfl) pa_nil)))
      (pe_one (pe_not (pe_callB call_isi (by rfl) t.f_isinstance boot_isi (pa_cons (pv 0) (pa_cons (pe_bltn (v := .ty "bool") (by rfl) t.f_bool boot_bool' rfl) pa_nil))))))), ?_⟩
    refine ⟨_, rfl, _, _, _, _, true, rfl, .ty _, .base (.int _), kit_ty (by decide +kernel), true, rfl, ?_⟩
    refine iteT ⟨_, rfl, _, _, _, _, false, rfl, .ty _, .base (.int _), kit_ty (by decide +kernel), false, rfl, ?_⟩
    exact q

/-! ### is_list -/
def LstLike (K : PySem.W.Frag) (H : Hp) (x : V) : Prop := (∃ a xs, x = .ref a ∧ H a = some (.lst xs)) ∨ ∃ a o, x = .ref a ∧ K.lookup a = some o ∧ o.cls = .type "tuple"
theorem LstLike.same {H H' : Hp} {x : V} (h : LstLike K H x) (s : Ex H H') : LstLike K H' x := by
  rcases h with ⟨a, xs, e, h⟩ | h
  · exact .inl ⟨a, xs, e, s _ _ h⟩
  · exact .inr h
def spIsList (K : PySem.W.Frag) : Sp := fun vs H Q _ => ∃ x, vs = [x] ∧ LstLike K H x ∧ ∀ H', Ex H H' → Q (.bl true) H'
theorem ok_islist (t : Tx K mg) : Ok P w K mg base 1 (He.ga K "is_list") p_islist (spIsList K) := by
  obtain ⟨fd, F⟩ := t.def_islist
  refine ok_of F sc_islist (fun _ _ _ _ _ _ us hl => match us, hl with | [_], _ => rfl) (fun vs H Q E h => ?_) (fun cdv A outer s H vs Q E hr h => ?_)
  · obtain ⟨i, rfl, _⟩ := h
    rfl
  · obtain ⟨x, rfl, hx, q⟩ := h
    refine ⟨_, pss_one (ps_ret (pe_callB call_isiT (by rfl) t.f_isinstance boot_isi (pa_cons (pv 0) (pa_cons (pe_tup (pa_cons (pe_bltn (v := .ty "list") (by rfl) t.f_list boot_list' rfl) (pa_cons (pe_bltn (v := .ty "tuple") (by rfl) t.f_tuple boot_tuple' rfl) pa_nil))) pa_nil)))), ?_⟩
    refine ⟨_, rfl, by show 2 ≤ sizeLine; decide, fun p hp => ?_⟩
    have s1 := ex_upd (o := .tup [V.ty "list", V.ty "tuple"]) hp
    rcases hx.same s1 with ⟨a, xs, rfl, h⟩ | ⟨a, o, rfl, h1, h2⟩
    · exact ⟨_, p, _, .type "list", [.type "list", .type "tuple"], true, rfl, upd_same, .cons (.ty _) (.cons (.ty _) .nil), .base (.lst h), kitAny_cons (b := true) (kit_ty (by decide +kernel)) (fun z => nomatch z) (fun _ => rfl), q _ s1⟩
    · exact ⟨_, p, _, .type "tuple", [.type "list", .type "tuple"], true, rfl, upd_same, .cons (.ty _) (.cons (.ty _) .nil), .kTuple h1 h2, kitAny_cons (b := false) (kit_ty (by decide +kernel)) (fun _ => kitAny_cons (b := true) (kit_ty (by decide +kernel)) (fun z => nomatch z) (fun _ => rfl)) (fun z => nomatch z), q _ s1⟩
/-! ### is_name -/
def letters : Str := "abcdefghijklmnopqrstuvwxyz"
def nameB (z : Str) : Bool := !(!(decide ((1 : Int) ≤ (z.length : Nat)) && decide (((z.length : Nat) : Int) ≤ 6)) || decide (V.str z = V.str "day")) && ((z.cps.toList.map fun c => decide (c ∈ letters.cps.toList)).all id)
def spIsName : Sp := fun vs H Q _ => ∃ z : Str, vs = [.str z] ∧ z.length ≤ 1000 ∧ ∀ H', Ex H H' → Q (.bl (nameB z)) H'
theorem ok_isname (t : Tx K mg) : Ok P w K mg base 1 (He.ga K "is_name") p_isname spIsName := by
  obtain ⟨fd, F⟩ := t.def_isname
  refine ok_of F sc_isname (fun _ _ _ _ _ _ us hl => match us, hl with | [_], _ => rfl) (fun vs H Q E h => ?_) (fun cdv A outer s H vs Q E hr h => ?_)
  · obtain ⟨iz, rfl, _⟩ := h
    rfl
  · obtain ⟨z, rfl, hz, q⟩ := h
    obtain ⟨uL, eL⟩ := t.k_LETTERS
    obtain ⟨uM, eM⟩ := t.k_MOSTLETTERS
    obtain ⟨uZ, eZ⟩ := t.k_ZERO
    have hz' : z.length ≤ sizeLine := Nat.le_of_lt (small1000 hz)
    refine ⟨_, pss_cons (ps_if (PW.pt (pw_or (pt_not (pt_val (pe_callB call_isi (by rfl) t.f_isinstance boot_isi (pa_cons (pv 0) (pa_cons (pe_bltn (v := .ty "str") (by rfl) t.f_str boot_str' rfl) pa_nil)))))
        (pw_or (pt_not (pt_chain op_le op_le pe_int (pe_callB call_len_str (by rfl) t.f_len boot_len' (pa_cons (pv 0) pa_nil)) (pe_glob (v := .int 6) (by rfl) eM ⟨_, rfl⟩)))
        (pw_or1 (pt_cmpR op_eq (pv 0) (pe_glob (v := .str "day") (by rfl) eZ ⟨_, rfl⟩) (nomark _)))))) (pss_one (ps_ret pe_bl)) pss_nil)
      (pss_one (ps_ret (pe_callB (cr_all rfl) (by rfl) t.f_all boot_all' (pa_cons (pe_lc (own := [("letter", 1)]) (g := gName 1) (tt := tYes) rfl sc_isname.nd (pi_str (pv 0)) (blkOk_by (own := [("letter", 1)]) (N := n_isname) (sc := defScope s_isname) (by decide +kernel))
        (fun _ _ _ _ _ => pg_name (i := 1) sc_isname.nd rfl (Or.inl rfl)) (fun _ _ _ _ _ => pts_nil) (fun _ _ _ _ _ => pe_cmpR op_in_sign (pv 1) (pe_glob (v := .str letters) (by rfl) eL ⟨_, rfl⟩) rfl)) pa_nil)))), ?_⟩
    have hc : (z.cps.size : Nat) = z.length := rfl
    refine q_when (et_or (et_not (et_B (ev_isiS (b := true) (ev_var rfl) (by decide +kernel)))) fun _ => et_or (et_not (et_test (ev_chainI ev_c (ev_lenS (ev_var rfl) hz') ev_c))) fun _ => et_test (ev_op (ev_var rfl) ev_c (rv_eq rfl))) (fun e H1 e1 => ?_) (fun e H1 e1 => ?_)
    · refine s_ret ev_c fun H2 e2 => ?_
      have := q H2 (e1.trans e2)
      unfold nameB at this
      rw [show (!(decide ((1 : Int) ≤ (z.length : Nat)) && decide (((z.length : Nat) : Int) ≤ 6)) || decide (V.str z = V.str "day")) = true from e] at this
      exact this
    · refine s_ret (ev_allN (bs := z.cps.toList.map fun c => decide (c ∈ letters.cps.toList)) ?_) fun H2 e2 => ?_
      · have hl := el_lcS (fun iz => V.bl (decide ((z.cps.getD iz 0) ∈ letters.cps.toList))) (vs := [1]) (j := 1) (σ := start n_isname [.str z]) (H := H1) (tl := tVar 0) (te := tOp (fun x y H Q => ∃ (c : Nat) (z : Str), x = .str ⟨#[c]⟩ ∧ y = .str z ∧ Q (.bl (decide (c ∈ z.cps.toList))) H) (tVar 1) (tC (.str letters))) (ev_var rfl) (by omega) (fun x => rfl)
          (fun iz c H2 e2 hi => ev_is (ev_sign (c := c) (ev_var rfl) ev_c) (by rw [Array.getD_eq_getD_getElem?, hi]; rfl))
        have el : given z.cps.size (fun _ => true) (fun iz => V.bl (decide ((z.cps.getD iz 0) ∈ letters.cps.toList))) = (z.cps.toList.map fun c => decide (c ∈ letters.cps.toList)).map V.bl := by
          rw [given_all, List.map_map]
          refine List.ext_getElem (by simp) fun iz h1z h2z => ?_
          simp at h1z
          simp [h1z]
        rw [← el]
        exact hl
      · have := q H2 (e1.trans e2)
        unfold nameB at this
        rw [show (!(decide ((1 : Int) ≤ (z.length : Nat)) && decide (((z.length : Nat) : Int) ≤ 6)) || decide (V.str z = V.str "day")) = false from e] at this
        exact this

/-! ### is_moment -/
def momentB (z : Str) : Bool := nameB z || (true && decide (V.str z = V.str "day"))
def spIsMoment : Sp := fun vs H Q _ => ∃ z : Str, vs = [.str z] ∧ z.length ≤ 1000 ∧ ∀ H', Ex H H' → Q (.bl (momentB z)) H'
theorem sv_isname {H : Hp} {z : Str} (hz : z.length ≤ 1000) : SpV spIsName ([.str z] ++ []) H (.bl (nameB z)) := fun H1 e1 Q q E => ⟨z, rfl, hz, q⟩
theorem sv_isinteger {H : Hp} {i : Int} : SpV spIsInt ([.int i] ++ []) H (.bl true) := fun H1 e1 Q q E => ⟨i, rfl, q H1 (Ex.refl H1)⟩
theorem ok_ismoment (t : Tx K mg) : Ok P w K mg base 2 (He.ga K "is_moment") p_ismoment spIsMoment := by
  have G1 := ok_isname (P := P) (w := w) (base := base) t
  obtain ⟨fd, F⟩ := t.def_ismoment
  refine ok_of F sc_ismoment (fun _ _ _ _ _ _ us hl => match us, hl with | [_], _ => rfl) (fun vs H Q E h => ?_) (fun cdv A outer s H vs Q E hr h => ?_)
  · obtain ⟨i, rfl, _⟩ := h
    rfl
  · obtain ⟨z, rfl, hz, q⟩ := h
    obtain ⟨uZ, eZ⟩ := t.k_ZERO
    refine ⟨_, pss_one (ps_ret (pe_or (pe_fn G1 hr t.g_isname (pa_cons (pv 0) pa_nil)) (pe_one (pe_and (pe_callB call_isi (by rfl) t.f_isinstance boot_isi (pa_cons (pv 0) (pa_cons (pe_bltn (v := .ty "str") (by rfl) t.f_str boot_str' rfl) pa_nil)))
      (pe_one (pe_cmpR op_eq (pv 0) (pe_glob (v := .str "day") (by rfl) eZ ⟨_, rfl⟩) (nomark _))))))), ?_⟩
    exact s_ret (ev_orV (ev_call (ea_cons (ev_var rfl) ea_nil) (sv_isname hz)) fun _ => ev_andV (ev_isiS (b := true) (ev_var rfl) (by decide +kernel)) fun _ => ev_op (ev_var rfl) ev_c (rv_eq rfl)) q
theorem sv_ismoment {H : Hp} {z : Str} (hz : z.length ≤ 1000) : SpV spIsMoment ([.str z] ++ []) H (.bl (momentB z)) := fun H1 e1 Q q E => ⟨z, rfl, hz, q⟩

/-! ### is_point, is_clause -/
def spIsPoint : Sp := fun vs H Q _ => ∃ (a : Addr) (z : Str) (i : Int), vs = [.ref a] ∧ H a = some (.tup [.str z, .int i]) ∧ z.length ≤ 1000 ∧ momentB z = true ∧ ∀ H', Ex H H' → Q (.bl true) H'
theorem ok_ispoint (t : Tx K mg) : Ok P w K mg base 3 (He.ga K "is_point") p_ispoint spIsPoint := by
  have G1 := ok_ismoment (P := P) (w := w) (base := base) t
  have G2 := (ok_isinteger (P := P) (w := w) (base := base) t).mono (show 1 ≤ 2 by decide)
  obtain ⟨fd, F⟩ := t.def_ispoint
  refine ok_of F sc_ispoint (fun _ _ _ _ _ _ us hl => match us, hl with | [_], _ => rfl) (fun vs H Q E h => ?_) (fun cdv A outer s H vs Q E hr h => ?_)
  · obtain ⟨a, z, i, rfl, _⟩ := h
    rfl
  · obtain ⟨a, z, i, rfl, ha, hz, hm, q⟩ := h
    refine ⟨_, pss_one (ps_ret (pe_and (pe_callB call_isi (by rfl) t.f_isinstance boot_isi (pa_cons (pv 0) (pa_cons (pe_bltn (v := .ty "tuple") (by rfl) t.f_tuple boot_tuple' rfl) pa_nil)))
      (pe_and (pe_cmpR op_eq (pe_callB call_len_seq (by rfl) t.f_len boot_len' (pa_cons (pv 0) pa_nil)) pe_int (nomark _))
      (pe_and (pe_fn G1 hr t.g_ismoment (pa_cons (pe_ix ix_tup (pv 0) pe_int (fun _ _ => rfl)) pa_nil))
      (pe_one (pe_fn G2 hr t.g_isinteger (pa_cons (pe_ix ix_tup (pv 0) pe_int (fun _ _ => rfl)) pa_nil))))))), ?_⟩
    refine s_ret (ev_is (ev_andV (ev_isiT (b := true) (ev_var rfl) ha (by decide +kernel)) fun _ => ev_andV (ev_op (ev_lenT (ev_var rfl) ha) ev_c (rv_eq rfl)) fun _ =>
      ev_andV (ev_call (ea_cons (ev_op (ev_var rfl) ev_c (rv_ixT (st_of ha) rfl)) ea_nil) (sv_ismoment hz)) fun _ => ev_call (ea_cons (ev_op (ev_var rfl) ev_c (rv_ixT (st_of ha) rfl)) ea_nil) sv_isinteger) ?_) q
    rw [hm]
    rfl
def spIsClause : Sp := fun vs H Q _ => ∃ (a : Addr) (f g : Str) (i : Int), vs = [.ref a] ∧ H a = some (.tup [.str f, .str g, .int i]) ∧ (f.length ≤ 1000 ∧ momentB f = true) ∧ (g.length ≤ 1000 ∧ momentB g = true) ∧ f ≠ g ∧ ∀ H', Ex H H' → Q (.bl true) H'
theorem ok_isclause (t : Tx K mg) : Ok P w K mg base 3 (He.ga K "is_clause_basics") p_isclause spIsClause := by
  have G1 := ok_ismoment (P := P) (w := w) (base := base) t
  have G2 := (ok_isinteger (P := P) (w := w) (base := base) t).mono (show 1 ≤ 2 by decide)
  obtain ⟨fd, F⟩ := t.def_isclause
  refine ok_of F sc_isclause (fun _ _ _ _ _ _ us hl => match us, hl with | [_], _ => rfl) (fun vs H Q E h => ?_) (fun cdv A outer s H vs Q E hr h => ?_)
  · obtain ⟨a, f, g, i, rfl, _⟩ := h
    rfl
  · obtain ⟨a, f, g, i, rfl, ha, ⟨hf, mf⟩, ⟨hg, mg'⟩, hne, q⟩ := h
    refine ⟨_, pss_cons (ps_if (PW.pt (pw_or (pt_not (pt_val (pe_callB call_isi (by rfl) t.f_isinstance boot_isi (pa_cons (pv 0) (pa_cons (pe_bltn (v := .ty "tuple") (by rfl) t.f_tuple boot_tuple' rfl) pa_nil)))))
      (pw_or (pt_cmpR op_ne (pe_callB call_len_seq (by rfl) t.f_len boot_len' (pa_cons (pv 0) pa_nil)) pe_int (nomark _))
      (pw_or1 (pt_not (pt_val (pe_fn G2 hr t.g_isinteger (pa_cons (pe_ix ix_tup (pv 0) pe_int (fun _ _ => rfl)) pa_nil)))))))) (pss_one (ps_ret pe_bl)) pss_nil)
      (pss_one (ps_ret (pe_and (pe_fn G1 hr t.g_ismoment (pa_cons (pe_ix ix_tup (pv 0) pe_int (fun _ _ => rfl)) pa_nil))
        (pe_and (pe_fn G1 hr t.g_ismoment (pa_cons (pe_ix ix_tup (pv 0) pe_int (fun _ _ => rfl)) pa_nil))
        (pe_one (pe_cmpR op_ne (pe_ix ix_tup (pv 0) pe_int (fun _ _ => rfl)) (pe_ix ix_tup (pv 0) pe_int (fun _ _ => rfl)) (nomark _))))))), ?_⟩
    refine q_when (b := false) (et_is (et_or (et_not (et_B (ev_isiT (b := true) (ev_var rfl) ha (by decide +kernel)))) fun _ => et_or (et_test (ev_op (ev_lenT (ev_var rfl) ha) ev_c (rv_ne rfl))) fun _ =>
      et_not (et_B (ev_call (ea_cons (ev_op (ev_var rfl) ev_c (rv_ixT (st_of ha) rfl)) ea_nil) sv_isinteger))) rfl) (fun e => nomatch e) (fun _ H1 e1 => ?_)
    have h1 := e1 _ _ ha
    refine s_ret (ev_is (ev_andV (ev_call (ea_cons (ev_op (ev_var rfl) ev_c (rv_ixT (st_of h1) rfl)) ea_nil) (sv_ismoment hf)) fun _ => ev_andV (ev_call (ea_cons (ev_op (ev_var rfl) ev_c (rv_ixT (st_of h1) rfl)) ea_nil) (sv_ismoment hg)) fun _ =>
      ev_op (ev_op (ev_var rfl) ev_c (rv_ixT (st_of h1) rfl)) (ev_op (ev_var rfl) ev_c (rv_ixT (st_of h1) rfl)) (rv_ne rfl)) ?_) fun H2 e2 => q H2 (e1.trans e2)
    rw [mf, mg', decide_eq_false (fun e => hne (V.str.inj e))]
    rfl
end
end LdP
/-! # LdB -/
/-! letdays.calendars: the short methods -/
namespace LdP
open PySem PySem.Spec PyProof.Rows L2 Evl
/-! ### a calendar in the heap -/
theorem cm_ne : ¬ (("own_clauses" : Str) = "own_moments") := by decide +kernel
theorem mc_ne : ¬ (("own_moments" : Str) = "own_clauses") := by decide +kernel
def caF (m c : Addr) : List (Str × V) := putF "own_clauses" (.ref c) (putF "own_moments" (.ref m) [])
theorem caF_m (m c : Addr) : (caF m c).lookup ("own_moments" : Str) = some (.ref m) := by
  unfold caF
  rw [lookup_putF, if_neg mc_ne, lookup_putF, if_pos rfl]
theorem caF_c (m c : Addr) : (caF m c).lookup ("own_clauses" : Str) = some (.ref c) := by
  unfold caF
  rw [lookup_putF, if_pos rfl]
theorem caF_no (m c : Addr) {x : Str} (h1 : ¬ x = "own_clauses") (h2 : ¬ x = "own_moments") : (caF m c).lookup x = none := by
  unfold caF; rw [lookup_putF, if_neg h1, lookup_putF, if_neg h2]
  rfl
def CalAt (K : PySem.W.Frag) (H : Hp) (a : Addr) (sl : List Str) (cs : List Cl) : Prop :=
  ∃ dx m c : Addr, H a = some (.ins (He.ga K "Calendar") dx (caF m c)) ∧ H m = some (.lst (sl.map V.str)) ∧ ClsAt H c cs
theorem CalAt.ex {K : PySem.W.Frag} {H H' : Hp} {a : Addr} {sl : List Str} {cs : List Cl} (e : Ex H H') (h : CalAt K H a sl cs) : CalAt K H' a sl cs :=
  let ⟨dx, m, c, h1, h2, h3⟩ := h
  ⟨dx, m, c, e _ _ h1, e _ _ h2, h3.ex e⟩
section
variable {base : Heap} {mg : Str → Option Value} {K : PySem.W.Frag} {w : World} {P : Program}
/-- self has its moments already -/
def MomAt (K : PySem.W.Frag) (H : Hp) (a : Addr) (sl : List Str) : Prop := ∃ (dx m : Addr) (fs : List (Str × V)), H a = some (.ins (He.ga K "Calendar") dx fs) ∧ fs.lookup ("own_moments" : Str) = some (.ref m) ∧ fs.lookup ("has_moment" : Str) = none ∧ fs.lookup ("ZERO" : Str) = none ∧ H m = some (.lst (sl.map V.str))
theorem MomAt.ex {H H' : Hp} {a : Addr} {sl : List Str} (e : Ex H H') (h : MomAt K H a sl) : MomAt K H' a sl := let ⟨dx, m, fs, h1, h2, h3, h4, h5⟩ := h; ⟨dx, m, fs, e _ _ h1, h2, h3, h4, e _ _ h5⟩
theorem CalAt.mom {H : Hp} {a : Addr} {sl : List Str} {cs : List Cl} (h : CalAt K H a sl cs) : MomAt K H a sl :=
  let ⟨dx, m, c, h1, h2, h3⟩ := h
  ⟨dx, m, _, h1, caF_m _ _, caF_no _ _ (by decide +kernel) (by decide +kernel), caF_no _ _ (by decide +kernel) (by decide +kernel), h2⟩
/-! ### has_moment -/
def spHasM (K : PySem.W.Frag) : Sp := fun vs H Q _ => ∃ (a : Addr) (z : Str) (sl : List Str), vs = [.ref a, .str z] ∧ MomAt K H a sl ∧ z ∈ sl ++ [day] ∧ ∀ H', Ex H H' → Q (.bl true) H'
theorem ok_Cahasmoment (t : Tx K mg) : Ok P w K mg base 1 (He.ma K (He.ga K "Calendar") "has_moment") p_Cahasmoment (spHasM K) := by
  obtain ⟨fd, F⟩ := t.def_Cahasmoment
  refine ok_of F sc_Cahasmoment (fun _ _ _ _ _ _ us hl => match us, hl with | [_, _], _ => rfl) (fun vs H Q E h => ?_) (fun cdv A outer s H vs Q E hr h => ?_)
  · obtain ⟨a, z, sl, rfl, _⟩ := h
    rfl
  · obtain ⟨a, z, sl, rfl, ⟨dx, m, fs, ha, hl, h0, h1, hm⟩, hz, q⟩ := h
    obtain ⟨u, hu⟩ := t.zero
    refine ⟨_, pss_one (ps_ret (pe_and (pe_callB call_isi (by rfl) t.f_isinstance boot_isi (pa_cons (pv 1) (pa_cons (pe_bltn (v := .ty "str") (by rfl) t.f_str boot_str' rfl) pa_nil)))
      (pe_one (pe_or (pe_cmpR op_eq (pv 1) (pe_con (pv 0) rfl) (nomark _)) (pe_one (pe_cmpR op_in_seq (pv 1) (pe_fld (pv 0) rfl) rfl)))))), ?_⟩
    refine s_ret (ev_is (ev_andV (ev_isiS (b := true) (ev_var rfl) (by decide +kernel)) fun _ => ev_orV (ev_op (ev_var rfl) (ev_con (ev_var rfl) ha t.c_Calendar hu h1) (rv_eq rfl)) fun _ =>
      ev_op (ev_var rfl) (ev_fld (ev_var rfl) ha t.c_Calendar t.a_Calendar_ownmoments hl) (rv_isL (sq_of hm) rfl flat_strs)) ?_) q
    rw [inV_str]
    rcases List.mem_append.mp hz with h | h
    · rw [decide_eq_true h, Bool.or_true]
      rfl
    · rw [List.mem_singleton.mp h]
      rfl
theorem sv_hasm {H : Hp} {a : Addr} {z : Str} {sl : List Str} (h : MomAt K H a sl) (hz : z ∈ sl ++ [day]) : SpV (spHasM K) (.ref a :: ([.str z] ++ [])) H (.bl true) := fun H1 e1 Q q E => ⟨a, z, sl, rfl, h.ex e1, hz, q⟩
/-! ### is_own_form -/
/-- clauses that may stand in a calendar of these moments -/
def ClW (sl : List Str) (c : Cl) : Prop := c.one ∈ sl ++ [day] ∧ c.other ∈ sl ++ [day] ∧ c.one ≠ c.other
/-- the moments are names -/
def SlW (sl : List Str) : Prop := ∀ z ∈ sl, z.length ≤ 1000 ∧ nameB z = true ∧ PyData.strOk z = true
def spOwnF (K : PySem.W.Frag) : Sp := fun vs H Q _ => ∃ (a p : Addr) (sl : List Str) (c : Cl), vs = [.ref a, .ref p] ∧ MomAt K H a sl ∧ SlW sl ∧ H p = some (clO c) ∧ ClW sl c ∧ ∀ H', Ex H H' → Q (.bl true) H'
theorem day_len : day.length ≤ 1000 := by decide +kernel
theorem day_moment : momentB day = true := by decide +kernel
theorem slw_moment {sl : List Str} (h : SlW sl) {z : Str} (hz : z ∈ sl ++ [day]) : z.length ≤ 1000 ∧ momentB z = true := by
  rcases List.mem_append.mp hz with q | q
  · obtain ⟨h1, h2, _⟩ := h z q
    refine ⟨h1, ?_⟩
    unfold momentB
    rw [h2]
    rfl
  · rw [List.mem_singleton.mp q]
    exact ⟨day_len, day_moment⟩
theorem ok_Caisownform (t : Tx K mg) : Ok P w K mg base 4 (He.ma K (He.ga K "Calendar") "is_own_form") p_Caisownform (spOwnF K) := by
  have G1 := ok_isclause (P := P) (w := w) (base := base) t
  have G2 := (ok_Cahasmoment (P := P) (w := w) (base := base) t).mono (show 1 ≤ 3 by decide)
  obtain ⟨fd, F⟩ := t.def_Caisownform
  refine ok_of F sc_Caisownform (fun _ _ _ _ _ _ us hl => match us, hl with | [_, _], _ => rfl) (fun vs H Q E h => ?_) (fun cdv A outer s H vs Q E hr h => ?_)
  · obtain ⟨a, p, sl, c, rfl, _⟩ := h
    rfl
  · obtain ⟨a, p, sl, c, rfl, hm, hw, hp, hc, q⟩ := h
    obtain ⟨h1, h2, h3⟩ := hc
    refine ⟨_, pss_one (ps_ret (pe_and (pe_fn G1 hr t.g_isclausebasics (pa_cons (pv 1) pa_nil)) (pe_and (pe_md (pv 0) t.c_Calendar t.m_Calendar_hasmoment G2 hr (pa_cons (pe_ix ix_tup (pv 1) pe_int (fun _ _ => rfl)) pa_nil))
      (pe_one (pe_md (pv 0) t.c_Calendar t.m_Calendar_hasmoment G2 hr (pa_cons (pe_ix ix_tup (pv 1) pe_int (fun _ _ => rfl)) pa_nil)))))), ?_⟩
    obtain ⟨dx, m, fs, ha, hl, h0, hz, hL⟩ := id hm
    refine s_ret (ev_is (ev_andV (ev_call (ea_cons (ev_var rfl) ea_nil) (fun H1 e1 Q q E => ⟨p, c.one, c.other, c.num, rfl, e1 _ _ hp, slw_moment hw h1, slw_moment hw h2, h3, q⟩)) fun _ =>
      ev_andV (ev_meth (ev_var rfl) ha h0 (ea_cons (ev_op (ev_var rfl) ev_c (rv_ixT (st_of hp) rfl)) ea_nil) (sv_hasm hm h1)) fun _ =>
      ev_meth (ev_var rfl) ha h0 (ea_cons (ev_op (ev_var rfl) ev_c (rv_ixT (st_of hp) rfl)) ea_nil) (sv_hasm hm h2)) rfl) q
theorem slw_ok {sl : List Str} (h : SlW sl) {z : Str} (hz : z ∈ sl ++ [day]) : PyData.strOk z = true := by
  rcases List.mem_append.mp hz with q | q
  · exact (h z q).2.2
  · rw [List.mem_singleton.mp q]
    decide +kernel
theorem clw_s {sl : List Str} (h : SlW sl) {c : Cl} (hc : ClW sl c) : ClS c := ⟨slw_ok h hc.1, slw_ok h hc.2.1⟩
theorem SlW.perm {sl labs : List Str} (h : SlW labs) (p : sl.Perm labs) : SlW sl := fun z hz => h z (p.mem_iff.mp hz)
/-! ### moments(), clauses() -/
def spMoments (K : PySem.W.Frag) : Sp := fun vs H Q _ => ∃ (a : Addr) (sl : List Str) (cs : List Cl), vs = [.ref a] ∧ CalAt K H a sl cs ∧ ∀ p H', H p = none → Ex H H' → H' p = some (.lst (sl.map V.str)) → Q (.ref p) H'
theorem ok_Camoments (t : Tx K mg) : Ok P w K mg base 1 (He.ma K (He.ga K "Calendar") "moments") p_Camoments (spMoments K) := by
  obtain ⟨fd, F⟩ := t.def_Camoments
  refine ok_of F sc_Camoments (fun _ _ _ _ _ _ us hl => match us, hl with | [_], _ => rfl) (fun vs H Q E h => ?_) (fun cdv A outer s H vs Q E hr h => ?_)
  · obtain ⟨a, sl, cs, rfl, _⟩ := h
    rfl
  · obtain ⟨a, sl, cs, rfl, ⟨dx, m, c, ha, hm, hc⟩, q⟩ := h
    refine ⟨_, pss_one (ps_ret (pe_callTy call_list_of (by rfl) t.f_list boot_list' (pa_cons (pe_fld (pv 0) rfl) pa_nil))), ?_⟩
    exact s_retL (el_list1 (ev_fld (ev_var rfl) ha t.c_Calendar t.a_Calendar_ownmoments (caF_m _ _)) hm) q
theorem sl_moments {H : Hp} {a : Addr} {sl : List Str} {cs : List Cl} (h : CalAt K H a sl cs) : SpL (spMoments K) (.ref a :: ([] ++ [])) H (sl.map V.str) := fun H1 e1 Q q E => ⟨a, sl, cs, rfl, h.ex e1, q⟩
def spClauses (K : PySem.W.Frag) : Sp := fun vs H Q _ => ∃ (a dx m c : Addr) (xs : List V), vs = [.ref a] ∧ H a = some (.ins (He.ga K "Calendar") dx (caF m c)) ∧ H c = some (.lst xs) ∧ ∀ p H', H p = none → Ex H H' → H' p = some (.lst xs) → Q (.ref p) H'
theorem ok_Caclauses (t : Tx K mg) : Ok P w K mg base 1 (He.ma K (He.ga K "Calendar") "clauses") p_Caclauses (spClauses K) := by
  obtain ⟨fd, F⟩ := t.def_Caclauses
  refine ok_of F sc_Caclauses (fun _ _ _ _ _ _ us hl => match us, hl with | [_], _ => rfl) (fun vs H Q E h => ?_) (fun cdv A outer s H vs Q E hr h => ?_)
  · obtain ⟨a, dx, m, c, xs, rfl, _⟩ := h
    rfl
  · obtain ⟨a, dx, m, c, xs, rfl, ha, hc, q⟩ := h
    refine ⟨_, pss_one (ps_ret (pe_callTy call_list_of (by rfl) t.f_list boot_list' (pa_cons (pe_fld (pv 0) rfl) pa_nil))), ?_⟩
    exact s_retL (el_list1 (ev_fld (ev_var rfl) ha t.c_Calendar t.a_Calendar_ownclauses (caF_c _ _)) hc) q
end
end LdP
/-! # LdD -/
/-! rows.Days: changed_by -/
namespace LdP
open PySem PySem.Spec PyProof.Rows L2 Evl
/-- Days at work: fs its attributes, dd the days, ll the last clauses -/
structure DyS (K : PySem.W.Frag) (H0 H : Hp) (a dx : Addr) (fs : List (Str × V)) (dd ll : Addr) (ks : List Str) (s : Ld.Bf Str) (k : Nat) : Prop where
  ex : Ex H0 H
  a0 : H0 a = none
  d0 : H0 dd = none
  l0 : H0 ll = none
  ne : dd ≠ ll
  kl : ks.length ≤ 1000
  ha : H a = some (.ins (He.ga K "Days") dx fs)
  fd : fs.lookup ("own_days" : Str) = some (.ref dd)
  fl : fs.lookup ("own_last" : Str) = some (.ref ll)
  hd : H dd = some (.dK (kvF ks s.f))
  hl : ∃ lkv, H ll = some (.dK lkv) ∧ lkv.length ≤ k ∧ LastP H0 lkv s.L
section
variable {K : PySem.W.Frag} {H0 H H' : Hp} {a dx : Addr} {fs : List (Str × V)} {dd ll : Addr} {ks : List Str} {s : Ld.Bf Str} {k : Nat}
theorem DyS.mono (d : DyS K H0 H a dx fs dd ll ks s k) (e : Ex H H') : DyS K H0 H' a dx fs dd ll ks s k :=
  ⟨d.ex.trans e, d.a0, d.d0, d.l0, d.ne, d.kl, e _ _ d.ha, d.fd, d.fl, e _ _ d.hd, let ⟨l, h1, h2, h3⟩ := d.hl; ⟨l, e _ _ h1, h2, h3⟩⟩
theorem DyS.ch (d : DyS K H0 H a dx fs dd ll ks s k) {c : Option Str} : DyS K H0 H a dx fs dd ll ks { s with ch := c } k := ⟨d.ex, d.a0, d.d0, d.l0, d.ne, d.kl, d.ha, d.fd, d.fl, d.hd, d.hl⟩
theorem DyS.ad (d : DyS K H0 H a dx fs dd ll ks s k) : a ≠ dd := ne_of d.ha d.hd (fun z => nomatch z)
theorem DyS.al (d : DyS K H0 H a dx fs dd ll ks s k) : a ≠ ll := let ⟨_, h, _⟩ := d.hl; ne_of d.ha h (fun z => nomatch z)
/-- a day is taken ahead -/
theorem DyS.fire (d : DyS K H0 H a dx fs dd ll ks s k) {t : Nat} {c : Cl} {tc : Addr} (h1 : c.one ∈ ks) (ht : H0 tc = some (clO c)) {lkv : List (Key × V)} (hl : H ll = some (.dK lkv)) (hk : lkv.length ≤ k) (hp : LastP H0 lkv s.L) {H1 : Hp} (e1 : Ex (upd H dd (.dK (putK (kvF ks s.f) (Sum.inr c.one) (.int (s.f c.other + c.num))))) H1) :
    DyS K H0 (upd H1 ll (.dK (putK lkv (Sum.inr c.one) (.ref tc)))) a dx fs dd ll ks (Ld.fire t s c) (k + 1) := by
  have hd1 : H1 dd = some (.dK (kvF ks (Ld.up s.f c.one (s.f c.other + c.num)))) := by
    have := e1 dd _ upd_same
    rw [this, kvF_put h1]
  refine ⟨((d.ex.mut d.d0).trans e1).mut d.l0, d.a0, d.d0, d.l0, d.ne, d.kl, ?_, d.fd, d.fl, ?_, putK lkv (Sum.inr c.one) (.ref tc), upd_same, ?_, hp.put ht⟩
  · rw [upd_ne d.al]
    exact e1 _ _ (by rw [upd_ne d.ad]; exact d.ha)
  · rw [upd_ne d.ne]
    exact hd1
  · have := length_putK lkv (Sum.inr c.one) (V.ref tc)
    omega
end
/-- the last moment that changed, as a value -/
def chV : Option Str → V
  | none => .non
  | some m => .str m
section
variable {base : Heap} {mg : Str → Option Value} {K : PySem.W.Frag} {w : World} {P : Program}
def spChg (K : PySem.W.Frag) : Sp := fun vs H Q _ => ∃ (H0 : Hp) (a dx : Addr) (fs : List (Str × V)) (dd ll : Addr) (ks : List Str) (s : Ld.Bf Str) (k t : Nat) (c : Addr) (ts : List Addr) (cs : List Cl), vs = [.ref a, .ref c] ∧ DyS K H0 H a dx fs dd ll ks s k ∧
  H0 c = some (.lst (ts.map V.ref)) ∧ ClP H0 ts cs ∧ (∀ x ∈ cs, x.one ∈ ks ∧ x.other ∈ ks) ∧ k + cs.length ≤ 10000 ∧ ∀ H', DyS K H0 H' a dx fs dd ll ks (Ld.pass t cs s) (k + cs.length) → Q (chV (Ld.pass t cs s).ch) H'
theorem ok_Dychangedby (t : Tx K mg) : Ok P w K mg base 1 (He.ma K (He.ga K "Days") "changed_by") p_Dychangedby (spChg K) := by
  obtain ⟨fd, F⟩ := t.def_Dychangedby
  refine ok_of F sc_Dychangedby (fun _ _ _ _ _ _ us hl => match us, hl with | [_, _], _ => rfl) (fun vs H Q E h => ?_) (fun cdv A outer s H vs Q E hr h => ?_)
  · obtain ⟨H0, a, dx, fs, dd, ll, ks, s, k, t, c, ts, cs, rfl, _⟩ := h
    rfl
  · obtain ⟨H0, a, dx, fs, dd, ll, ks, st, k, tn, c, ts, cs, rfl, d, hc, hcs, hks, hsz, q⟩ := h
    have hu := hu_of hr
    refine ⟨_, pss_cons (ps_set (i := 2) sc_Dychangedby.nd rfl (Or.inl rfl) pe_non)
      (pss_cons (ps_for PassesOwn.never rfl (pi_list (pv 1)) (pg_name (i := 3) sc_Dychangedby.nd rfl (Or.inl rfl))
        (pss_cons (ps_asg (pv 3) (pg_tup rfl (pgs_cons (pg_name (i := 4) sc_Dychangedby.nd rfl (Or.inl rfl)) (pgs_cons (pg_name (i := 5) sc_Dychangedby.nd rfl (Or.inl rfl)) (pgs_cons (pg_name (i := 6) sc_Dychangedby.nd rfl (Or.inl rfl)) pgs_nil)))))
        (pss_one (ps_if (pt_cmpR op_gt (pe_dget hu (pe_fld (pv 0) rfl) (pv 4) (fun _ _ => rfl)) (pe_op op_add (pe_dget hu (pe_fld (pv 0) rfl) (pv 5) (fun _ _ => rfl)) (pv 6)) (nomark _))
          (pss_cons (ps_dput hu (pe_fld (pv 0) rfl) (pv 4) (pe_op op_add (pe_dget hu (pe_fld (pv 0) rfl) (pv 5) (fun _ _ => rfl)) (pv 6)) rfl)
          (pss_cons (ps_dput hu (pe_fld (pv 0) rfl) (pv 4) (pv 3) rfl) (pss_one (ps_set (i := 2) sc_Dychangedby.nd rfl (Or.inl rfl) (pv 4))))) pss_nil))))
      (pss_one (ps_ret (pv 2)))), ?_⟩
    have e0 : chV (({ st with ch := none } : Ld.Bf Str)).ch = .non := rfl
    refine q_asg ev_c (fun H1 e1 => ?_)
    refine q_forLn (xs := ts.map V.ref) (ev_var rfl) (sq_of (e1 _ _ (d.ex _ _ hc))) (fun i σ' H' => ∃ x3 x4 x5 x6, σ' = [some (.ref a), some (.ref c), some (chV ((cs.take i).foldl (Ld.step tn) { st with ch := none }).ch), x3, x4, x5, x6] ∧ DyS K H0 H' a dx fs dd ll ks ((cs.take i).foldl (Ld.step tn) { st with ch := none }) (k + i))
      (fun H2 e2 => ⟨none, none, none, none, rfl, (d.mono (e1.trans e2)).ch⟩) (fun i σ' H' _ p => ?_) ?_ ?_
    · obtain ⟨_, _, _, _, _, d'⟩ := p
      exact sq_of (d'.ex _ _ hc)
    · rintro i x σ' H' hi ⟨x3, x4, x5, x6, rfl, d'⟩
      obtain ⟨tc, htc, rfl⟩ : ∃ z, ts[i]? = some z ∧ x = .ref z := by
        rw [List.getElem?_map] at hi
        cases h : ts[i]? with
        | none => rw [h] at hi; cases hi
        | some z => rw [h] at hi; exact ⟨z, rfl, (Option.some.inj hi).symm⟩
      obtain ⟨cl, hcl, htt⟩ := paired_get hcs htc
      have hmem : cl ∈ cs := List.mem_of_getElem? hcl
      obtain ⟨hk1, hk2⟩ := hks cl hmem
      have hlt : i < cs.length := (List.getElem?_eq_some_iff.mp hcl).1
      have estep : (cs.take (i + 1)).foldl (Ld.step tn) { st with ch := none } = Ld.step tn ((cs.take i).foldl (Ld.step tn) { st with ch := none }) cl := by
        rw [List.take_add_one, hcl, List.foldl_append]
        rfl
      rw [estep]
      have hki : k + i ≤ 10000 := by omega
      generalize (cs.take i).foldl (Ld.step tn) { st with ch := none } = s1 at d' ⊢
      have htH := d'.ex _ _ htt
      -- one, other, number = clause
      refine ⟨_, rfl, g_triple htH ?_⟩
      have g1 : valV (kvF ks s1.f) (Sum.inr cl.one) = some (.int (s1.f cl.one)) := kvF_val hk1
      have g2 : valV (kvF ks s1.f) (Sum.inr cl.other) = some (.int (s1.f cl.other)) := kvF_val hk2
      refine s_when (et_test (ev_op (ev_dget (k := Sum.inr cl.one) (ev_fld (ev_var rfl) d'.ha t.c_Days t.a_Days_owndays d'.fd) (ev_var rfl) d'.hd g1)
        (ev_op (ev_dget (k := Sum.inr cl.other) (ev_fld (ev_var rfl) d'.ha t.c_Days t.a_Days_owndays d'.fd) (ev_var rfl) d'.hd g2) (ev_var rfl) rv_I0) (rv_I0 (g := fun i j => .bl (decide (j < i)))))) (fun hb H2 e2 => ?_) (fun hb H2 e2 => ?_)
      · have hgt : s1.f cl.one > s1.f cl.other + cl.num := of_decide_eq_true hb
        have d2 := d'.mono e2
        obtain ⟨lkv, hl1, hl2, hl3⟩ := d2.hl
        refine q_dput (k := Sum.inr cl.one) (ev_op (ev_dget (k := Sum.inr cl.other) (ev_fld (ev_var rfl) d2.ha t.c_Days t.a_Days_owndays d2.fd) (ev_var rfl) d2.hd g2) (ev_var rfl) rv_I0) (ev_fld (ev_var rfl) d2.ha t.c_Days t.a_Days_owndays d2.fd) (ev_var rfl) d2.hd ?_ (fun H3 e3 => ?_)
        · rw [kvF_len]
          have := d2.kl
          omega
        obtain ⟨lkv3, hl1', hl2', hl3'⟩ := (d2.mono e3).hl
        have d3 := d2.mono e3
        have haG : (upd H3 dd (.dK (putK (kvF ks s1.f) (Sum.inr cl.one) (.int (s1.f cl.other + cl.num))))) a = some (.ins (He.ga K "Days") dx fs) := by rw [upd_ne d3.ad]; exact d3.ha
        have hlG : (upd H3 dd (.dK (putK (kvF ks s1.f) (Sum.inr cl.one) (.int (s1.f cl.other + cl.num))))) ll = some (.dK lkv3) := by rw [upd_ne d3.ne.symm]; exact hl1'
        refine q_dput (k := Sum.inr cl.one) (ev_var rfl) (ev_fld (ev_var rfl) haG t.c_Days t.a_Days_ownlast d3.fl) (ev_var rfl) hlG (by omega) (fun H4 e4 => ?_)
        have d5 := d3.fire (t := tn) hk1 htt hl1' hl2' hl3' e4
        refine s_asg (ev_var rfl) fun H5 e5 => ?_
        have es : Ld.step tn s1 cl = Ld.fire tn s1 cl := if_pos hgt
        rw [es]
        exact ⟨_, _, _, _, rfl, d5.mono e5⟩
      · have hle : ¬ s1.f cl.one > s1.f cl.other + cl.num := of_decide_eq_false hb
        have es : Ld.step tn s1 cl = s1 := if_neg hle
        rw [es]
        refine ⟨_, _, _, _, rfl, ?_⟩
        have d2 := d'.mono e2
        exact ⟨d2.ex, d2.a0, d2.d0, d2.l0, d2.ne, d2.kl, d2.ha, d2.fd, d2.fl, d2.hd, let ⟨l, h1, h2, h3⟩ := d2.hl; ⟨l, h1, by omega, h3⟩⟩
    · rintro σ' H' ⟨x3, x4, x5, x6, rfl, d'⟩
      have el : (ts.map V.ref).length = cs.length := by rw [List.length_map, paired_len hcs]
      rw [el, List.take_length] at d' ⊢
      refine s_ret (ev_var rfl) fun H2 e2 => ?_
      exact q H2 (d'.mono e2)
end
end LdP
/-! # LdE -/
/-! rows.Days: ring_at, ring, dates -/
namespace LdP
open PySem PySem.Spec PyProof.Rows L2 Evl
section
variable {base : Heap} {mg : Str → Option Value} {K : PySem.W.Frag} {w : World} {P : Program}
def spRingAt (K : PySem.W.Frag) : Sp := fun vs H Q _ => ∃ (a dx : Addr) (fs : List (Str × V)) (dd ll : Addr) (ks : List Str) (f : Str → Int) (lkv : List (Key × V)) (L : Str → Option Cl) (v : Str), vs = [.ref a, .str v] ∧
  H a = some (.ins (He.ga K "Days") dx fs) ∧ fs.lookup ("own_days" : Str) = some (.ref dd) ∧ fs.lookup ("own_last" : Str) = some (.ref ll) ∧ H dd = some (.dK (kvF ks f)) ∧ H ll = some (.dK lkv) ∧ LastP H lkv L ∧ ks.length ≤ 1000 ∧
  (∀ k, ∃ c, L (Ld.walk L v k) = some c) ∧ (∃ p, 0 < p ∧ p ≤ ks.length ∧ Ld.walk L v (ks.length + p) = Ld.walk L v ks.length) ∧ ∀ p xs H', Ex H H' → H' p = some (.lst xs) → Q (.ref p) H'
theorem walk_next {L : Str → Option Cl} {v : Str} {k : Nat} {c : Cl} (h : L (Ld.walk L v k) = some c) : Ld.walk L v (k + 1) = c.other := by
  show Ld.nx L (Ld.walk L v k) = _
  unfold Ld.nx
  rw [h]
theorem ok_Dyringat (t : Tx K mg) : Ok P w K mg base 1 (He.ma K (He.ga K "Days") "ring_at") p_Dyringat (spRingAt K) := by
  obtain ⟨fd, F⟩ := t.def_Dyringat
  refine ok_of F sc_Dyringat (fun _ _ _ _ _ _ us hl => match us, hl with | [_, _], _ => rfl) (fun vs H Q E h => ?_) (fun cdv A outer s H vs Q E hr h => ?_)
  · obtain ⟨a, dx, fs, dd, ll, ks, f, lkv, L, v, rfl, _⟩ := h
    rfl
  · obtain ⟨a, dx, fs, dd, ll, ks, f, lkv, L, v, rfl, ha, fd1, fl1, hd, hl, hL, h1000, hw, ⟨p, hp0, hpn, hper⟩, q⟩ := h
    have hu := hu_of hr
    refine ⟨_, pss_cons (ps_for PassesOwn.never rfl (pi_range1 (by rfl) t.f_range (pa_cons (pe_callB call_lenD (by rfl) t.f_len boot_len' (pa_cons (pe_fld (pv 0) rfl) pa_nil)) pa_nil)) (pg_name (i := 2) sc_Dyringat.nd rfl (Or.inl rfl))
        (pss_one (ps_set (i := 1) sc_Dyringat.nd rfl (Or.inl rfl) (pe_ix ix_tup (pe_dget hu (pe_fld (pv 0) rfl) (pv 1) (fun _ _ => rfl)) pe_int (fun _ _ => rfl)))))
      (pss_cons (ps_set (i := 3) sc_Dyringat.nd rfl (Or.inl rfl) (pe_lst (pa_cons (pe_dget hu (pe_fld (pv 0) rfl) (pv 1) (fun _ _ => rfl)) pa_nil)))
      (pss_cons (ps_while PassesOwn.never (pt_cmpR op_ne (pe_ix ix_tup (pe_ix ix_list (pv 3) (pe_un un_neg pe_int) (fun _ _ => rfl)) pe_int (fun _ _ => rfl)) (pv 1) (nomark _))
        (pss_one (ps_expr (pe_bm PySem.F.plainAttrs_list PySem.F.slot_list_append PySem.F.type_list_append mt_append (pv 3) (pa_cons (pe_dget hu (pe_fld (pv 0) rfl) (pe_ix ix_tup (pe_ix ix_list (pv 3) (pe_un un_neg pe_int) (fun _ _ => rfl)) pe_int (fun _ _ => rfl)) (fun _ _ => rfl)) pa_nil)))))
      (pss_one (ps_ret (pv 3))))), ?_⟩
    -- the clause at a place of the walk
    have cl : ∀ k, ∃ c t, L (Ld.walk L v k) = some c ∧ valV lkv (Sum.inr (Ld.walk L v k)) = some (.ref t) ∧ H t = some (clO c) := fun k => by
      obtain ⟨c, hc⟩ := hw k
      obtain ⟨t, h1, h2⟩ := hL.get hc
      exact ⟨c, t, hc, h1, h2⟩
    have hn : (kvF ks f).length = ks.length := kvF_len ks f
    refine q_forR1 (ea_cons (ev_is (ev_lenD (ev_fld (ev_var rfl) ha t.c_Days t.a_Days_owndays fd1) hd) (by rw [hn])) ea_nil) (by omega) (fun i σ' H' => Ex H H' ∧ ∃ x, σ' = [some (.ref a), some (.str (Ld.walk L v i)), x, none]) (fun H1 e1 => ⟨e1, none, rfl⟩) ?_ ?_
    · rintro i σ' H' hi ⟨e1, x, rfl⟩
      obtain ⟨c, tc, h1, h2, h3⟩ := cl i
      refine s_asg (ev_op (ev_dget (k := Sum.inr (Ld.walk L v i)) (ev_fld (ev_var rfl) (e1 _ _ ha) t.c_Days t.a_Days_ownlast fl1) (ev_var rfl) (e1 _ _ hl) h2) ev_c (rv_ixT (st_of (e1 _ _ h3)) rfl)) fun H2 e2 => ⟨e1.trans e2, some (.int (i : Nat)), ?_⟩
      rw [walk_next h1]
      rfl
    · rintro σ' H' ⟨e1, x, rfl⟩
      have en : (((ks.length : Nat) : Int)).toNat = ks.length := by omega
      rw [en]
      obtain ⟨c0, t0, h1, h2, h3⟩ := cl ks.length
      refine q_asgL (el_lst (ea_cons (ev_dget (k := Sum.inr (Ld.walk L v ks.length)) (ev_fld (ev_var rfl) (e1 _ _ ha) t.c_Days t.a_Days_ownlast fl1) (ev_var rfl) (e1 _ _ hl) h2) ea_nil) (by show 1 ≤ 100000; decide)) (fun fp H2 hfp e2 hf => ?_)
      have hfp0 : H fp = none := fresh_back e1 hfp
      refine q_while (fun m σ2 H3 => ∃ (j : Nat) (ys : List V) (tc : Addr) (c : Cl), m + j + 1 = p ∧ σ2 = [some (.ref a), some (.str (Ld.walk L v ks.length)), x, some (.ref fp)] ∧ Ex H H3 ∧ H3 fp = some (.lst (ys ++ [.ref tc])) ∧ ys.length = j ∧ L (Ld.walk L v (ks.length + j)) = some c ∧ H3 tc = some (clO c))
        (p - 1) ⟨0, [], t0, c0, by omega, rfl, e1.trans e2, hf, rfl, h1, (e1.trans e2) _ _ h3⟩ ?_
      rintro m σ2 H3 ⟨j, ys, tc, c, hm, rfl, e3, hf3, hys, hc, htc⟩
      have hlast : atI (ys ++ [V.ref tc]) (-1) = some (.ref tc) := atI_last _ _
      have hnx : Ld.walk L v (ks.length + j + 1) = c.other := walk_next hc
      refine ⟨_, et_test (ev_op (ev_op (ev_op (ev_var rfl) (ev_un ev_c ru_neg) (rv_ixL (sq_of hf3) hlast)) ev_c (rv_ixT (st_of htc) rfl)) (ev_var rfl) (rv_ne rfl)), fun hb H4 e4 => ?_, fun hb H4 e4 => ?_⟩
      · have hne : ¬ c.other = Ld.walk L v ks.length := fun e => by
          rw [e] at hb
          simp at hb
        have hjp : j + 1 ≠ p := fun e => hne (by rw [← hnx, ← hper]; congr 1; omega)
        obtain ⟨c', t', g1, g2, g3⟩ := cl (ks.length + j + 1)
        rw [hnx] at g2
        refine ⟨fun σ2 H3 => ∃ (j : Nat) (ys : List V) (tc : Addr) (c : Cl), m - 1 + j + 1 = p ∧ σ2 = [some (.ref a), some (.str (Ld.walk L v ks.length)), x, some (.ref fp)] ∧ Ex H H3 ∧ H3 fp = some (.lst (ys ++ [.ref tc])) ∧ ys.length = j ∧ L (Ld.walk L v (ks.length + j)) = some c ∧ H3 tc = some (clO c), fun σ2 H3 h => ⟨m - 1, by omega, h⟩, ?_⟩
        have e5 := e3.trans e4
        refine s_app (e4 _ _ hf3) (ev_var rfl) (ev_dget (k := Sum.inr c.other) (ev_fld (ev_var rfl) (e5 _ _ ha) t.c_Days t.a_Days_ownlast fl1) (ev_op (ev_op (ev_var rfl) (ev_un ev_c ru_neg) (rv_ixL (sq_of (e4 _ _ hf3)) hlast)) ev_c (rv_ixT (st_of (e4 _ _ htc)) rfl)) (e5 _ _ hl) g2) (by rw [List.length_append, List.length_singleton]; omega) fun H5 e6 => ?_
        have ex6 : Ex H (upd H5 fp (.lst (ys ++ [.ref tc] ++ [.ref t']))) := (e5.trans e6).mut hfp0
        exact ⟨j + 1, ys ++ [.ref tc], t', c', by omega, rfl, ex6, upd_same, by rw [List.length_append, List.length_singleton, hys], g1, ex6 _ _ g3⟩
      · exact s_ret (ev_var rfl) fun H5 e5 => q fp _ H5 ((e3.trans e4).trans e5) (e5 _ _ (e4 _ _ hf3))
/-! ### ring -/
/-- a Days object that is done: its days, its ring or None -/
structure DyE (K : PySem.W.Frag) (H : Hp) (a : Addr) (ks : List Str) (f : Str → Int) (none? : Bool) : Prop where
  ex : ∃ (dx dd : Addr) (fs : List (Str × V)) (r : V), H a = some (.ins (He.ga K "Days") dx fs) ∧ fs.lookup ("own_days" : Str) = some (.ref dd) ∧ fs.lookup ("own_ring" : Str) = some r ∧ fs.lookup ("ring" : Str) = none ∧ fs.lookup ("dates" : Str) = none ∧ H dd = some (.dK (kvF ks f)) ∧
    ((none? = true ∧ r = .non) ∨ (none? = false ∧ ∃ p xs, r = .ref p ∧ H p = some (.lst xs)))
theorem DyE.mono {H H' : Hp} {a : Addr} {ks : List Str} {f : Str → Int} {b : Bool} (h : DyE K H a ks f b) (e : Ex H H') : DyE K H' a ks f b := by
  obtain ⟨dx, dd, fs, r, h1, h2, h3, h4, h5, h6, h7⟩ := h.ex
  refine ⟨dx, dd, fs, r, e _ _ h1, h2, h3, h4, h5, e _ _ h6, ?_⟩
  rcases h7 with h7 | ⟨h7, p, xs, h8, h9⟩
  · exact .inl h7
  · exact .inr ⟨h7, p, xs, h8, e _ _ h9⟩
def spRing (K : PySem.W.Frag) : Sp := fun vs H Q _ => ∃ (a : Addr) (ks : List Str) (f : Str → Int) (b : Bool), vs = [.ref a] ∧ DyE K H a ks f b ∧ (b = true → ∀ H', Ex H H' → Q .non H') ∧ (b = false → ∀ p H', Ex H H' → Q (.ref p) H')
theorem ok_Dyring (t : Tx K mg) : Ok P w K mg base 1 (He.ma K (He.ga K "Days") "ring") p_Dyring (spRing K) := by
  obtain ⟨fd, F⟩ := t.def_Dyring
  refine ok_of F sc_Dyring (fun _ _ _ _ _ _ us hl => match us, hl with | [_], _ => rfl) (fun vs H Q E h => ?_) (fun cdv A outer s H vs Q E hr h => ?_)
  · obtain ⟨a, ks, f, b, rfl, _⟩ := h
    rfl
  · obtain ⟨a, ks, f, b, rfl, d, q1, q2⟩ := h
    refine ⟨_, pss_one (ps_ret (pe_ifExp (pt_cmpR op_isN (pe_fld (pv 0) rfl) pe_non (nomark _)) pe_non (pe_callTy call_list_of (by rfl) t.f_list boot_list' (pa_cons (pe_fld (pv 0) rfl) pa_nil)))), ?_⟩
    obtain ⟨dx, dd, fs, r, h1, h2, h3, _, _, h6, h7⟩ := d.ex
    rcases h7 with ⟨rfl, rfl⟩ | ⟨rfl, p, xs, rfl, hp⟩
    · exact s_ret (ev_if (et_test (ev_op (ev_fld (ev_var rfl) h1 t.c_Days t.a_Days_ownring h3) ev_c (rv_val fun H1 _ Q q => ⟨rfl, q⟩))) (fun _ => ev_c) (fun e => nomatch e)) (q1 rfl)
    · refine ⟨_, rfl, a, _, _, _, _, rfl, h1, t.c_Days, t.a_Days_ownring, h3, rfl, _, rfl, iteF ?_⟩
      exact (el_list1 (xs := xs) (ev_fld (ev_var rfl) h1 t.c_Days t.a_Days_ownring h3) hp) H (Ex.refl H) _ fun p' H' _ e' _ => q2 rfl p' H' e'
end
end LdP
/-! # LdF -/
/-! rows.Days: dates, __init__ -/
namespace LdP
open PySem PySem.Spec PyProof.Rows L2 Evl
theorem givenD_filter (zs : List Str) (p : Str → Bool) (g : Str → V) : givenD zs.length (fun i => p (zs.getD i day)) (fun i => zs.getD i day) (fun i => g (zs.getD i day)) = (zs.filter p).map fun z => (Sum.inr z, g z) := by
  have e : zs = (List.range zs.length).map fun i => zs.getD i day := by
    refine List.ext_getElem (by simp) fun i h1z h2z => ?_
    simp [h1z]
  have e2 : (zs.filter p).map (fun z => ((Sum.inr z : Key), g z)) = (((List.range zs.length).map fun i => zs.getD i day).filter p).map fun z => (Sum.inr z, g z) := by rw [← e]
  rw [e2, List.filter_map, List.map_map]
  rfl
theorem getD_of {zs : List Str} {i : Nat} {z : Str} (h : zs[i]? = some z) : zs.getD i day = z := by
  rw [List.getD_eq_getElem?_getD, h]
  rfl
/-- the moments sl, sorted, and with the fixed day among them: yk -/
structure Mom (sl yk : List Str) : Prop where
  day : day ∉ sl
  nd : sl.Nodup
  so : sortedS sl = true
  yk : Srt (sl ++ [LdP.day]) yk
  len : sl.length ≤ 8
theorem Mom.filt {sl yk : List Str} (m : Mom sl yk) : yk.filter (fun z => !decide (V.str z = V.str "day")) = sl := by
  have hp : (fun z : Str => !decide (V.str z = V.str "day")) = fun z => !decide (z = LdP.day) := by
    funext z
    congr 1
    by_cases e : z = LdP.day
    · subst e
      rfl
    · rw [decide_eq_false e]
      exact decide_eq_false fun q => e (V.str.inj q)
  rw [hp]
  have p1 : (yk.filter fun z => !decide (z = LdP.day)).Perm ((sl ++ [LdP.day]).filter fun z => !decide (z = LdP.day)) := m.yk.1.filter _
  have e1 : (sl ++ [LdP.day]).filter (fun z => !decide (z = LdP.day)) = sl := by
    rw [List.filter_append, List.filter_eq_self.mpr fun z hz => ?_]
    · simp
    · simp only [Bool.not_eq_true', decide_eq_false_iff_not]
      rintro rfl
      exact m.day hz
  rw [e1] at p1
  exact sorted_unique p1 ((pairwise_of_sorted m.yk.2).sublist List.filter_sublist) (pairwise_of_sorted m.so)
theorem Mom.ndk {sl yk : List Str} (m : Mom sl yk) : yk.Nodup := by
  refine m.yk.1.nodup_iff.mpr ?_
  rw [List.nodup_append]
  refine ⟨m.nd, by simp, fun a ha b hb => ?_⟩
  rw [List.mem_singleton.mp hb]
  rintro rfl
  exact m.day ha
theorem nodup_ne {zs : List Str} (h : zs.Nodup) {i j : Nat} (hij : i < j) (hj : j < zs.length) : zs.getD i day ≠ zs.getD j day := by
  rw [List.getD_eq_getElem?_getD, List.getD_eq_getElem?_getD, List.getElem?_eq_getElem hj, List.getElem?_eq_getElem (show i < zs.length by omega)]
  intro e
  have := (List.getElem_inj h).mp e
  omega
section
variable {base : Heap} {mg : Str → Option Value} {K : PySem.W.Frag} {w : World} {P : Program}
def spDyDates (K : PySem.W.Frag) : Sp := fun vs H Q _ => ∃ (a : Addr) (sl yk : List Str) (f : Str → Int) (b : Bool), vs = [.ref a] ∧ DyE K H a (sl ++ [day]) f b ∧ Mom sl yk ∧ ∀ p H', H p = none → Ex H H' → H' p = some (.dK (kvF sl fun m => f m - f day)) → Q (.ref p) H'
theorem ok_Dydates (t : Tx K mg) : Ok P w K mg base 1 (He.ma K (He.ga K "Days") "dates") p_Dydates (spDyDates K) := by
  obtain ⟨fd, F⟩ := t.def_Dydates
  refine ok_of F sc_Dydates (fun _ _ _ _ _ _ us hl => match us, hl with | [_], _ => rfl) (fun vs H Q E h => ?_) (fun cdv A outer s H vs Q E hr h => ?_)
  · obtain ⟨a, sl, yk, f, b, rfl, _⟩ := h
    rfl
  · obtain ⟨a, sl, yk, f, b, rfl, d, hm, q⟩ := h
    obtain ⟨uZ, eZ⟩ := t.k_ZERO
    have hu := hu_of hr
    refine ⟨_, pss_cons (ps_set (i := 1) sc_Dydates.nd rfl (Or.inr rfl) (pe_dget hu (pe_fld (pv 0) rfl) (pe_glob (v := .str "day") (by rfl) eZ ⟨_, rfl⟩) (fun _ _ => rfl)))
      (pss_one (ps_ret (pe_dc (own := [("moment", 2)]) (g := gName 2) (tv := tOp (rI0 fun i j => .int (i - j)) (tDGet (tFld K (tVar 0) "own_days") (tVar 2)) (tVar 1)) rfl sc_Dydates.nd (pi_list (pe_callB (call_sortedD rfl) (by rfl) t.f_sorted (by decide +kernel) (pa_cons (pe_fld (pv 0) rfl) pa_nil))) (blkOk_by (own := [("moment", 2)]) (N := n_Dydates) (sc := defScope s_Dydates) (by decide +kernel))
        (fun _ _ _ _ _ => pg_name (i := 2) sc_Dydates.nd rfl (Or.inl rfl)) (fun _ _ _ _ _ => pts_one (pt_cmpR op_ne (pv 2) (pe_glob (v := .str "day") (by rfl) eZ ⟨_, rfl⟩) (nomark _))) (fun _ _ _ _ _ => pv 2)
        (fun _ _ _ _ _ => pe_op op_sub (pe_dget (by exact hu) (pe_fld (pv 0) rfl) (pv 2) (fun _ _ => rfl)) (pv 1))))), ?_⟩
    obtain ⟨dx, dd, fs, r, ha, hfd, _, _, _, hdd, _⟩ := d.ex
    have hday : day ∈ sl ++ [day] := List.mem_append_right _ (List.mem_singleton.mpr rfl)
    refine q_asg (ev_dget (k := Sum.inr day) (ev_fld (ev_var rfl) ha t.c_Days t.a_Days_owndays hfd) ev_c hdd (kvF_val hday)) (fun H1 e1 => ?_)
    have hl : yk.length ≤ 9 := by
      rw [hm.yk.1.length_eq, List.length_append, List.length_singleton]
      have := hm.len
      omega
    have key := ed_dcNL (zs := yk) (tl := tCB (fun xs H Q => ∃ (a : Addr) (kvs : List (Key × V)) (ks : List Str), xs = [.ref a] ∧ Rd H a (.dK kvs) ∧ kvs.map (·.1) = ks.map Sum.inr ∧ ks.length < 64 ∧ ∀ ys p, ys.Perm ks → sortedS ys = true → H p = none → Q (.ref p) (upd H p (.lst (ys.map V.str)))) (tCons (tFld K (tVar 0) "own_days") tNil))
      (K := K) (σ := [some (.ref a), some (.int (f day)), none]) (H := H1) (j := 2) (vs := [2]) (tk := tVar 2) (tv := tOp (rI0 fun i j => .int (i - j)) (tDGet (tFld K (tVar 0) "own_days") (tVar 2)) (tVar 1)) (t := tTest (tOp rNe (tVar 2) (tC (.str "day"))))
      (fun i => (fun z => !decide (V.str z = V.str "day")) (yk.getD i day)) (fun i => yk.getD i day) (fun i => (fun z => V.int (f z - f day)) (yk.getD i day))
      (el_sortedD (ev_fld (ev_var rfl) (e1 _ _ ha) t.c_Days t.a_Days_owndays hfd) (e1 _ _ hdd) (kvF_keys _ _) (by rw [List.length_append, List.length_singleton]; have := hm.len; omega) (fun zs h1 h2 => Srt.unique ⟨h1, h2⟩ hm.yk)) (by omega) (fun _ => rfl)
      (fun i j hij hj _ _ => nodup_ne hm.ndk hij hj) (fun i x H2 e2 hx => by
        rw [getD_of hx]
        exact et_test (ev_op (ev_var rfl) ev_c (rv_ne rfl))) (fun i x H2 e2 hx _ => by
        rw [getD_of hx]
        exact ev_var rfl) (fun i x H2 e2 hx _ => by
        rw [getD_of hx]
        have hx2 : x ∈ sl ++ [day] := hm.yk.1.mem_iff.mp (List.mem_of_getElem? hx)
        exact ev_op (ev_dget (k := Sum.inr x) (ev_fld (ev_var rfl) ((e1.trans e2) _ _ ha) t.c_Days t.a_Days_owndays hfd) (ev_var rfl) ((e1.trans e2) _ _ hdd) (kvF_val hx2)) (ev_var rfl) rv_I0)
    rw [givenD_filter yk (fun z => !decide (V.str z = V.str "day")) (fun z => V.int (f z - f day)), hm.filt] at key
    exact key H1 (Ex.refl H1) _ fun p H2 hp e2 h2 => q p H2 (fresh_back e1 hp) (e1.trans e2) h2
end
end LdP
/-! # LdG -/
/-! rows.Days.__init__ -/
namespace LdP
open PySem PySem.Spec PyProof.Rows L2 Evl
section
variable {base : Heap} {mg : Str → Option Value} {K : PySem.W.Frag} {w : World} {P : Program}
def spDyInit (K : PySem.W.Frag) : Sp := fun vs H Q _ => ∃ (H0 : Hp) (a dx m c : Addr) (ks : List Str) (ts : List Addr) (cs : List Cl), vs = [.ref a, .ref m, .ref c] ∧ Ex H0 H ∧ H0 a = none ∧ H a = some (.ins (He.ga K "Days") dx []) ∧
  H0 m = some (.lst (ks.map V.str)) ∧ H0 c = some (.lst (ts.map V.ref)) ∧ ClP H0 ts cs ∧ ks.Nodup ∧ ks.length ≤ 20 ∧ cs.length ≤ 60 ∧ (∀ x ∈ cs, x.one ∈ ks ∧ x.other ∈ ks) ∧
  ∀ H', Ex H0 H' → DyE K H' a ks (Ld.rounds cs (ks.length + 1)).f (Ld.rounds cs (ks.length + 1)).ch.isNone → Q .non H'
theorem lr_ne : ¬ (("own_last" : Str) = "own_days") := by decide +kernel
theorem rl_ne : ¬ (("own_days" : Str) = "own_last") := by decide +kernel
def dyF (dd ll : Addr) : List (Str × V) := putF "own_last" (.ref ll) (putF "own_days" (.ref dd) [])
theorem dyF_d (dd ll : Addr) : (dyF dd ll).lookup ("own_days" : Str) = some (.ref dd) := by
  unfold dyF
  rw [lookup_putF, if_neg rl_ne, lookup_putF, if_pos rfl]
theorem dyF_l (dd ll : Addr) : (dyF dd ll).lookup ("own_last" : Str) = some (.ref ll) := by
  unfold dyF
  rw [lookup_putF, if_pos rfl]
theorem dyF_no (dd ll : Addr) {x : Str} (h1 : ¬ x = "own_last") (h2 : ¬ x = "own_days") : (dyF dd ll).lookup x = none := by
  unfold dyF; rw [lookup_putF, if_neg h1, lookup_putF, if_neg h2]
  rfl
theorem putF_len (f : Str) (v : V) : ∀ fs : List (Str × V), (putF f v fs).length ≤ fs.length + 1
  | [] => Nat.le_refl _
  | (g, x) :: r => by
    show (if g = f then (g, v) :: r else (g, x) :: putF f v r).length ≤ _
    split
    · simp
    · have := putF_len f v r
      simp only [List.length_cons]
      omega
theorem dyF_len (dd ll : Addr) : (dyF dd ll).length < 1000 := by
  unfold dyF
  have h1 := putF_len "own_last" (.ref ll) (putF "own_days" (.ref dd) [])
  have h2 := putF_len "own_days" (.ref dd) []
  simp only [List.length_nil] at h2
  omega
theorem givenD_map (zs : List Str) (g : Str → V) : givenD zs.length (fun _ => true) (fun i => zs.getD i day) (fun i => g (zs.getD i day)) = zs.map fun z => (Sum.inr z, g z) := by
  have := givenD_filter zs (fun _ => true) g
  rw [List.filter_eq_self.mpr fun _ _ => rfl] at this
  exact this
theorem ok_DyInit (t : Tx K mg) : Ok P w K mg base 2 (He.ma K (He.ga K "Days") "__init__") p_DyInit (spDyInit K) := by
  have G1 := ok_Dychangedby (P := P) (w := w) (base := base) t
  have G2 := ok_Dyringat (P := P) (w := w) (base := base) t
  obtain ⟨fd, F⟩ := t.def_DyInit
  refine ok_of F sc_DyInit (fun _ _ _ _ _ _ us hl => match us, hl with | [_, _, _], _ => rfl) (fun vs H Q E h => ?_) (fun cdv A outer s H vs Q E hr h => ?_)
  · obtain ⟨H0, a, dx, m, c, ks, ts, cs, rfl, _⟩ := h
    rfl
  · obtain ⟨H0, a, dx, m, c, ks, ts, cs, rfl, e0, ha0, ha, hm, hc, hcs, hnd, h20, h60, hks, q⟩ := h
    have hu := hu_of hr
    refine ⟨_, pss_cons (ps_fld (pv 0) (pe_dc (own := [("moment", 5)]) (g := gName 5) (tt := tYes) rfl sc_DyInit.nd (pi_list (pv 1)) (blkOk_by (own := [("moment", 5)]) (N := n_DyInit) (sc := defScope s_DyInit) (by decide +kernel))
        (fun _ _ _ _ _ => pg_name (i := 5) sc_DyInit.nd rfl (Or.inl rfl)) (fun _ _ _ _ _ => pts_nil) (fun _ _ _ _ _ => pv 5) (fun _ _ _ _ _ => pe_int)) rfl)
      (pss_cons (ps_fld (pv 0) pe_dnewK rfl)
      (pss_cons (ps_set (i := 3) sc_DyInit.nd rfl (Or.inl rfl) pe_non)
      (pss_cons (ps_for PassesOwn.never rfl (pi_range1 (by rfl) t.f_range (pa_cons (pe_op op_add (pe_callB call_lenD (by rfl) t.f_len boot_len' (pa_cons (pe_fld (pv 0) rfl) pa_nil)) pe_int) pa_nil)) (pg_name (i := 4) sc_DyInit.nd rfl (Or.inl rfl))
        (pss_one (ps_set (i := 3) sc_DyInit.nd rfl (Or.inl rfl) (pe_md (pv 0) t.c_Days t.m_Days_changedby G1 hr (pa_cons (pv 2) pa_nil)))))
      (pss_one (ps_fld (pv 0) (pe_ifExp (pt_cmpR op_isN (pv 3) pe_non (nomark _)) pe_non (pe_md (pv 0) t.c_Days t.m_Days_ringat G2 hr (pa_cons (pv 3) pa_nil))) rfl))))), ?_⟩
    -- self.own_days = {moment: 0 for moment in moments}
    refine q_fldD (kvs := kvF ks fun _ => 0) ?_ (ev_var rfl) ha t.c_Days t.a_Days_owndays (by show 0 < 1000; decide) (fun dd H1 hdd e1 hD => ?_)
    · have key := ed_dcL (K := K) (zs := ks) (σ := start n_DyInit [.ref a, .ref m, .ref c]) (H := H) (j := 5) (vs := [5]) (tl := tVar 1) (tk := tVar 5) (tv := tC (.int 0)) (t := tYes) (fun _ => true) (fun i => ks.getD i day) (fun i => (fun _ => V.int 0) (ks.getD i day)) (ev_var rfl) (e0 _ _ hm) (by omega) (fun _ => rfl)
        (fun i j hij hj _ _ => nodup_ne hnd hij hj) (fun _ _ _ _ _ => fun H2 _ Q2 q2 => q2 H2 (Ex.refl H2)) (fun i x H2 _ hx _ => by
          rw [getD_of hx]
          exact ev_var rfl) (fun _ _ _ _ _ _ => ev_c)
      rw [givenD_map ks (fun _ => V.int 0)] at key
      exact key
    have hda : dd ≠ a := fun e => by
      rw [e, ha] at hdd
      cases hdd
    have x1 : Ex H0 (upd H1 a (.ins (He.ga K "Days") dx (putF "own_days" (.ref dd) []))) := (e0.trans e1).mut ha0
    generalize hG1 : upd H1 a (.ins (He.ga K "Days") dx (putF "own_days" (.ref dd) [])) = G at x1 ⊢
    have haG : G a = some (.ins (He.ga K "Days") dx (putF "own_days" (.ref dd) [])) := by rw [← hG1, upd_same]
    have hdG : G dd = some (.dK (kvF ks fun _ => 0)) := by rw [← hG1, upd_ne hda]; exact hD
    -- self.own_last = {}
    refine q_fldD ed_new (ev_var rfl) haG t.c_Days t.a_Days_ownlast (by have := putF_len "own_days" (.ref dd) []; simp only [List.length_nil] at this; omega) (fun ll H2 hll e2 hL => ?_)
    have hla : ll ≠ a := fun e => by
      rw [e, haG] at hll
      cases hll
    have hld : dd ≠ ll := fun e => by
      rw [← e, hdG] at hll
      cases hll
    have x2 : Ex H0 (upd H2 a (.ins (He.ga K "Days") dx (dyF dd ll))) := (x1.trans e2).mut ha0
    have d0 : DyS K H0 (upd H2 a (.ins (He.ga K "Days") dx (dyF dd ll))) a dx (dyF dd ll) dd ll ks (Ld.rounds cs 0) 0 := by
      refine ⟨x2, ha0, fresh_back e0 hdd, fresh_back x1 hll, hld, by omega, upd_same, dyF_d _ _, dyF_l _ _, ?_, [], ?_, Nat.le_refl _, fun m => rfl⟩
      · rw [upd_ne hda]
        exact e2 _ _ hdG
      · rw [upd_ne hla]
        exact hL
    show _
    generalize hG2 : upd H2 a (.ins (He.ga K "Days") dx (putF "own_last" (.ref ll) (putF "own_days" (.ref dd) []))) = G2'
    have d1 : DyS K H0 G2' a dx (dyF dd ll) dd ll ks (Ld.rounds cs 0) 0 := by rw [← hG2]; exact d0
    refine q_asg ev_c (fun H3 e3 => ?_)
    have hn : ((kvF ks (Ld.rounds cs 0).f).length : Int) + 1 = ((ks.length + 1 : Nat) : Int) := by rw [kvF_len]; omega
    refine q_forR1 (ea_cons (ev_is (ev_op (ev_lenD (ev_fld (ev_var rfl) (d1.mono e3).ha t.c_Days t.a_Days_owndays (dyF_d _ _)) (d1.mono e3).hd) ev_c rv_I0) (by rw [hn])) ea_nil) (by omega)
      (fun i σ' H' => ∃ x, σ' = [some (.ref a), some (.ref m), some (.ref c), some (chV (Ld.rounds cs i).ch), x, none] ∧ DyS K H0 H' a dx (dyF dd ll) dd ll ks (Ld.rounds cs i) (i * cs.length)) (fun H4 e4 => ⟨none, rfl, by rw [Nat.zero_mul]; exact d1.mono (e3.trans e4)⟩) ?_ ?_
    · rintro i σ' H' hi ⟨x, rfl, d'⟩
      have hi2 : i ≤ ks.length := by omega
      have hsz : i * cs.length + cs.length ≤ 10000 := by
        have h1 : i * cs.length ≤ 20 * 60 := Nat.mul_le_mul (by omega) h60
        omega
      refine ⟨_, rfl, a, dx, _, rfl, d'.ha, dyF_no _ _ (by decide +kernel) (by decide +kernel), _, rfl, H0, a, dx, _, dd, ll, ks, _, _, i + 1, c, ts, cs, rfl, d', hc, hcs, hks, hsz, fun H5 d5 => ?_⟩
      refine ⟨_, rfl, ?_⟩
      rw [Nat.succ_mul]
      exact d5
    · rintro σ' H' ⟨x, rfl, d'⟩
      have en : (((ks.length + 1 : Nat) : Int)).toNat = ks.length + 1 := by omega
      rw [en] at d' ⊢
      -- what the object is at the end
      have fin : ∀ (r : V) (H5 : Hp), Ex H' H5 → (((Ld.rounds cs (ks.length + 1)).ch.isNone = true ∧ r = .non) ∨ ((Ld.rounds cs (ks.length + 1)).ch.isNone = false ∧ ∃ p xs, r = .ref p ∧ p ≠ a ∧ H5 p = some (.lst xs))) → Q .non (upd H5 a (.ins (He.ga K "Days") dx (putF "own_ring" r (dyF dd ll)))) := fun r H5 e5 hr5 => by
        have d5 := d'.mono e5
        refine q _ (d5.ex.mut ha0) ⟨dx, dd, _, r, upd_same, ?_, ?_, ?_, ?_, ?_, ?_⟩
        · rw [lookup_putF, if_neg (by decide +kernel)]
          exact dyF_d _ _
        · rw [lookup_putF, if_pos rfl]
        · rw [lookup_putF, if_neg (by decide +kernel)]
          exact dyF_no _ _ (by decide +kernel) (by decide +kernel)
        · rw [lookup_putF, if_neg (by decide +kernel)]
          exact dyF_no _ _ (by decide +kernel) (by decide +kernel)
        · rw [upd_ne d5.ad.symm]
          exact d5.hd
        · rcases hr5 with h | ⟨h, p, xs, h1, h2, h3⟩
          · exact .inl h
          · exact .inr ⟨h, p, xs, h1, by rw [upd_ne h2]; exact h3⟩
      cases hch : (Ld.rounds cs (ks.length + 1)).ch with
      | none =>
        refine s_fld (ev_if (et_test (ev_op (ev_var rfl) ev_c (rv_val fun H1 _ Q q => ⟨rfl, q⟩))) (fun _ => ev_c) (fun e => ?_)) (ev_var rfl) d'.ha t.c_Days t.a_Days_ownring (dyF_len _ _) (fun H5 e5 => fin .non H5 e5 (.inl ⟨by rw [hch]; rfl, rfl⟩))
        cases e
      | some v =>
        obtain ⟨lkv, hl1, hl2, hl3⟩ := d'.hl
        obtain ⟨w1, w2⟩ := Ld.walk_ring hks hch
        refine ⟨_, rfl, rfl, _, rfl, ?_⟩; refine iteF ?_
        refine ⟨_, rfl, a, dx, _, rfl, d'.ha, dyF_no _ _ (by decide +kernel) (by decide +kernel), _, rfl, a, dx, _, dd, ll, ks, _, lkv, _, v, rfl, d'.ha, dyF_d _ _, dyF_l _ _, d'.hd, hl1, hl3.ex d'.ex, by omega, w1, w2, fun p xs H5 e5 hp => ?_⟩
        refine ⟨_, rfl, a, _, dx, _, rfl, e5 _ _ d'.ha, t.c_Days, t.a_Days_ownring, dyF_len _ _, ?_⟩
        exact fin (.ref p) H5 e5 (.inr ⟨by rw [hch]; rfl, p, xs, rfl, ne_of hp (e5 _ _ d'.ha) (fun z => nomatch z), hp⟩)
end
end LdP
/-! # LdC -/
/-! Calendar.__init__ -/
namespace LdP
open PySem PySem.Spec PyProof.Rows L2 Evl
section
variable {base : Heap} {mg : Str → Option Value} {K : PySem.W.Frag} {w : World} {P : Program}
/-- from a new object at a (H0 does not know it), moments at m, clauses at c -/
def spCaInit (K : PySem.W.Frag) : Sp := fun vs H Q _ => ∃ (H0 : Hp) (a dx m c : Addr) (labs sl : List Str) (ts : List Addr) (cs : List Cl), vs = [.ref a, .ref m, .ref c] ∧ Ex H0 H ∧ H0 a = none ∧ H a = some (.ins (He.ga K "Calendar") dx []) ∧
  H0 m = some (.lst (labs.map V.str)) ∧ H0 c = some (.lst (ts.map V.ref)) ∧ ClP H0 ts cs ∧ SlW labs ∧ labs.Nodup ∧ labs.length ≤ 8 ∧ Srt labs sl ∧ (∀ x ∈ cs, ClW labs x) ∧ cs.Nodup ∧ cs.length ≤ 40 ∧
  ∀ H', Ex H0 H' → CalAt K H' a sl cs → Q .non H'
theorem nodup_take {α : Type} {xs : List α} (h : xs.Nodup) {i : Nat} {x : α} (hx : xs[i]? = some x) : x ∉ xs.take i := by
  intro hm
  obtain ⟨j, hj, e⟩ := List.mem_iff_getElem.mp hm
  rw [List.length_take] at hj
  have hi := (List.getElem?_eq_some_iff.mp hx).1
  have e2 : xs[j]'(by omega) = x := by rw [← e, List.getElem_take]
  have e3 : xs[i] = x := (List.getElem?_eq_some_iff.mp hx).2
  have := (List.getElem_inj h).mp (e2.trans e3.symm)
  omega
theorem ok_CaInit (t : Tx K mg) : ∃ fd, FnOk P w K mg base CX0 6 (He.ma K (He.ga K "Calendar") "__init__") fd p_CaInit (spCaInit K) ∧ Binds K fd p_CaInit [] := by
  have G1 := (ok_islist (P := P) (w := w) (base := base) t).mono (show 1 ≤ 5 by decide)
  have G2 := (ok_isname (P := P) (w := w) (base := base) t).mono (show 1 ≤ 5 by decide)
  have G3 := (ok_Caisownform (P := P) (w := w) (base := base) t).mono (show 4 ≤ 5 by decide)
  obtain ⟨fd, F⟩ := t.def_CaInit
  refine ⟨fd, F.ok sc_CaInit (fun vs H Q E h => ?_) (fun cdv A outer s H vs Q E hr h => ?_), ?_⟩
  · obtain ⟨H0, a, dx, m, c, labs, sl, ts, cs, rfl, _⟩ := h
    rfl
  · obtain ⟨H0, a, dx, m, c, labs, sl, ts, cs, rfl, e0, ha0, ha, hm, hc, hcs, hw, hnd, h8, hsl, hcw, hcn, h40, q⟩ := h
    obtain ⟨u1, hu1⟩ := t.mostM
    obtain ⟨u2, hu2⟩ := t.mostC
    refine ⟨_, PSs.nox (pss_cons (ps_if (pt_not (pt_val (pe_fn G1 hr t.g_islist (pa_cons (pv 1) pa_nil)))) pss_never pss_nil)
      (pss_cons (ps_for PassesOwn.never rfl (pi_enum (by rfl) t.f_enumerate (pa_cons (pv 1) pa_nil)) (pg_tup rfl (pgs_cons (pg_name (i := 3) sc_CaInit.nd rfl (Or.inl rfl)) (pgs_cons (pg_name (i := 4) sc_CaInit.nd rfl (Or.inl rfl)) pgs_nil)))
        (pss_one (ps_if (PW.pt (pw_or (pt_not (pt_val (pe_fn G2 hr t.g_isname (pa_cons (pv 4) pa_nil)))) (pw_or1 (pt_cmpR op_in_seq (pv 4) (pe_slice sl_list (pv 1) po_none (po_some (pv 3))) rfl)))) pss_never pss_nil)))
      (pss_cons (ps_fld (pv 0) (pe_callB cr_sortedS (by rfl) t.f_sorted (by decide +kernel) (pa_cons (pv 1) pa_nil)) rfl)
      (pss_cons (ps_if (pt_not (pt_val (pe_fn G1 hr t.g_islist (pa_cons (pv 2) pa_nil)))) pss_never pss_nil)
      (pss_cons (ps_for PassesOwn.never rfl (pi_enum (by rfl) t.f_enumerate (pa_cons (pv 2) pa_nil)) (pg_tup rfl (pgs_cons (pg_name (i := 3) sc_CaInit.nd rfl (Or.inl rfl)) (pgs_cons (pg_name (i := 5) sc_CaInit.nd rfl (Or.inl rfl)) pgs_nil)))
        (pss_one (ps_if (PW.pt (pw_or (pt_not (pt_val (pe_md (pv 0) t.c_Calendar t.m_Calendar_isownform G3 hr (pa_cons (pv 5) pa_nil)))) (pw_or1 (pt_cmpR (op_inD (hu65 hr)) (pv 5) (pe_slice sl_list (pv 2) po_none (po_some (pv 3))) rfl)))) pss_never pss_nil)))
      (pss_cons (ps_fld (pv 0) (pe_callTy call_list_of (by rfl) t.f_list boot_list' (pa_cons (pv 2) pa_nil)) rfl)
      (pss_cons (ps_if (pt_cmpR op_gt (pe_callB call_len_seq (by rfl) t.f_len boot_len' (pa_cons (pe_fld (pv 0) rfl) pa_nil)) (pe_con (pv 0) rfl) (nomark _)) pss_never pss_nil)
      (pss_one (ps_if (pt_cmpR op_gt (pe_callB call_len_seq (by rfl) t.f_len boot_len' (pa_cons (pe_fld (pv 0) rfl) pa_nil)) (pe_con (pv 0) rfl) (nomark _)) pss_never pss_nil))))))))), ?_⟩
    have isl : ∀ {x : Addr} {xs : List V} {H1 : Hp}, H1 x = some (.lst xs) → SpV (spIsList K) ([.ref x] ++ []) H1 (.bl true) := fun {x xs H1} hx H2 e2 Q q E => ⟨.ref x, rfl, .inl ⟨x, xs, rfl, e2 _ _ hx⟩, q⟩
    have nea : ∀ {x : Addr} {o : HO}, H0 x = some o → x ≠ a := fun h => ne_free h ha0
    -- if not is_list(moments)
    refine q_when (b := false) (et_is (et_not (et_B (ev_call (ea_cons (ev_var rfl) ea_nil) (isl (e0 _ _ hm))))) rfl) (fun e => nomatch e) (fun _ H1 e1 => ?_)
    have x1 := e0.trans e1
    -- for position, moment in enumerate(moments)
    refine q_forE (xs := labs.map V.str) (ea_cons (ev_var rfl) ea_nil) (sq_of (x1 _ _ hm)) (fun i σ' H' => Ex H1 H' ∧ ∃ p x, σ' = [some (.ref a), some (.ref m), some (.ref c), p, x, none]) (fun H2 e2 => ⟨e2, none, none, rfl⟩) (fun i σ' H' _ p => sq_of (p.1 _ _ (x1 _ _ hm))) ?_ ?_
    · rintro i x T σ' H' hiz ⟨e2, p, x', rfl⟩ hT
      have hil : i < labs.length := by
        have := (List.getElem?_eq_some_iff.mp hiz).1
        rwa [List.length_map] at this
      obtain ⟨z, hz, rfl⟩ : ∃ z, labs[i]? = some z ∧ x = .str z := by
        rw [List.getElem?_map] at hiz
        rw [List.getElem?_eq_getElem hil] at hiz ⊢
        exact ⟨_, rfl, (Option.some.inj hiz).symm⟩
      have hzm : z ∈ labs := List.mem_of_getElem? hz
      have e3 : Ex H' (upd H' T (.tup [.int (i : Nat), .str z])) := Ex.new hT
      have hm3 := e3 _ _ (e2 _ _ (x1 _ _ hm))
      refine g_pair upd_same ?_
      refine s_when (b := false) (et_is (et_or (et_not (et_B (ev_call (ea_cons (ev_var rfl) ea_nil) (sv_isname (hw z hzm).1)))) fun _ => et_test (ev_opL (xs := (labs.take i).map V.str) (ev_var rfl) (fun H4 e4 Q4 q4 => ?_) (fun p H4 hp e4 => rv_isL (sq_of hp) rfl flat_strs))) ?_) (fun e => nomatch e) (fun _ H4 e4 => ⟨(e2.trans e3).trans e4, _, _, rfl⟩)
      · have hcut : cutV (labs.map V.str) none (some (i : Int)) = (labs.take i).map V.str := by
          rw [cutV_take _ (by rw [List.length_map]; omega), List.map_take]
        rw [← hcut] at q4
        exact el_sl (ev_var rfl) eo_none (eo_some (ev_var rfl)) (sq_of hm3) H4 e4 Q4 q4
      · rw [(hw z hzm).2.1, inV_str, decide_eq_false (nodup_take hnd hz)]
        rfl
    · rintro σ' H' ⟨e2, p, x, rfl⟩
      have ha' : H' a = some (.ins (He.ga K "Calendar") dx []) := e2 _ _ (e1 _ _ ha)
      have x2 := x1.trans e2
      -- self.own_moments = sorted(moments)
      refine q_fldL (ev_sorted (ev_var rfl) (x2 _ _ hm) (by omega) (fun zs p1 p2 => Srt.unique ⟨p1, p2⟩ hsl)) (ev_var rfl) ha' t.c_Calendar t.a_Calendar_ownmoments (by show 0 < 1000; decide) (fun m1 H3 hm1 e3 hM => ?_)
      have x3 : Ex H0 (upd H3 a (.ins (He.ga K "Calendar") dx (putF "own_moments" (.ref m1) []))) := (x2.trans e3).mut ha0
      have hma : m1 ≠ a := fun e => by
        rw [e, ha'] at hm1
        cases hm1
      generalize hH4 : upd H3 a (.ins (He.ga K "Calendar") dx (putF "own_moments" (.ref m1) [])) = H4 at x3 ⊢
      have ha4 : H4 a = some (.ins (He.ga K "Calendar") dx (putF "own_moments" (.ref m1) [])) := by rw [← hH4, upd_same]
      have hM4 : H4 m1 = some (.lst (sl.map V.str)) := by rw [← hH4, upd_ne hma]; exact hM
      have mom : MomAt K H4 a sl := ⟨dx, m1, _, ha4, by rw [lookup_putF, if_pos rfl], by rw [lookup_putF, if_neg (by decide +kernel)]; rfl, by rw [lookup_putF, if_neg (by decide +kernel)]; rfl, hM4⟩
      have hws : SlW sl := hw.perm hsl.1
      have hcw' : ∀ x ∈ cs, ClW sl x := fun x hx => by
        obtain ⟨h1, h2, h3⟩ := hcw x hx
        have pm : ∀ z, z ∈ labs ++ [day] → z ∈ sl ++ [day] := fun z hz => by
          rcases List.mem_append.mp hz with h | h
          · exact List.mem_append_left _ (hsl.1.mem_iff.mpr h)
          · exact List.mem_append_right _ h
        exact ⟨pm _ h1, pm _ h2, h3⟩
      -- if not is_list(clauses)
      refine q_when (b := false) (et_is (et_not (et_B (ev_call (ea_cons (ev_var rfl) ea_nil) (isl (x3 _ _ hc))))) rfl) (fun e => nomatch e) (fun _ H5 e5 => ?_)
      -- for position, clause in enumerate(clauses)
      refine q_forE (xs := ts.map V.ref) (ea_cons (ev_var rfl) ea_nil) (sq_of (e5 _ _ (x3 _ _ hc))) (fun i σ' H' => Ex H5 H' ∧ ∃ p x y, σ' = [some (.ref a), some (.ref m), some (.ref c), p, x, y]) (fun H6 e6 => ⟨e6, p, x, none, rfl⟩) (fun i σ' H' _ p => sq_of (p.1 _ _ (e5 _ _ (x3 _ _ hc)))) ?_ ?_
      · rintro i x T σ' H' hiz ⟨e6, p, x', y, rfl⟩ hT
        have hil : i < ts.length := by
          have := (List.getElem?_eq_some_iff.mp hiz).1
          rwa [List.length_map] at this
        obtain ⟨tc, htc, rfl⟩ : ∃ z, ts[i]? = some z ∧ x = .ref z := by
          rw [List.getElem?_map] at hiz
          rw [List.getElem?_eq_getElem hil] at hiz ⊢
          exact ⟨_, rfl, (Option.some.inj hiz).symm⟩
        obtain ⟨k, hk, hkt⟩ := paired_get hcs htc
        have hkm : k ∈ cs := List.mem_of_getElem? hk
        have x6 := (x3.trans e5).trans e6
        have e7 : Ex H' (upd H' T (.tup [.int (i : Nat), .ref tc])) := Ex.new hT
        have x7 := x6.trans e7
        have mom7 : MomAt K (upd H' T (.tup [.int (i : Nat), .ref tc])) a sl := mom.ex ((e5.trans e6).trans e7)
        obtain ⟨dx7, m7, fs7, ha7, _, hn7, _⟩ := id mom7
        have hno : fs7.lookup ("is_own_form" : Str) = none := by
          have := ((e5.trans e6).trans e7) _ _ ha4
          rw [ha7] at this
          have e9 := Option.some.inj this
          injection e9 with e10 e11 e12
          rw [e12, lookup_putF, if_neg (by decide +kernel)]
          rfl
        refine g_pair upd_same ?_
        refine s_when (b := false) (et_is (et_or (et_not (et_B (ev_meth (ev_var rfl) ha7 hno (ea_cons (ev_var rfl) ea_nil) (v := .bl true) (fun H8 e8 Q q E => ⟨a, tc, sl, k, rfl, mom7.ex e8, hws, e8 _ _ (x7 _ _ hkt), hcw' k hkm, q⟩)))) fun _ =>
          et_test (ev_opL (xs := (ts.take i).map V.ref) (ev_var rfl) (fun H8 e8 Q8 q8 => ?_) (fun p H8 hp e8 => rv_inC (e8 _ _ (x7 _ _ hkt)) hp (paired_take i (hcs.ex (x7.trans e8))) (clw_s hws (hcw' k hkm)) (fun d hd => clw_s hws (hcw' d (List.mem_of_mem_take hd)))))) ?_) (fun e => nomatch e) (fun _ H8 e8 => ⟨(e6.trans e7).trans e8, _, _, _, rfl⟩)
        · have hcut : cutV (ts.map V.ref) none (some (i : Int)) = (ts.take i).map V.ref := by
            rw [cutV_take _ (by rw [List.length_map]; omega), List.map_take]
          rw [← hcut] at q8
          exact el_sl (ev_var rfl) eo_none (eo_some (ev_var rfl)) (sq_of (x7 _ _ hc)) H8 e8 Q8 q8
        · rw [decide_eq_false (nodup_take hcn hk)]
          rfl
      · rintro σ' H' ⟨e6, p', x', y, rfl⟩
        have x6 := (x3.trans e5).trans e6
        have ha6 := (e5.trans e6) _ _ ha4
        -- self.own_clauses = list(clauses)
        refine q_fldL (el_list1 (ev_var rfl) (x6 _ _ hc)) (ev_var rfl) ha6 t.c_Calendar t.a_Calendar_ownclauses (by show 1 < 1000; decide) (fun c1 H7 hc1 e7 hC => ?_)
        have x7 : Ex H0 (upd H7 a (.ins (He.ga K "Calendar") dx (caF m1 c1))) := (x6.trans e7).mut ha0
        have hca : c1 ≠ a := fun e => by
          rw [e, ha6] at hc1
          cases hc1
        show _
        generalize hH8 : upd H7 a (.ins (He.ga K "Calendar") dx (putF "own_clauses" (.ref c1) (putF "own_moments" (.ref m1) []))) = H8
        have x8 : Ex H0 H8 := by rw [← hH8]; exact x7
        have ha8 : H8 a = some (.ins (He.ga K "Calendar") dx (caF m1 c1)) := by rw [← hH8, upd_same]; rfl
        have hM8 : H8 m1 = some (.lst (sl.map V.str)) := by rw [← hH8, upd_ne hma]; exact e7 _ _ ((e5.trans e6) _ _ hM4)
        have hC8 : H8 c1 = some (.lst (ts.map V.ref)) := by rw [← hH8, upd_ne hca]; exact hC
        have cal : CalAt K H8 a sl cs := ⟨dx, m1, c1, ha8, hM8, ts, hC8, hcs.ex x8⟩
        have hlen : sl.length ≤ 8 := by rw [hsl.1.length_eq]; exact h8
        have hlen2 : ts.length ≤ 40 := by rw [paired_len hcs]; exact h40
        refine q_when (b := false) (et_is (et_test (ev_op (ev_len (ev_fld (ev_var rfl) ha8 t.c_Calendar t.a_Calendar_ownmoments (caF_m _ _)) (sq_of hM8)) (ev_con (ev_var rfl) ha8 t.c_Calendar hu1 (caF_no _ _ (by decide +kernel) (by decide +kernel))) (rv_I0 (g := fun i j => .bl (decide (j < i)))))) ?_) (fun e => nomatch e) (fun _ H9 e9 => ?_)
        · rw [List.length_map]
          exact (decide_eq_false (by omega))
        have ha9 := e9 _ _ ha8
        refine s_when (b := false) (et_is (et_test (ev_op (ev_len (ev_fld (ev_var rfl) ha9 t.c_Calendar t.a_Calendar_ownclauses (caF_c _ _)) (sq_of (e9 _ _ hC8))) (ev_con (ev_var rfl) ha9 t.c_Calendar hu2 (caF_no _ _ (by decide +kernel) (by decide +kernel))) (rv_I0 (g := fun i j => .bl (decide (j < i)))))) ?_) (fun e => nomatch e) (fun _ H10 e10 => ?_)
        · rw [List.length_map]
          exact (decide_eq_false (by omega))
        exact q _ ((x8.trans e9).trans e10) (cal.ex (e9.trans e10))
  · obtain ⟨ds, hv, hb⟩ := F.binds1 (ps := p_CaInit) 3 1 (List.cons_ne_nil _ _) rfl (fun T kV doc pm an cdv ct us its hl hiz => match us, its, hl, hiz with | [_, _, _], [_], _, _ => ⟨_, rfl, rfl⟩)
    cases hv
    exact hb
end
end LdP
/-! # LdLay2 -/
/-! What evaluates to a new thing; arguments; calls. -/
namespace LdP
open PySem PySem.Spec PyProof.Rows L2 Evl
section
variable {K : PySem.W.Frag} {σ : L2.St} {H H' : Hp} {ta tb tc te td ty tv : TE} {t u : TT} {x y z v : V} {D : Ends} {tu tz : TS} {g : TG} {tr : TA}
/-- to something new with the property R -/
def EvN (te : TE) (σ : L2.St) (H : Hp) (R : Addr → Hp → Prop) : Prop := ∀ H1, Ex H H1 → ∀ Q : VK, (∀ p H2, H1 p = none → Ex H1 H2 → R p H2 → Q (.ref p) H2) → te σ H1 Q
theorem en_L {xs : List V} (h : EvL te σ H xs) : EvN te σ H (fun p H2 => H2 p = some (.lst xs)) := fun H1 e Q q => h H1 e Q fun p H2 a b c => q p H2 a b c
theorem en_D {xs : List (Key × V)} (h : EvD te σ H xs) : EvN te σ H (fun p H2 => H2 p = some (.dK xs)) := fun H1 e Q q => h H1 e Q fun p H2 a b c => q p H2 a b c
theorem el_N {xs : List V} (h : EvN te σ H (fun p H2 => H2 p = some (.lst xs))) : EvL te σ H xs := fun H1 e Q q => h H1 e Q fun p H2 a b c => q p H2 a b c
theorem EvN.imp {R R' : Addr → Hp → Prop} (h : EvN te σ H R) (k : ∀ p H2, Ex H H2 → R p H2 → R' p H2) : EvN te σ H R' := fun H1 e Q q => h H1 e Q fun p H2 a b c => q p H2 a b (k p H2 (e.trans b) c)
/-- arguments, told by a property of all -/
def EvAR (ta : TA) (σ : L2.St) (H : Hp) (R : List V → Hp → Prop) : Prop := ∀ H1, Ex H H1 → ∀ Q : List V → Hp → Prop, (∀ vs H2, Ex H1 H2 → R vs H2 → Q vs H2) → ta σ H1 Q
theorem ear_of {vs : List V} {ta : TA} (h : EvA ta σ H vs) : EvAR ta σ H (fun us _ => us = vs) := fun H1 e Q q => h H1 e Q fun H2 e2 => q vs H2 e2 rfl
theorem ear_nil {R : List V → Hp → Prop} (h : ∀ H2, Ex H H2 → R [] H2) : EvAR tNil σ H R := fun H1 e Q q => q [] H1 (Ex.refl H1) (h H1 e)
theorem ear_cons {R : List V → Hp → Prop} (h : Ev te σ H v) (hr : ∀ H1, Ex H H1 → EvAR tr σ H1 (fun vs H2 => R (v :: vs) H2)) : EvAR (tCons te tr) σ H R := fun H1 e Q q =>
  h H1 e _ fun H2 e2 => hr H2 (e.trans e2) H2 (Ex.refl H2) _ fun vs H3 e3 r => q _ H3 (e2.trans e3) r
theorem ear_consN {R : List V → Hp → Prop} {R0 : Addr → Hp → Prop} (h : EvN te σ H R0) (hr : ∀ p H1, Ex H H1 → R0 p H1 → EvAR tr σ H1 (fun vs H2 => R (.ref p :: vs) H2)) : EvAR (tCons te tr) σ H R := fun H1 e Q q =>
  h H1 e _ fun p H2 _ e2 hp => hr p H2 (e.trans e2) hp H2 (Ex.refl H2) _ fun vs H3 e3 r => q _ H3 (e2.trans e3) r
/-- a new instance -/
theorem en_make {C : Addr} {sp : Sp} {E : XK} {ta : TA} {R : List V → Hp → Prop} {R' : Addr → Hp → Prop} (h : EvAR ta σ H R)
    (k : ∀ vs H1 x dx, Ex H H1 → R vs H1 → H1 x = none → H1 dx = none → dx ≠ x → ∀ Q : VK, (∀ H2, Ex H1 H2 → R' x H2 → Q .non H2) → sp (.ref x :: (vs ++ [])) (upd (upd H1 dx (.own x)) x (.ins C dx [])) Q E) : EvN (tMake C sp [] E ta) σ H R' := fun H1 e Q q =>
  h H1 e _ fun vs H2 e2 r x dx hx hdx hne => k vs H2 x dx (e.trans e2) r hx hdx hne _ fun H3 e3 r' => ⟨rfl, q x H3 (fresh_back e2 hx) (e2.trans e3) r'⟩
/-- a call whose value is new -/
theorem en_call {sp : Sp} {E : XK} {ta : TA} {R : List V → Hp → Prop} {R' : Addr → Hp → Prop} (h : EvAR ta σ H R)
    (k : ∀ vs H1, Ex H H1 → R vs H1 → ∀ Q : VK, (∀ p H2, H1 p = none → Ex H1 H2 → R' p H2 → Q (.ref p) H2) → sp (vs ++ []) H1 Q E) : EvN (tCall sp [] E ta) σ H R' := fun H1 e Q q =>
  h H1 e _ fun vs H2 e2 r => k vs H2 (e.trans e2) r _ fun p H3 hp e3 r' => q p H3 (fresh_back e2 hp) (e2.trans e3) r'
theorem en_meth {a C dx : Addr} {fs : List (Str × V)} {m : Str} {sp : Sp} {E : XK} {ta' : TA} {R : List V → Hp → Prop} {R' : Addr → Hp → Prop} (h : Ev ta σ H (.ref a)) (ha : H a = some (.ins C dx fs)) (l : fs.lookup m = none) (hs : EvAR ta' σ H R)
    (k : ∀ vs H1, Ex H H1 → R vs H1 → ∀ Q : VK, (∀ p H2, H1 p = none → Ex H1 H2 → R' p H2 → Q (.ref p) H2) → sp (.ref a :: (vs ++ [])) H1 Q E) : EvN (tMeth C m sp [] E ta ta') σ H R' := fun H1 e Q q =>
  h H1 e _ fun H2 e2 => ⟨a, dx, fs, rfl, e2 _ _ (e _ _ ha), l, hs H2 (e.trans e2) _ fun vs H3 e3 r => k vs H3 ((e.trans e2).trans e3) r _ fun p H4 hp e4 r' => q p H4 (fresh_back (e2.trans e3) hp) ((e2.trans e3).trans e4) r'⟩
theorem q_asgN {i : Nat} {R : Addr → Hp → Prop} (h : EvN te σ H R) (k : ∀ p H1, H p = none → Ex H H1 → R p H1 → tz D (σ.set i (some (.ref p))) H1) : tSeq (tAsg te (gName i)) tz D σ H := h H (Ex.refl H) _ fun p H1 hp e h1 => k p H1 hp e h1
theorem s_retN {R : Addr → Hp → Prop} (h : EvN te σ H R) (k : ∀ p H1, H p = none → Ex H H1 → R p H1 → D.rt (.ref p) H1) : tRet te D σ H := h H (Ex.refl H) _ fun p H1 hp e h1 => k p H1 hp e h1
theorem q_fldN {a C dx : Addr} {fs : List (Str × V)} {f : Str} {R : Addr → Hp → Prop} (hv : EvN te σ H R) (ho : Ev ta σ H (.ref a)) (ha : H a = some (.ins C dx fs)) (c : Cls K C) (n : NoAttr K C f) (hl : fs.length < 1000) (hR : ∀ p H1 H2, Ex H1 H2 → R p H1 → R p H2)
    (k : ∀ p H1, H p = none → Ex H H1 → R p H1 → tz D σ (upd H1 a (.ins C dx (putF f (.ref p) fs)))) : tSeq (sFld K ta te f) tz D σ H :=
  hv H (Ex.refl H) _ fun p H1 hp e1 h1 => ho H1 e1 _ fun H2 e2 => ⟨a, C, dx, fs, rfl, (e1.trans e2) _ _ ha, c, n, hl, k p H2 hp (e1.trans e2) (hR _ _ _ e2 h1)⟩
theorem s_fldD {a C dx : Addr} {fs : List (Str × V)} {f : Str} {kvs : List (Key × V)} (hv : EvD te σ H kvs) (ho : Ev ta σ H (.ref a)) (ha : H a = some (.ins C dx fs)) (c : Cls K C) (n : NoAttr K C f) (hl : fs.length < 1000)
    (k : ∀ p H1, H p = none → Ex H H1 → H1 p = some (.dK kvs) → D.nx σ (upd H1 a (.ins C dx (putF f (.ref p) fs)))) :
    sFld K ta te f D σ H := hv H (Ex.refl H) _ fun p H1 hp e1 h1 => ho H1 e1 _ fun H2 e2 => ⟨a, C, dx, fs, rfl, (e1.trans e2) _ _ ha, c, n, hl, k p H2 hp (e1.trans e2) (e2 _ _ h1)⟩
/-- xs + ys, the right one new -/
theorem el_cat {a : Addr} {xs ys : List V} (ha : Ev ta σ H (.ref a)) (hx : H a = some (.lst xs)) (hb : EvL tb σ H ys) (hl : xs.length + ys.length ≤ 100000) : EvL (tOp (rCat) ta tb) σ H (xs ++ ys) := fun H1 e Q q =>
  ha H1 e _ fun H2 e2 => hb H2 (e.trans e2) _ fun p H3 hp e3 h3 => ⟨a, p, xs, ys, rfl, rfl, ((e.trans e2).trans e3) _ _ hx, h3, sz_of hl, fun r hr => q r _ (fresh_back (e2.trans e3) hr) ((e2.trans e3).trans (Ex.new hr)) upd_same⟩
/-- the left one new, too -/
theorem el_catN {xs ys : List V} (ha : EvL ta σ H xs) (hb : ∀ H1, Ex H H1 → EvL tb σ H1 ys) (hl : xs.length + ys.length ≤ 100000) : EvL (tOp (rCat) ta tb) σ H (xs ++ ys) := fun H1 e Q q =>
  ha H1 e _ fun a H2 ha2 e2 hx => hb H2 (e.trans e2) H2 (Ex.refl H2) _ fun p H3 hp e3 h3 => ⟨a, p, xs, ys, rfl, rfl, e3 _ _ hx, h3, sz_of hl, fun r hr => q r _ (fresh_back (e2.trans e3) hr) ((e2.trans e3).trans (Ex.new hr)) upd_same⟩
theorem en_U {xs : List V} (h : EvU te σ H xs) : EvN te σ H (fun p H2 => H2 p = some (.tup xs)) := fun H1 e Q q => h H1 e Q fun p H2 a b c => q p H2 a b c
/-- a list, a tuple of things that are told by a property -/
theorem en_lst {ta : TA} {R : List V → Hp → Prop} (h : EvAR ta σ H R) (hm : ∀ vs H1 H2, Ex H1 H2 → R vs H1 → R vs H2) (hl : ∀ vs H1, R vs H1 → vs.length ≤ 100000) : EvN (tLst ta) σ H (fun p H2 => ∃ vs, H2 p = some (.lst vs) ∧ R vs H2) := fun H1 e Q q =>
  h H1 e _ fun vs H2 e2 r => ⟨sz_of (hl vs H2 r), fun p hp => q p _ (fresh_back e2 hp) (e2.trans (Ex.new hp)) ⟨vs, upd_same, hm _ _ _ (Ex.new hp) r⟩⟩
theorem en_tup {ta : TA} {R : List V → Hp → Prop} (h : EvAR ta σ H R) (hm : ∀ vs H1 H2, Ex H1 H2 → R vs H1 → R vs H2) (hl : ∀ vs H1, R vs H1 → vs.length ≤ 100000) : EvN (tTup ta) σ H (fun p H2 => ∃ vs, H2 p = some (.tup vs) ∧ R vs H2) := fun H1 e Q q =>
  h H1 e _ fun vs H2 e2 r => ⟨sz_of (hl vs H2 r), fun p hp => q p _ (fresh_back e2 hp) (e2.trans (Ex.new hp)) ⟨vs, upd_same, hm _ _ _ (Ex.new hp) r⟩⟩
theorem en_cat {xs : List V} {R : List V → Hp → Prop} (ha : EvL ta σ H xs) (hb : ∀ H1, Ex H H1 → EvN tb σ H1 (fun p H2 => ∃ ys, H2 p = some (.lst ys) ∧ R ys H2)) (hm : ∀ vs H1 H2, Ex H1 H2 → R vs H1 → R vs H2) (hl : ∀ ys H1, R ys H1 → xs.length + ys.length ≤ 100000) :
    EvN (tOp rCat ta tb) σ H (fun p H2 => ∃ ys, H2 p = some (.lst (xs ++ ys)) ∧ R ys H2) := fun H1 e Q q =>
  ha H1 e _ fun a H2 ha2 e2 hx => hb H2 (e.trans e2) H2 (Ex.refl H2) _ fun p H3 hp e3 ⟨ys, h3, r⟩ => ⟨a, p, xs, ys, rfl, rfl, e3 _ _ hx, h3, sz_of (hl ys H3 r), fun o ho => q o _ (fresh_back (e2.trans e3) ho) ((e2.trans e3).trans (Ex.new ho)) ⟨ys, upd_same, hm _ _ _ (Ex.new ho) r⟩⟩
/-- the left one stands -/
theorem en_cat1 {a : Addr} {xs : List V} {R : List V → Hp → Prop} (ha : Ev ta σ H (.ref a)) (hx : H a = some (.lst xs)) (hb : ∀ H1, Ex H H1 → EvN tb σ H1 (fun p H2 => ∃ ys, H2 p = some (.lst ys) ∧ R ys H2)) (hm : ∀ vs H1 H2, Ex H1 H2 → R vs H1 → R vs H2) (hl : ∀ ys H1, R ys H1 → xs.length + ys.length ≤ 100000) :
    EvN (tOp rCat ta tb) σ H (fun p H2 => ∃ ys, H2 p = some (.lst (xs ++ ys)) ∧ R ys H2) := fun H1 e Q q =>
  ha H1 e _ fun H2 e2 => hb H2 (e.trans e2) H2 (Ex.refl H2) _ fun p H3 hp e3 ⟨ys, h3, r⟩ => ⟨a, p, xs, ys, rfl, rfl, ((e.trans e2).trans e3) _ _ hx, h3, sz_of (hl ys H3 r), fun o ho => q o _ (fresh_back (e2.trans e3) ho) ((e2.trans e3).trans (Ex.new ho)) ⟨ys, upd_same, hm _ _ _ (Ex.new ho) r⟩⟩
theorem evR_call {sp : Sp} {E : XK} {ta : TA} {R : List V → Hp → Prop} {R' : V → Hp → Prop} (h : EvAR ta σ H R)
    (k : ∀ vs H1, Ex H H1 → R vs H1 → ∀ Q : VK, (∀ v H2, Ex H1 H2 → R' v H2 → Q v H2) → sp (vs ++ []) H1 Q E) : EvR (tCall sp [] E ta) σ H R' := fun H1 e Q q =>
  h H1 e _ fun vs H2 e2 r => k vs H2 (e.trans e2) r _ fun v H3 e3 r' => q v H3 (e2.trans e3) r'
theorem s_retR {R : V → Hp → Prop} (h : EvR te σ H R) (k : ∀ v H1, Ex H H1 → R v H1 → D.rt v H1) : tRet te D σ H := h H (Ex.refl H) _ k
theorem q_asgR {i : Nat} {R : V → Hp → Prop} (h : EvR te σ H R) (k : ∀ v H1, Ex H H1 → R v H1 → tz D (σ.set i (some v)) H1) : tSeq (tAsg te (gName i)) tz D σ H := h H (Ex.refl H) _ k
theorem q_dropN {R : Addr → Hp → Prop} (h : EvN te σ H R) (k : ∀ p H1, H p = none → Ex H H1 → R p H1 → tz D σ H1) : tSeq (tDrop te) tz D σ H := h H (Ex.refl H) _ fun p H1 hp e r => k p H1 hp e r
/-- x is None, of a value that is told by a property -/
theorem et_isR {R : V → Hp → Prop} {b : Bool} (h : EvR te σ H R) (hb : ∀ v H2, R v H2 → decide (v = .non) = b) : EvT (tTest (tOp (fun x y H Q => y = .non ∧ Q (.bl (decide (x = .non))) H) te (tC .non))) σ H b := fun H1 e Q q =>
  h H1 e _ fun v H2 e2 r => ⟨rfl, b, by rw [hb v H2 r], q H2 e2⟩
theorem et_notR {R : V → Hp → Prop} {b : Bool} (h : EvR te σ H R) (hb : ∀ v H2, R v H2 → (!decide (v = .non)) = b) : EvT (tTest (tOp (fun x y H Q => y = .non ∧ Q (.bl (!decide (x = .non))) H) te (tC .non))) σ H b := fun H1 e Q q =>
  h H1 e _ fun v H2 e2 r => ⟨rfl, b, by rw [hb v H2 r], q H2 e2⟩
/-- a method's call, told by a property of its value -/
theorem evR_meth {a C dx : Addr} {fs : List (Str × V)} {m : Str} {sp : Sp} {E : XK} {ta' : TA} {vs : List V} {R : V → Hp → Prop} (h : Ev ta σ H (.ref a)) (ha : H a = some (.ins C dx fs)) (l : fs.lookup m = none) (hs : EvA ta' σ H vs)
    (k : ∀ H1, Ex H H1 → ∀ Q : VK, (∀ v H2, Ex H1 H2 → R v H2 → Q v H2) → sp (.ref a :: (vs ++ [])) H1 Q E) : EvR (tMeth C m sp [] E ta ta') σ H R := fun H1 e Q q =>
  h H1 e _ fun H2 e2 => ⟨a, dx, fs, rfl, e2 _ _ (e _ _ ha), l, hs H2 (e.trans e2) _ fun H3 e3 => k H3 ((e.trans e2).trans e3) Q fun v H4 e4 r => q v H4 ((e2.trans e3).trans e4) r⟩
end
/-! ### lists of things that are told by what they hold -/
section
variable {β : Type} {ob : β → HO}
def AllO (ob : β → HO) (H : Hp) : List Addr → List β → Prop := Paired fun a b => H a = some (ob b)
theorem AllO.ex {H H' : Hp} (e : Ex H H') : ∀ {as : List Addr} {bs : List β}, AllO ob H as bs → AllO ob H' as bs
  | _, _, .nil => .nil
  | _, _, .cons h t => .cons (e _ _ h) (AllO.ex e t)
theorem AllO.upd {H : Hp} {D : Addr} {o : HO} : ∀ {as : List Addr} {bs : List β}, AllO ob H as bs → (∀ a ∈ as, a ≠ D) → AllO ob (upd H D o) as bs
  | _, _, .nil, _ => .nil
  | a :: _, _, .cons h t, n => .cons (by rw [upd_ne (n a (by simp))]; exact h) (AllO.upd t fun b hb => n b (by simp [hb]))
theorem AllO.ne {H H1 : Hp} {D : Addr} (hD : H1 D = none) : ∀ {as : List Addr} {bs : List β}, AllO ob H1 as bs → ∀ a ∈ as, a ≠ D
  | _, _, .nil, _, h => by simp at h
  | _, _, .cons h t, a, ha => by
    rcases (List.mem_cons.mp ha) with rfl | ha
    · exact ne_of_none h hD
    · exact AllO.ne (H := H) hD t a ha
/-- a list at p of such things -/
def ListO (ob : β → HO) (H : Hp) (p : Addr) (bs : List β) : Prop := ∃ as : List Addr, H p = some (.lst (as.map V.ref)) ∧ AllO ob H as bs
theorem ListO.ex {H H' : Hp} {p : Addr} {bs : List β} (e : Ex H H') (h : ListO ob H p bs) : ListO ob H' p bs := let ⟨as, h1, h2⟩ := h; ⟨as, e _ _ h1, h2.ex e⟩
/-- a comprehension's list at D so far -/
structure AtO (ob : β → HO) (H1 : Hp) (D : Addr) (bs : List β) (H : Hp) : Prop where
  s : Ex H1 H
  d : ∃ as : List Addr, H D = some (.lst (as.map V.ref)) ∧ AllO ob H as bs ∧ ∀ a ∈ as, a ≠ D
theorem atO_zero {H1 : Hp} {D : Addr} (hD : H1 D = none) : AtO ob H1 D [] (upd H1 D (.lst [])) := ⟨Ex.new hD, [], upd_same, .nil, fun a h => by simp at h⟩
theorem AtO.ex {H1 H H' : Hp} {D : Addr} {bs : List β} (a : AtO ob H1 D bs H) (e : Ex H H') : AtO ob H1 D bs H' := ⟨a.s.trans e, let ⟨as, h1, h2, h3⟩ := a.d; ⟨as, e _ _ h1, h2.ex e, h3⟩⟩
theorem AtO.list {H1 H : Hp} {D : Addr} {bs : List β} (a : AtO ob H1 D bs H) : ListO ob H D bs := let ⟨as, h1, h2, _⟩ := a.d; ⟨as, h1, h2⟩
theorem atO_next {H1 H H4 : Hp} {D p : Addr} {bs : List β} {b : β} (hD : H1 D = none) (a : AtO ob H1 D bs H) (e : Ex H H4) (hp : H4 p = some (ob b)) (hpD : p ≠ D) (hz : bs.length < 100000) :
    ∃ acc, H4 D = some (.lst acc) ∧ acc.length < sizeLine ∧ AtO ob H1 D (bs ++ [b]) (L2.upd H4 D (.lst (acc ++ [V.ref p]))) := by
  obtain ⟨as, h1, h2, h3⟩ := a.d
  have hl : as.length = bs.length := Paired.length h2
  refine ⟨as.map V.ref, e _ _ h1, sz_lt (by rw [List.length_map, hl]; exact hz), (a.s.trans e).mut hD, as ++ [p], ?_, ?_, ?_⟩
  · rw [upd_same, List.map_append]
    rfl
  · have h4 : ∀ a ∈ as ++ [p], a ≠ D := fun a ha => by
      rcases List.mem_append.mp ha with h | h
      · exact h3 a h
      · rw [List.mem_singleton.mp h]
        exact hpD
    exact AllO.upd (paired_app (h2.ex e) (.cons hp .nil)) h4
  · intro a ha
    rcases List.mem_append.mp ha with h | h
    · exact h3 a h
    · rw [List.mem_singleton.mp h]
      exact hpD
end
theorem yes_go {σ : L2.St} {H : Hp} {F G : Hp → Prop} (h : F H) : tYes σ H (fun b H' => if b = true then F H' else G H') := by
  show (if true = true then F H else G H)
  exact iteT h
/-- [e for one, other, number in clauses], the items known -/
theorem el_lcC {K : PySem.W.Frag} {σ : L2.St} {H : Hp} {tl te : TE} {a : Addr} {ts : List Addr} {cs : List Cl} {i0 i1 i2 : Nat} {vs : List Nat} (v : Cl → V) (h : Ev tl σ H (.ref a)) (hx : H a = some (.lst (ts.map V.ref))) (hc : ClP H ts cs) (hz : cs.length ≤ 40000) (hw : ∀ x y z, wipe ((((wipe σ vs).set i0 (some x)).set i1 (some y)).set i2 (some z)) vs = wipe σ vs)
    (he : ∀ (c : Cl) H1, Ex H H1 → c ∈ cs → Ev te ((((wipe σ vs).set i0 (some (.str c.one))).set i1 (some (.str c.other))).set i2 (some (.int c.num))) H1 (v c)) :
    EvL (tLc (iList K tl) (gTup K 3 (gCons (gName i0) (gCons (gName i1) (gCons (gName i2) gNil)))) tYes te vs) σ H (cs.map v) := fun H0 e Q q => h H0 e _ fun H1 e1 => ⟨a, rfl, ⟨_, sq_of (e1 _ _ (e _ _ hx))⟩, fun D hD =>
  lc_list (xs := ts.map V.ref) (AtD H1 D (cs.map v)) (atD_zero hD) (fun i H' _ p => sq_of (p.s _ _ (e1 _ _ (e _ _ hx)))) (fun i x H' hi p => by
    obtain ⟨tc, htc, rfl⟩ : ∃ z, ts[i]? = some z ∧ x = .ref z := by
      rw [List.getElem?_map] at hi
      cases h : ts[i]? with
      | none => rw [h] at hi; cases hi
      | some z => rw [h] at hi; exact ⟨z, rfl, (Option.some.inj hi).symm⟩
    obtain ⟨c, hcc, htt⟩ := paired_get hc htc
    refine g_triple ((((e.trans e1).trans p.s)) _ _ htt) ⟨hw _ _ _, yes_go ?_⟩
    refine he c H1 (e.trans e1) (List.mem_of_getElem? hcc) H' p.s _ fun H4 e4 => ?_
    exact atD_next hD p e4 (by rw [List.getElem?_map, hcc]; rfl) (Nat.le_of_lt (sz_lt (by rw [List.length_map]; omega)))) (fun H' p => by
    have hl : (ts.map V.ref).length = (cs.map v).length := by rw [List.length_map, List.length_map, paired_len hc]
    exact q D H' (fresh_back e1 hD) (e1.trans p.s) (p.all hl))⟩
/-- k in d, as a value -/
theorem ev_din {σ : L2.St} {H : Hp} {ty td : TE} {a : Addr} {kvs : List (Key × V)} {k : Key} (hk : Ev ty σ H (kV k)) (hd : Ev td σ H (.ref a)) (ha : H a = some (.dK kvs)) : Ev (tDIn ty td) σ H (.bl (valV kvs k).isSome) := fun H1 e Q q =>
  hk H1 e _ fun H2 e2 => hd H2 (e.trans e2) _ fun H3 e3 => ⟨a, _, rfl, DGet.k (((e.trans e2).trans e3) _ _ ha), q H3 (e2.trans e3)⟩
/-- dict(d), a copy -/
theorem ed_copy {σ : L2.St} {H : Hp} {td : TE} {a : Addr} {kvs : List (Key × V)} (hd : Ev td σ H (.ref a)) (ha : H a = some (.dK kvs)) : EvD (tCB (fun xs H Q => ∃ (a : Addr) (kvs : List (Key × V)), xs = [.ref a] ∧ Rd H a (.dK kvs) ∧ ∀ p, H p = none → Q (.ref p) (upd H p (.dK kvs))) (tCons td tNil)) σ H kvs := fun H1 e Q q =>
  hd H1 e _ fun H2 e2 => ⟨a, kvs, rfl, .inl (e2 _ _ (e _ _ ha)), fun p hp => q p _ (fresh_back e2 hp) (e2.trans (Ex.new hp)) upd_same⟩
/-- a list of ints; dates -/
def obI (l : List Int) : HO := .lst (l.map V.int)
def kvD (d : Ld.Dt Str) : List (Key × V) := d.map fun p => (Sum.inr p.1, V.int p.2)
def obD (d : Ld.Dt Str) : HO := .dK (kvD d)
theorem kvD_val : ∀ {d : Ld.Dt Str} {m : Str}, m ∈ d.map (·.1) → valV (kvD d) (Sum.inr m) = some (V.int (Ld.dv d m))
  | [], _, h => by simp at h
  | (k, n) :: r, m, h => by
    show valV ((Sum.inr k, V.int n) :: kvD r) (Sum.inr m) = some (V.int (if m = k then n else Ld.dv r m))
    by_cases e : m = k
    · subst e
      rw [if_pos rfl]
      exact valV_pos (p := (Sum.inr m, V.int n)) rfl
    · rw [if_neg e, valV_neg (fun z => e (Sum.inr.inj z).symm)]
      refine kvD_val ?_
      rcases List.mem_cons.mp (show m ∈ k :: r.map (·.1) from h) with q | q
      · exact absurd q e
      · exact q
theorem kvD_none : ∀ {d : Ld.Dt Str} {m : Str}, m ∉ d.map (·.1) → valV (kvD d) (Sum.inr m) = none
  | [], _, _ => rfl
  | (k, n) :: r, m, h => by
    simp only [List.map_cons, List.mem_cons, not_or] at h
    show valV ((Sum.inr k, V.int n) :: kvD r) (Sum.inr m) = none
    rw [valV_neg (fun z => h.1 (Sum.inr.inj z).symm)]
    exact kvD_none h.2
theorem kvD_app (d : Ld.Dt Str) (m : Str) (n : Int) : kvD (d ++ [(m, n)]) = kvD d ++ [(Sum.inr m, V.int n)] := List.map_append
theorem dv_app : ∀ (d : Ld.Dt Str) (m x : Str) (n : Int), Ld.dv (d ++ [(m, n)]) x = if x ∈ d.map (·.1) then Ld.dv d x else if x = m then n else 0
  | [], m, x, n => by
    show (if x = m then n else 0) = _
    simp
  | (k, v) :: r, m, x, n => by
    show (if x = k then v else Ld.dv (r ++ [(m, n)]) x) = _
    by_cases e : x = k
    · subst e
      rw [if_pos rfl, if_pos (by simp)]
      exact (if_pos rfl).symm
    · rw [if_neg e, dv_app r m x n]
      by_cases h2 : x ∈ r.map (·.1)
      · rw [if_pos h2, if_pos (by simp only [List.map_cons, List.mem_cons]; exact .inr h2)]
        exact (if_neg e).symm
      · have h3 : x ∉ ((k, v) :: r).map (·.1) := by
          simp only [List.map_cons, List.mem_cons, not_or]; exact ⟨e, h2⟩
        rw [if_neg h2, if_neg h3]
/-- dates, the fixed day among them: as a dict's pairs -/
theorem dayed {d : Ld.Dt Str} (h : day ∉ d.map (·.1)) : kvD d ++ [(Sum.inr day, V.int 0)] = kvD (d ++ [(day, 0)]) := (kvD_app d day 0).symm
theorem dayed_val {d : Ld.Dt Str} {sl : List Str} (hk : d.map (·.1) = sl) (h : day ∉ sl) {m : Str} (hm : m ∈ sl ++ [day]) : valV (kvD (d ++ [(day, 0)])) (Sum.inr m) = some (V.int (Ld.dv d m)) := by
  rw [kvD_val (by rw [List.map_append, hk]; exact hm), dv_app]
  split
  · rfl
  · rename_i h2
    rw [hk] at h2
    have : m = day := by
      rcases List.mem_append.mp hm with qz | qz
      · exact absurd qz h2
      · exact List.mem_singleton.mp qz
    rw [if_pos this, Ld.dv_out d m (by rw [hk]; exact h2)]
end LdP
/-! # LdH -/
/-! rows.Closed, some_dates; Calendar.closed -/
namespace LdP
open PySem PySem.Spec PyProof.Rows L2 Evl
section
variable {base : Heap} {mg : Str → Option Value} {K : PySem.W.Frag} {w : World} {P : Program}
/-- a Closed object: whether there are dates -/
def CldAt (K : PySem.W.Frag) (H : Hp) (a : Addr) (b : Bool) : Prop := ∃ (dx dy : Addr) (fs : List (Str × V)) (ks : List Str) (f : Str → Int), H a = some (.ins (He.ga K "Closed") dx fs) ∧ fs.lookup ("own_days" : Str) = some (.ref dy) ∧ fs.lookup ("ring" : Str) = none ∧ DyE K H dy ks f b
theorem CldAt.ex {H H' : Hp} {a : Addr} {b : Bool} (e : Ex H H') (h : CldAt K H a b) : CldAt K H' a b := let ⟨dx, dy, fs, ks, f, h1, h2, h3, h4⟩ := h; ⟨dx, dy, fs, ks, f, e _ _ h1, h2, h3, h4.mono e⟩
/-- what Days is made of -/
structure DyPre (H : Hp) (m c : Addr) (ks : List Str) (cs : List Cl) : Prop where
  m : H m = some (.lst (ks.map V.str))
  c : ClsAt H c cs
  nd : ks.Nodup
  k20 : ks.length ≤ 20
  c60 : cs.length ≤ 60
  mem : ∀ x ∈ cs, x.one ∈ ks ∧ x.other ∈ ks
/-- Days(m, c) -/
theorem en_days {t : Tx K mg} {σ : L2.St} {H : Hp} {ta : TA} {ks : List Str} {cs : List Cl} (h : EvAR ta σ H (fun vs H1 => ∃ m c, vs = [.ref m, .ref c] ∧ DyPre H1 m c ks cs)) :
    EvN (tMake (He.ga K "Days") (spDyInit K) [] E0 ta) σ H (fun p H2 => DyE K H2 p ks (Ld.rounds cs (ks.length + 1)).f (Ld.rounds cs (ks.length + 1)).ch.isNone) :=
  en_make h fun vs H1 x dx e1 r hx hdx hne Q q => by
    obtain ⟨m, c, rfl, p⟩ := r
    obtain ⟨ts, h1, h2⟩ := p.c
    exact ⟨H1, x, dx, m, c, ks, ts, cs, rfl, (Ex.new hdx).mut hx, hx, upd_same, p.m, h1, h2, p.nd, p.k20, p.c60, p.mem, q⟩
def spClInit (K : PySem.W.Frag) : Sp := fun vs H Q _ => ∃ (H0 : Hp) (a dx m c : Addr) (sl : List Str) (cs : List Cl), vs = [.ref a, .ref m, .ref c] ∧ Ex H0 H ∧ H0 a = none ∧ H a = some (.ins (He.ga K "Closed") dx []) ∧
  H0 m = some (.lst (sl.map V.str)) ∧ ClsAt H0 c cs ∧ (sl ++ [day]).Nodup ∧ sl.length ≤ 10 ∧ cs.length ≤ 60 ∧ (∀ x ∈ cs, x.one ∈ sl ++ [day] ∧ x.other ∈ sl ++ [day]) ∧
  ∀ H', Ex H0 H' → CldAt K H' a (Ld.rounds cs ((sl ++ [day]).length + 1)).ch.isNone → Q .non H'
theorem ok_ClInit (t : Tx K mg) : Ok P w K mg base 4 (He.ma K (He.ga K "Closed") "__init__") p_ClInit (spClInit K) := by
  have G1 := ok_DyInit (P := P) (w := w) (base := base) t
  obtain ⟨fd, F⟩ := t.def_ClInit
  refine ok_of F sc_ClInit (fun _ _ _ _ _ _ us hl => match us, hl with | [_, _, _], _ => rfl) (fun vs H Q E h => ?_) (fun cdv A outer s H vs Q E hr h => ?_)
  · obtain ⟨H0, a, dx, m, c, sl, cs, rfl, _⟩ := h
    rfl
  · obtain ⟨H0, a, dx, m, c, sl, cs, rfl, e0, ha0, ha, hm, hc, hnd, h10, h60, hks, q⟩ := h
    obtain ⟨uZ, eZ⟩ := t.k_ZERO
    refine ⟨_, pss_cons (ps_fld (pv 0) (pe_callTy call_list_of (by rfl) t.f_list boot_list' (pa_cons (pv 1) pa_nil)) rfl)
      (pss_cons (ps_fld (pv 0) (pe_callTy call_list_of (by rfl) t.f_list boot_list' (pa_cons (pv 2) pa_nil)) rfl)
      (pss_cons (ps_fld (pv 0) (pe_mk t.mk_Days G1 hr t.g_Days (pa_cons (pe_op op_cat (pe_fld (pv 0) rfl) (pe_lst (pa_cons (pe_glob (v := .str "day") (by rfl) eZ ⟨_, rfl⟩) pa_nil))) (pa_cons (pe_fld (pv 0) rfl) pa_nil))) rfl)
      (pss_one (ps_fld (pv 0) pe_dnewK rfl)))), ?_⟩
    obtain ⟨ts, hc1, hc2⟩ := hc
    refine q_fldL (el_list1 (ev_var rfl) (e0 _ _ hm)) (ev_var rfl) ha t.c_Closed t.a_Closed_ownmoments (by show 0 < 1000; decide) (fun m1 H1 hm1 e1 hM => ?_)
    have n1 : m1 ≠ a := fun e => by rw [e, ha] at hm1; cases hm1
    have x1 : Ex H0 (upd H1 a (.ins (He.ga K "Closed") dx (putF "own_moments" (.ref m1) []))) := (e0.trans e1).mut ha0
    have hM1 : (upd H1 a (.ins (He.ga K "Closed") dx (putF "own_moments" (.ref m1) []))) m1 = some (.lst (sl.map V.str)) := by rw [upd_ne n1]; exact hM
    have ha1 : (upd H1 a (.ins (He.ga K "Closed") dx (putF "own_moments" (.ref m1) []))) a = some (.ins (He.ga K "Closed") dx (putF "own_moments" (.ref m1) [])) := upd_same
    generalize upd H1 a (.ins (He.ga K "Closed") dx (putF "own_moments" (.ref m1) [])) = G1' at x1 hM1 ha1 ⊢
    have l1 : (putF "own_moments" (.ref m1) []).length < 1000 := by have := putF_len "own_moments" (.ref m1) []; simp only [List.length_nil] at this; omega
    refine q_fldL (el_list1 (ev_var rfl) (x1 _ _ hc1)) (ev_var rfl) ha1 t.c_Closed t.a_Closed_ownclauses l1 (fun c1 H2 hc3 e2 hC => ?_)
    have n2 : c1 ≠ a := fun e => by rw [e, ha1] at hc3; cases hc3
    have fs2 : ∃ fs2, fs2 = putF "own_clauses" (.ref c1) (putF "own_moments" (.ref m1) []) := ⟨_, rfl⟩
    obtain ⟨fs2, efs2⟩ := fs2
    rw [← efs2]
    have x2 : Ex H0 (upd H2 a (.ins (He.ga K "Closed") dx fs2)) := (x1.trans e2).mut ha0
    have hM2 : (upd H2 a (.ins (He.ga K "Closed") dx fs2)) m1 = some (.lst (sl.map V.str)) := by rw [upd_ne n1]; exact e2 _ _ hM1
    have hC2 : (upd H2 a (.ins (He.ga K "Closed") dx fs2)) c1 = some (.lst (ts.map V.ref)) := by rw [upd_ne n2]; exact hC
    have ha2 : (upd H2 a (.ins (He.ga K "Closed") dx fs2)) a = some (.ins (He.ga K "Closed") dx fs2) := upd_same
    generalize upd H2 a (.ins (He.ga K "Closed") dx fs2) = G2' at x2 hM2 hC2 ha2 ⊢
    have lm : fs2.lookup ("own_moments" : Str) = some (.ref m1) := by rw [efs2, lookup_putF, if_neg mc_ne, lookup_putF, if_pos rfl]
    have lc : fs2.lookup ("own_clauses" : Str) = some (.ref c1) := by rw [efs2, lookup_putF, if_pos rfl]
    have l2 : fs2.length < 998 := by
      rw [efs2]
      have := putF_len "own_clauses" (.ref c1) (putF "own_moments" (.ref m1) [])
      have h2 := putF_len "own_moments" (.ref m1) []
      simp only [List.length_nil] at h2
      omega
    refine q_fldN (en_days (t := t) (ks := sl ++ [day]) (cs := cs) (ear_consN (en_L (el_cat (ev_fld (ev_var rfl) ha2 t.c_Closed t.a_Closed_ownmoments lm) hM2 (el_lst (ea_cons ev_c ea_nil) (by show 1 ≤ 100000; decide)) (by rw [List.length_map]; show sl.length + 1 ≤ 100000; omega))) fun p H3 e3 hp =>
        ear_cons (ev_fld (ev_var rfl) (e3 _ _ ha2) t.c_Closed t.a_Closed_ownclauses lc) fun H4 e4 => ear_nil fun H5 e5 => ⟨p, c1, rfl, ?_, ⟨ts, ((e3.trans e4).trans e5) _ _ hC2, hc2.ex (((x2.trans e3).trans e4).trans e5)⟩, hnd, by rw [List.length_append, List.length_singleton]; omega, h60, hks⟩))
      (ev_var rfl) ha2 t.c_Closed t.a_Closed_owndays (by omega) (fun p H1 H2 e h => h.mono e) (fun dy H3 hdy e3 hD => ?_)
    · rw [List.map_append]
      exact (e4.trans e5) _ _ hp
    have n3 : dy ≠ a := fun e => by rw [e, ha2] at hdy; cases hdy
    have fs3 : ∃ fs3, fs3 = putF "own_days" (.ref dy) fs2 := ⟨_, rfl⟩
    obtain ⟨fs3, efs3⟩ := fs3
    rw [← efs3]
    -- the Days object does not hang on self
    have hD3 : DyE K (upd H3 a (.ins (He.ga K "Closed") dx fs3)) dy (sl ++ [day]) (Ld.rounds cs ((sl ++ [day]).length + 1)).f (Ld.rounds cs ((sl ++ [day]).length + 1)).ch.isNone := by
      obtain ⟨dx4, dd, fs4, r, h1, h2, h3, h4, h5, h6, h7⟩ := hD.ex
      have ha3 := e3 _ _ ha2
      refine ⟨dx4, dd, fs4, r, by rw [upd_ne n3]; exact h1, h2, h3, h4, h5, by rw [upd_ne (ne_of h6 ha3 (fun z => nomatch z))]; exact h6, ?_⟩
      rcases h7 with h | ⟨h, pr, xs, g1, g2⟩
      · exact .inl h
      · exact .inr ⟨h, pr, xs, g1, by rw [upd_ne (ne_of g2 ha3 (fun z => nomatch z))]; exact g2⟩
    have x3 : Ex H0 (upd H3 a (.ins (He.ga K "Closed") dx fs3)) := (x2.trans e3).mut ha0
    have ha3 : (upd H3 a (.ins (He.ga K "Closed") dx fs3)) a = some (.ins (He.ga K "Closed") dx fs3) := upd_same
    generalize upd H3 a (.ins (He.ga K "Closed") dx fs3) = G3' at x3 ha3 hD3 ⊢
    have l3 : fs3.length < 1000 := by
      rw [efs3]
      have := putF_len "own_days" (.ref dy) fs2
      omega
    refine s_fldD ed_new (ev_var rfl) ha3 t.c_Closed t.a_Closed_ownrows l3 (fun rr H4 hrr e4 hR => ?_)
    refine q _ ((x3.trans e4).mut ha0) ⟨dx, dy, _, sl ++ [day], (Ld.rounds cs ((sl ++ [day]).length + 1)).f, upd_same, ?_, ?_, ?_⟩
    · rw [lookup_putF, if_neg (by decide +kernel), efs3, lookup_putF, if_pos rfl]
    · rw [lookup_putF, if_neg (by decide +kernel), efs3, lookup_putF, if_neg (by decide +kernel), efs2, lookup_putF, if_neg (by decide +kernel), lookup_putF, if_neg (by decide +kernel)]
      rfl
    · obtain ⟨dx4, dd, fs4, r, h1, h2, h3, h4, h5, h6, h7⟩ := (hD3.mono e4).ex
      have ha4 := e4 _ _ ha3
      have n4 : dy ≠ a := n3
      refine ⟨dx4, dd, fs4, r, by rw [upd_ne n4]; exact h1, h2, h3, h4, h5, by rw [upd_ne (ne_of h6 ha4 (fun z => nomatch z))]; exact h6, ?_⟩
      rcases h7 with h | ⟨h, pr, xs, g1, g2⟩
      · exact .inl h
      · exact .inr ⟨h, pr, xs, g1, by rw [upd_ne (ne_of g2 ha4 (fun z => nomatch z))]; exact g2⟩
/-! ### Closed.ring -/
/-- None if there are dates, else a list -/
def ringV (b : Bool) (v : V) : Prop := (b = true ∧ v = .non) ∨ (b = false ∧ ∃ p, v = .ref p)
theorem ringV_is {b : Bool} {v : V} (h : ringV b v) : decide (v = .non) = b := by
  rcases h with ⟨rfl, rfl⟩ | ⟨rfl, p, rfl⟩
  · rfl
  · rfl
theorem evR_ring {σ : L2.St} {H : Hp} {ta : TE} {a dx : Addr} {fs : List (Str × V)} {ks : List Str} {f : Str → Int} {b : Bool} {C : Addr} (h : Ev ta σ H (.ref a)) (ha : H a = some (.ins C dx fs)) (l : fs.lookup ("ring" : Str) = none) (d : DyE K H a ks f b) :
    EvR (tMeth C "ring" (spRing K) [] E0 ta tNil) σ H (fun v _ => ringV b v) :=
  evR_meth h ha l ea_nil fun H1 e1 Q q => ⟨a, ks, f, b, rfl, d.mono e1, fun hb H2 e2 => q _ H2 e2 (.inl ⟨hb, rfl⟩), fun hb p H2 e2 => q _ H2 e2 (.inr ⟨hb, p, rfl⟩)⟩
def spClRing (K : PySem.W.Frag) : Sp := fun vs H Q _ => ∃ (a : Addr) (b : Bool), vs = [.ref a] ∧ CldAt K H a b ∧ ∀ v H', Ex H H' → ringV b v → Q v H'
theorem ok_Clring (t : Tx K mg) : Ok P w K mg base 2 (He.ma K (He.ga K "Closed") "ring") p_Clring (spClRing K) := by
  have G1 := ok_Dyring (P := P) (w := w) (base := base) t
  obtain ⟨fd, F⟩ := t.def_Clring
  refine ok_of F sc_Clring (fun _ _ _ _ _ _ us hl => match us, hl with | [_], _ => rfl) (fun vs H Q E h => ?_) (fun cdv A outer s H vs Q E hr h => ?_)
  · obtain ⟨a, b, rfl, _⟩ := h
    rfl
  · obtain ⟨a, b, rfl, ⟨dx, dy, fs, ks, f, h1, h2, h3, h4⟩, q⟩ := h
    refine ⟨_, pss_one (ps_ret (pe_md0 (pe_fld (pv 0) rfl) t.c_Days t.m_Days_ring G1 hr)), ?_⟩
    obtain ⟨dx2, dd, fs2, r, g1, g2, g3, g4, _⟩ := id h4.ex
    exact evR_ring (ev_fld (ev_var rfl) h1 t.c_Closed t.a_Closed_owndays h2) g1 g4 h4 H (Ex.refl H) _ fun v H2 e2 r => q v H2 e2 r
theorem evR_clring {σ : L2.St} {H : Hp} {ta : TE} {a : Addr} {b : Bool} (h : Ev ta σ H (.ref a)) (d : CldAt K H a b) : EvR (tMeth (He.ga K "Closed") "ring" (spClRing K) [] E0 ta tNil) σ H (fun v _ => ringV b v) := by
  obtain ⟨dx, dy, fs, ks, f, h1, h2, h3, h4⟩ := id d
  exact evR_meth h h1 h3 ea_nil fun H1 e1 Q q => ⟨a, b, rfl, d.ex e1, q⟩
/-! ### Calendar.closed -/
/-- what is known of a calendar's parts -/
structure CalW (sl : List Str) (cs : List Cl) : Prop where
  nd : (sl ++ [day]).Nodup
  len : sl.length ≤ 8
  c40 : cs.length ≤ 40
  mem : ∀ x ∈ cs, x.one ∈ sl ++ [day] ∧ x.other ∈ sl ++ [day]
def chOf (sl : List Str) (cs : List Cl) : Option Str := (Ld.rounds cs ((sl ++ [day]).length + 1)).ch
def spCaClosed (K : PySem.W.Frag) : Sp := fun vs H Q _ => ∃ (a : Addr) (sl : List Str) (cs : List Cl), vs = [.ref a] ∧ CalAt K H a sl cs ∧ CalW sl cs ∧ ∀ p H', H p = none → Ex H H' → CldAt K H' p (chOf sl cs).isNone → Q (.ref p) H'
theorem ok_Caclosed (t : Tx K mg) : Ok P w K mg base 6 (He.ma K (He.ga K "Calendar") "closed") p_Caclosed (spCaClosed K) := by
  have G1 := ok_ClInit (P := P) (w := w) (base := base) t
  obtain ⟨fd, F⟩ := t.def_Caclosed
  refine ok_of F sc_Caclosed (fun _ _ _ _ _ _ us hl => match us, hl with | [_], _ => rfl) (fun vs H Q E h => ?_) (fun cdv A outer s H vs Q E hr h => ?_)
  · obtain ⟨a, sl, cs, rfl, _⟩ := h
    rfl
  · obtain ⟨a, sl, cs, rfl, ⟨dx, m, c, ha, hm, hc⟩, cw, q⟩ := h
    refine ⟨_, pss_one (ps_ret (pe_mk t.mk_Closed G1 hr t.g_Closed (pa_cons (pe_fld (pv 0) rfl) (pa_cons (pe_fld (pv 0) rfl) pa_nil)))), ?_⟩
    refine s_retN (R := fun p H2 => CldAt K H2 p (chOf sl cs).isNone) (en_make (ear_of (ea_cons (ev_fld (ev_var rfl) ha t.c_Calendar t.a_Calendar_ownmoments (caF_m _ _)) (ea_cons (ev_fld (ev_var rfl) ha t.c_Calendar t.a_Calendar_ownclauses (caF_c _ _)) ea_nil))) fun vs H1 x dx' e1 r hx hdx hne Q q => ?_) q
    subst r
    exact ⟨H1, x, dx', m, c, sl, cs, rfl, (Ex.new hdx).mut hx, hx, upd_same, e1 _ _ hm, hc.ex e1, cw.nd, by have := cw.len; omega, by have := cw.c40; omega, cw.mem, q⟩
/-! ### some_dates -/
/-- dates of moments sl that keep the clauses, or None -/
def sdV (sl : List Str) (cs : List Cl) (H0 : Hp) (v : V) (H' : Hp) : Prop :=
  (chOf sl cs ≠ none ∧ v = .non) ∨ (chOf sl cs = none ∧ ∃ p, v = .ref p ∧ H0 p = none ∧ H' p = some (.dK (kvF sl fun m => (Ld.rounds cs ((sl ++ [day]).length + 1)).f m - (Ld.rounds cs ((sl ++ [day]).length + 1)).f day)))
def spSome (K : PySem.W.Frag) : Sp := fun vs H Q _ => ∃ (m c : Addr) (sl yk : List Str) (cs : List Cl), vs = [.ref m, .ref c] ∧ H m = some (.lst (sl.map V.str)) ∧ ClsAt H c cs ∧ Mom sl yk ∧ cs.length ≤ 60 ∧ (∀ x ∈ cs, x.one ∈ sl ++ [day] ∧ x.other ∈ sl ++ [day]) ∧
  ∀ v H', Ex H H' → sdV sl cs H v H' → Q v H'
theorem Mom.nds {sl yk : List Str} (m : Mom sl yk) : (sl ++ [LdP.day]).Nodup := m.yk.1.nodup_iff.mp m.ndk
theorem ok_somedates (t : Tx K mg) : Ok P w K mg base 4 (He.ga K "some_dates") p_somedates (spSome K) := by
  have G1 := ok_DyInit (P := P) (w := w) (base := base) t
  have G2 := (ok_Dyring (P := P) (w := w) (base := base) t).mono (show 1 ≤ 3 by decide)
  have G3 := (ok_Dydates (P := P) (w := w) (base := base) t).mono (show 1 ≤ 3 by decide)
  obtain ⟨fd, F⟩ := t.def_somedates
  refine ok_of F sc_somedates (fun _ _ _ _ _ _ us hl => match us, hl with | [_, _], _ => rfl) (fun vs H Q E h => ?_) (fun cdv A outer s H vs Q E hr h => ?_)
  · obtain ⟨m, c, sl, yk, cs, rfl, _⟩ := h
    rfl
  · obtain ⟨m, c, sl, yk, cs, rfl, hm, hc, mo, h60, hks, q⟩ := h
    obtain ⟨uZ, eZ⟩ := t.k_ZERO
    refine ⟨_, pss_cons (ps_set (i := 2) sc_somedates.nd rfl (Or.inl rfl) (pe_mk t.mk_Days G1 hr t.g_Days (pa_cons (pe_op op_cat (pe_callTy call_list_of (by rfl) t.f_list boot_list' (pa_cons (pv 0) pa_nil)) (pe_lst (pa_cons (pe_glob (v := .str "day") (by rfl) eZ ⟨_, rfl⟩) pa_nil))) (pa_cons (pv 1) pa_nil))))
      (pss_one (ps_ret (pe_ifExp (pt_cmpR op_notN (pe_md0 (pv 2) t.c_Days t.m_Days_ring G2 hr) pe_non (nomark _)) pe_non (pe_md0 (pv 2) t.c_Days t.m_Days_dates G3 hr)))), ?_⟩
    refine q_asgN (en_days (t := t) (ks := sl ++ [day]) (cs := cs) (ear_consN (en_L (el_catN (el_list1 (ev_var rfl) hm) (fun _ _ => el_lst (ea_cons ev_c ea_nil) (by show 1 ≤ 100000; decide)) (by rw [List.length_map]; show sl.length + 1 ≤ 100000; have := mo.len; omega))) fun p H3 e3 hp =>
        ear_cons (ev_var rfl) fun H4 e4 => ear_nil fun H5 e5 => ⟨p, c, rfl, by rw [List.map_append]; exact (e4.trans e5) _ _ hp, hc.ex ((e3.trans e4).trans e5), mo.nds, by rw [List.length_append, List.length_singleton]; have := mo.len; omega, h60, hks⟩)) (fun p H1 hp e1 hD => ?_)
    obtain ⟨dx, dd, fs, r, g1, g2, g3, g4, g5, g6, g7⟩ := id hD.ex
    show tIf _ _ _ _ _ _
    refine et_notR (b := !(chOf sl cs).isNone) (evR_ring (ev_var rfl) g1 g4 hD) (fun v H2 r => by rw [ringV_is r]; rfl) H1 (Ex.refl H1) _ fun H2 e2 => ?_
    cases hch : chOf sl cs with
    | some z => exact iteT (q .non H2 (e1.trans e2) (.inl ⟨by (rw [hch]; exact Option.some_ne_none z), rfl⟩))
    | none =>
      refine iteF ?_
      refine en_meth (R' := fun p H3 => H3 p = some (.dK (kvF sl fun m => (Ld.rounds cs ((sl ++ [day]).length + 1)).f m - (Ld.rounds cs ((sl ++ [day]).length + 1)).f day))) (ev_var rfl) (e2 _ _ g1) g5 (ear_of ea_nil) (fun vs H3 e3 r Q q => ?_) H2 (Ex.refl H2) _ fun p' H3 hp' e3 h3 => q _ H3 ((e1.trans e2).trans e3) (.inr ⟨hch, p', rfl, fresh_back (e1.trans e2) hp', h3⟩)
      subst r
      exact ⟨p, sl, yk, _, _, rfl, hD.mono (e2.trans e3), mo, q⟩
end
end LdP
/-! # LdI -/
/-! closing: want_point, closed_of, dates_apart, dates_with -/
namespace LdP
open PySem PySem.Spec PyProof.Rows L2 Evl
section
variable {base : Heap} {mg : Str → Option Value} {K : PySem.W.Frag} {w : World} {P : Program}
def PtAt (H : Hp) (p : Addr) (z : Str) (i : Int) : Prop := H p = some (.tup [.str z, .int i])
def spWant (K : PySem.W.Frag) : Sp := fun vs H Q _ => ∃ (a p : Addr) (sl : List Str) (cs : List Cl) (z : Str) (i : Int), vs = [.ref a, .ref p] ∧ CalAt K H a sl cs ∧ SlW sl ∧ PtAt H p z i ∧ z ∈ sl ++ [day] ∧ ∀ H', Ex H H' → Q .non H'
theorem ok_wantpoint (t : Tx K mg) : Ok P w K mg base 4 (He.ga K "want_point") p_wantpoint (spWant K) := by
  have G1 := ok_ispoint (P := P) (w := w) (base := base) t
  have G2 := (ok_Cahasmoment (P := P) (w := w) (base := base) t).mono (show 1 ≤ 3 by decide)
  obtain ⟨fd, F⟩ := t.def_wantpoint
  refine ok_of F sc_wantpoint (fun _ _ _ _ _ _ us hl => match us, hl with | [_, _], _ => rfl) (fun vs H Q E h => ?_) (fun cdv A outer s H vs Q E hr h => ?_)
  · obtain ⟨a, p, sl, cs, z, i, rfl, _⟩ := h
    rfl
  · obtain ⟨a, p, sl, cs, z, i, rfl, hc, hw, hp, hz, q⟩ := h
    refine ⟨_, pss_one (ps_if (PW.pt (pw_or (pt_not (pt_val (pe_fn G1 hr t.g_ispoint (pa_cons (pv 1) pa_nil)))) (pw_or1 (pt_not (pt_val (pe_md (pv 0) t.c_Calendar t.m_Calendar_hasmoment G2 hr (pa_cons (pe_ix ix_tup (pv 1) pe_int (fun _ _ => rfl)) pa_nil))))))) pss_never pss_nil), ?_⟩
    obtain ⟨dx, m, c, ha, _⟩ := id hc
    obtain ⟨hz1, hz2⟩ := slw_moment hw hz
    exact s_when (b := false) (et_is (et_or (et_not (et_B (ev_call (ea_cons (ev_var rfl) ea_nil) (z := .bl true) (fun H1 e1 Q q E => ⟨p, z, i, rfl, e1 _ _ hp, hz1, hz2, q⟩)))) fun _ =>
      et_not (et_B (ev_meth (ev_var rfl) ha (caF_no _ _ (by decide +kernel) (by decide +kernel)) (ea_cons (ev_op (ev_var rfl) ev_c (rv_ixT (st_of hp) rfl)) ea_nil) (sv_hasm hc.mom hz)))) rfl) (fun e => nomatch e) (fun _ => q)
theorem sv_want {H : Hp} {a p : Addr} {sl : List Str} {cs : List Cl} {z : Str} {i : Int} (hc : CalAt K H a sl cs) (hw : SlW sl) (hp : PtAt H p z i) (hz : z ∈ sl ++ [day]) : SpV (spWant K) ([.ref a, .ref p] ++ []) H .non := fun H1 e1 Q q E => ⟨a, p, sl, cs, z, i, rfl, hc.ex e1, hw, e1 _ _ hp, hz, q⟩
/-! ### closed_of -/
def spClOf (K : PySem.W.Frag) : Sp := fun vs H Q _ => ∃ (a : Addr) (sl : List Str) (cs : List Cl), vs = [.ref a] ∧ CalAt K H a sl cs ∧ CalW sl cs ∧ chOf sl cs = none ∧ ∀ p H', H p = none → Ex H H' → Q (.ref p) H'
theorem ok_closedof (t : Tx K mg) : Ok P w K mg base 7 (He.ga K "closed_of") p_closedof (spClOf K) := by
  have G1 := ok_Caclosed (P := P) (w := w) (base := base) t
  have G2 := (ok_Clring (P := P) (w := w) (base := base) t).mono (show 2 ≤ 6 by decide)
  obtain ⟨fd, F⟩ := t.def_closedof
  refine ok_of F sc_closedof (fun _ _ _ _ _ _ us hl => match us, hl with | [_], _ => rfl) (fun vs H Q E h => ?_) (fun cdv A outer s H vs Q E hr h => ?_)
  · obtain ⟨a, sl, cs, rfl, _⟩ := h
    rfl
  · obtain ⟨a, sl, cs, rfl, hc, hw, hch, q⟩ := h
    refine ⟨_, pss_cons (ps_set (i := 1) sc_closedof.nd rfl (Or.inl rfl) (pe_md0 (pv 0) t.c_Calendar t.m_Calendar_closed G1 hr))
      (pss_cons (ps_if (pt_cmpR op_notN (pe_md0 (pv 1) t.c_Closed t.m_Closed_ring G2 hr) pe_non (nomark _)) pss_never pss_nil) (pss_one (ps_ret (pv 1)))), ?_⟩
    obtain ⟨dx, m, c, ha, _⟩ := id hc
    refine q_asgN (R := fun p H2 => CldAt K H2 p true) (en_meth (ev_var rfl) ha (caF_no _ _ (by decide +kernel) (by decide +kernel)) (ear_of ea_nil) (fun vs H1 e1 r Q q => by
      subst r
      exact ⟨a, sl, cs, rfl, hc.ex e1, hw, fun p H' h0 e h => q p H' h0 e (by rw [hch] at h; exact h)⟩)) (fun p H1 hp e1 hD => ?_)
    refine q_when (b := false) (et_notR (evR_clring (ev_var rfl) hD) (fun v H2 r => by rw [ringV_is r]; rfl)) (fun e => nomatch e) (fun _ H2 e2 => ?_)
    exact s_ret (ev_var rfl) fun H3 e3 => q p H3 hp ((e1.trans e2).trans e3)
/-! ### dates_apart -/
theorem apart_len (f g : Str) (n : Int) : (Ld.apart f g n).length = 2 := rfl
def spApart (K : PySem.W.Frag) : Sp := fun vs H Q _ => ∃ (a : Addr) (sl yk : List Str) (cs : List Cl) (f g : Str) (n : Int), vs = [.ref a, .str f, .str g, .int n] ∧ CalAt K H a sl cs ∧ CalW sl cs ∧ Mom sl yk ∧ f ∈ sl ++ [day] ∧ g ∈ sl ++ [day] ∧
  ∀ v H', Ex H H' → sdV sl (cs ++ Ld.apart f g n) H v H' → Q v H'
theorem sdV.back {sl : List Str} {cs : List Cl} {H H1 H2 : Hp} {v : V} (e : Ex H H1) (h : sdV sl cs H1 v H2) : sdV sl cs H v H2 := by
  rcases h with h | ⟨h, p, h1, h2, h3⟩
  · exact .inl h
  · exact .inr ⟨h, p, h1, fresh_back e h2, h3⟩
theorem ok_datesapart (t : Tx K mg) : Ok P w K mg base 5 (He.ga K "dates_apart") p_datesapart (spApart K) := by
  have G1 := ok_somedates (P := P) (w := w) (base := base) t
  have G2 := (ok_Camoments (P := P) (w := w) (base := base) t).mono (show 1 ≤ 4 by decide)
  have G3 := (ok_Caclauses (P := P) (w := w) (base := base) t).mono (show 1 ≤ 4 by decide)
  obtain ⟨fd, F⟩ := t.def_datesapart
  refine ok_of F sc_datesapart (fun _ _ _ _ _ _ us hl => match us, hl with | [_, _, _, _], _ => rfl) (fun vs H Q E h => ?_) (fun cdv A outer s H vs Q E hr h => ?_)
  · obtain ⟨a, sl, yk, cs, f, g, n, rfl, _⟩ := h
    rfl
  · obtain ⟨a, sl, yk, cs, f, g, n, rfl, hc, hw, hm, hf, hg, q⟩ := h
    refine ⟨_, pss_one (ps_ret (pe_fn G1 hr t.g_somedates (pa_cons (pe_md0 (pv 0) t.c_Calendar t.m_Calendar_moments G2 hr) (pa_cons (pe_op op_cat (pe_md0 (pv 0) t.c_Calendar t.m_Calendar_clauses G3 hr)
      (pe_lst (pa_cons (pe_tup (pa_cons (pv 1) (pa_cons (pv 2) (pa_cons (pv 3) pa_nil)))) (pa_cons (pe_tup (pa_cons (pv 2) (pa_cons (pv 1) (pa_cons (pe_un un_neg (pv 3)) pa_nil)))) pa_nil)))) pa_nil)))), ?_⟩
    obtain ⟨dx, m, c, ha, hM, ts, hC1, hC2⟩ := id hc
    have two : ∀ H1, Ex H H1 → EvN (tLst (tCons (tTup (tCons (tVar 1) (tCons (tVar 2) (tCons (tVar 3) tNil)))) (tCons (tTup (tCons (tVar 2) (tCons (tVar 1) (tCons (tUn (rU fun i => .int (-i)) (tVar 3)) tNil)))) tNil))) (start n_datesapart [.ref a, .str f, .str g, .int n]) H1
        (fun p H2 => ∃ vs, H2 p = some (.lst vs) ∧ ∃ t1 t2 : Addr, vs = [.ref t1, .ref t2] ∧ H2 t1 = some (clO ⟨f, g, n⟩) ∧ H2 t2 = some (clO ⟨g, f, -n⟩)) := fun H1 e1 =>
      en_lst (R := fun vs H2 => ∃ t1 t2 : Addr, vs = [.ref t1, .ref t2] ∧ H2 t1 = some (clO ⟨f, g, n⟩) ∧ H2 t2 = some (clO ⟨g, f, -n⟩))
        (ear_consN (en_U (eu_tup (ea_cons (ev_var rfl) (ea_cons (ev_var rfl) (ea_cons (ev_var rfl) ea_nil))) (by show 3 ≤ 100000; decide))) fun t1 H2 e2 h1 => ear_consN (en_U (eu_tup (ea_cons (ev_var rfl) (ea_cons (ev_var rfl) (ea_cons (ev_un (ev_var rfl) ru_neg) ea_nil))) (by show 3 ≤ 100000; decide))) fun t2 H3 e3 h2 => ear_nil fun H4 e4 => ⟨t1, t2, rfl, (e3.trans e4) _ _ h1, e4 _ _ h2⟩)
        (fun vs H2 H3 e ⟨t1, t2, h0, h1, h2⟩ => ⟨t1, t2, h0, e _ _ h1, e _ _ h2⟩) (fun vs H2 ⟨t1, t2, h0, _⟩ => by rw [h0]; show 2 ≤ 100000; decide)
    have hl40 := hw.c40
    have htl : ts.length = cs.length := paired_len hC2
    refine s_retR (R := fun v H2 => sdV sl (cs ++ Ld.apart f g n) H v H2) (evR_call (R := fun vs H2 => ∃ m c, vs = [.ref m, .ref c] ∧ H2 m = some (.lst (sl.map V.str)) ∧ ClsAt H2 c (cs ++ Ld.apart f g n))
      (ear_consN (en_L (el_meth (ev_var rfl) ha (caF_no _ _ (by decide +kernel) (by decide +kernel)) ea_nil (sl_moments hc))) fun m1 H1 e1 hm1 =>
        ear_consN (en_cat (xs := ts.map V.ref) (R := fun vs H2 => ∃ t1 t2 : Addr, vs = [.ref t1, .ref t2] ∧ H2 t1 = some (clO ⟨f, g, n⟩) ∧ H2 t2 = some (clO ⟨g, f, -n⟩))
          (el_meth (ev_var rfl) (e1 _ _ ha) (caF_no _ _ (by decide +kernel) (by decide +kernel)) ea_nil (fun H2 e2 Q q E => ⟨a, dx, m, c, _, rfl, (e1.trans e2) _ _ ha, (e1.trans e2) _ _ hC1, q⟩)) (fun H2 e2 => two H2 (e1.trans e2))
          (fun vs H2 H3 e ⟨t1, t2, h0, h1, h2⟩ => ⟨t1, t2, h0, e _ _ h1, e _ _ h2⟩) (fun ys H2 ⟨t1, t2, h0, _⟩ => by rw [h0, List.length_map, htl]; show cs.length + 2 ≤ 100000; omega))
        fun c1 H2 e2 ⟨ys, hc1, t1, t2, hy, g1, g2⟩ => ear_nil fun H3 e3 => ⟨m1, c1, rfl, (e2.trans e3) _ _ hm1, ts ++ [t1, t2], by rw [List.map_append]; rw [hy] at hc1; exact e3 _ _ hc1, paired_app (hC2.ex ((e1.trans e2).trans e3)) (.cons (e3 _ _ g1) (.cons (e3 _ _ g2) .nil))⟩)
      (fun vs H1 e1 ⟨m1, c1, h0, h1, h2⟩ Q q => by
        subst h0
        refine ⟨m1, c1, sl, yk, _, rfl, h1, h2, hm, ?_, ?_, fun v H' e h => q v H' e (h.back e1)⟩
        · rw [List.length_append, apart_len]
          omega
        · intro x hx
          rcases List.mem_append.mp hx with h | h
          · exact hw.mem x h
          · unfold Ld.apart at h
            simp only [List.mem_cons, List.not_mem_nil, or_false] at h
            rcases h with rfl | rfl
            · exact ⟨hf, hg⟩
            · exact ⟨hg, hf⟩)) q
/-! ### dates_with -/
def spWith (K : PySem.W.Frag) : Sp := fun vs H Q _ => ∃ (a p1 p2 : Addr) (sl yk : List Str) (cs : List Cl) (f g : Str) (i j n : Int), vs = [.ref a, .ref p1, .ref p2, .int n] ∧ CalAt K H a sl cs ∧ CalW sl cs ∧ SlW sl ∧ Mom sl yk ∧ chOf sl cs = none ∧ PtAt H p1 f i ∧ PtAt H p2 g j ∧ f ∈ sl ++ [day] ∧ g ∈ sl ++ [day] ∧
  ∀ v H', Ex H H' → sdV sl (cs ++ Ld.apart f g (n + j - i)) H v H' → Q v H'
theorem ok_dateswith (t : Tx K mg) : ∃ fd, FnOk P w K mg base CX0 8 (He.ga K "dates_with") fd p_dateswith (spWith K) ∧ Binds K fd p_dateswith [] ∧ FunD K d_dateswith.name d_dateswith.qual d_dateswith.params d_dateswith.body d_dateswith.scope [] [] (He.ga K "dates_with") fd := by
  have G1 := (ok_wantpoint (P := P) (w := w) (base := base) t).mono (show 4 ≤ 7 by decide)
  have G2 := (ok_isinteger (P := P) (w := w) (base := base) t).mono (show 1 ≤ 7 by decide)
  have G3 := ok_closedof (P := P) (w := w) (base := base) t
  have G4 := (ok_datesapart (P := P) (w := w) (base := base) t).mono (show 5 ≤ 7 by decide)
  obtain ⟨fd, F⟩ := t.def_dateswith
  refine ⟨fd, F.ok sc_dateswith (fun vs H Q E h => ?_) (fun cdv A outer s H vs Q E hr h => ?_), F.bindsN (fun _ _ _ _ _ _ us hl => match us, hl with | [_, _, _, _], _ => rfl), F⟩
  · obtain ⟨a, p1, p2, sl, yk, cs, f, g, i, j, n, rfl, _⟩ := h
    rfl
  · obtain ⟨a, p1, p2, sl, yk, cs, f, g, i, j, n, rfl, hc, hw, hs, hm, hch, h1, h2, hf, hg, q⟩ := h
    refine ⟨_, PSs.nox (pss_cons (ps_expr (pe_fn G1 hr t.g_wantpoint (pa_cons (pv 0) (pa_cons (pv 1) pa_nil)))) (pss_cons (ps_expr (pe_fn G1 hr t.g_wantpoint (pa_cons (pv 0) (pa_cons (pv 2) pa_nil))))
      (pss_cons (ps_if (pt_not (pt_val (pe_fn G2 hr t.g_isinteger (pa_cons (pv 3) pa_nil)))) pss_never pss_nil) (pss_cons (ps_expr (pe_fn G3 hr t.g_closedof (pa_cons (pv 0) pa_nil)))
      (pss_one (ps_ret (pe_fn G4 hr t.g_datesapart (pa_cons (pv 0) (pa_cons (pe_ix ix_tup (pv 1) pe_int (fun _ _ => rfl)) (pa_cons (pe_ix ix_tup (pv 2) pe_int (fun _ _ => rfl)) (pa_cons (pe_op op_sub (pe_op op_add (pv 3) (pe_ix ix_tup (pv 2) pe_int (fun _ _ => rfl))) (pe_ix ix_tup (pv 1) pe_int (fun _ _ => rfl))) pa_nil))))))))))), ?_⟩
    refine q_drop (ev_call (ea_cons (ev_var rfl) (ea_cons (ev_var rfl) ea_nil)) (sv_want hc hs h1 hf)) (fun H1 e1 => ?_)
    refine q_drop (ev_call (ea_cons (ev_var rfl) (ea_cons (ev_var rfl) ea_nil)) (sv_want (hc.ex e1) hs (e1 _ _ h2) hg)) (fun H2 e2 => ?_)
    refine q_when (b := false) (et_is (et_not (et_B (ev_call (ea_cons (ev_var rfl) ea_nil) sv_isinteger))) rfl) (fun e => nomatch e) (fun _ H3 e3 => ?_)
    have x3 := (e1.trans e2).trans e3
    refine q_dropN (R := fun _ _ => True) (en_call (ear_of (ea_cons (ev_var rfl) ea_nil)) (fun vs H4 e4 r Q q => by
      subst r
      exact ⟨a, sl, cs, rfl, hc.ex (x3.trans e4), hw, hch, fun p H' h0 e => q p H' h0 e trivial⟩)) (fun p H4 _ e4 _ => ?_)
    have x4 := x3.trans e4
    have h1' := x4 _ _ h1
    have h2' := x4 _ _ h2
    refine s_retR (R := fun v H2 => sdV sl (cs ++ Ld.apart f g (n + j - i)) H v H2) (evR_call (ear_of (ea_cons (ev_var rfl) (ea_cons (ev_op (ev_var rfl) ev_c (rv_ixT (st_of h1') rfl)) (ea_cons (ev_op (ev_var rfl) ev_c (rv_ixT (st_of h2') rfl))
      (ea_cons (ev_op (ev_op (ev_var rfl) (ev_op (ev_var rfl) ev_c (rv_ixT (st_of h2') rfl)) rv_I0) (ev_op (ev_var rfl) ev_c (rv_ixT (st_of h1') rfl)) rv_I0) ea_nil))))) (fun vs H5 e5 r Q q => by
        subst r
        exact ⟨a, sl, yk, cs, f, g, _, rfl, hc.ex (x4.trans e5), hw, hm, hf, hg, fun v H' e h => q v H' e (h.back (x4.trans e5))⟩)) (fun v H5 e5 r => q v H5 (x4.trans e5) r)
end
end LdP
/-! # LdJ -/
/-! closing: day_lists -/
namespace LdP
open PySem PySem.Spec PyProof.Rows L2 Evl
section
variable {base : Heap} {mg : Str → Option Value} {K : PySem.W.Frag} {w : World} {P : Program}
def spDayL : Sp := fun vs H Q _ => ∃ (n : Nat) (e l : Int), vs = [.int (n : Nat), .int e, .int l] ∧ n ≤ 8 ∧ (-1000 ≤ e ∧ e ≤ 1000 ∧ -1000 ≤ l ∧ l ≤ 1000) ∧ (∀ k, k ≤ n → (l + 1 - e).toNat ^ k < 50000) ∧ ∀ p H', H p = none → Ex H H' → ListO obI H' p (Ld.dayLs e l n) → Q (.ref p) H'
theorem take_flat {α β : Type} (f : α → List β) (xs : List α) (i : Nat) (x : α) (h : xs[i]? = some x) : (xs.take (i + 1)).flatMap f = (xs.take i).flatMap f ++ f x := by
  rw [List.take_add_one, h, List.flatMap_append]
  simp
theorem rng_get {e l : Int} {j : Nat} (h : j < (l + 1 - e).toNat) : (Ld.rng e l)[j]? = some (e + (j : Nat)) := by
  unfold Ld.rng
  rw [List.getElem?_map, List.getElem?_range h]
  rfl
end
end LdP
/-! # LdK -/
/-! Calendar.__contains__ -/
namespace LdP
open PySem PySem.Spec PyProof.Rows L2 Evl
section
variable {base : Heap} {mg : Str → Option Value} {K : PySem.W.Frag} {w : World} {P : Program}
def spHas (K : PySem.W.Frag) : Sp := fun vs H Q _ => ∃ (a d : Addr) (sl : List Str) (cs : List Cl) (dt : Ld.Dt Str), vs = [.ref a, .ref d] ∧ CalAt K H a sl cs ∧ CalW sl cs ∧ H d = some (obD dt) ∧ dt.map (·.1) = sl ∧ ∀ H', Ex H H' → Q (.bl (Ld.keeps cs dt)) H'
theorem all_true {α : Type} : ∀ (xs : List α), ((xs.map fun _ => true).all id) = true
  | [] => rfl
  | _ :: xs => by
    show (true && _) = true
    rw [all_true xs]
    rfl
end
end LdP
/-! # LdG1 -/
/-! Code that leaves the generators' table as it is: a second truth beside each reading. -/
namespace LdP
open PySem PySem.Spec PyProof.Rows L2 Evl
abbrev TT0 : Value → Shared → Prop := fun _ _ => False
/-- the table of generators is G behind it -/
abbrev Kp {α : Type} (X : Cx) (G : Array GenState) (m : Sem α) (s : Shared) : Prop := wpAny (model X.prog X.w) X.A m (fun _ s' => s'.gens = G) TT0 s
structure GE (X : Cx) (G : Array GenState) (e : Expr) (t : TE) : Prop where
  p : PE X e t
  g : ∀ (pins : List (Addr × Obj)) (s : Shared) (σ : L2.St) (H : Hp) (Q : VK), Inv X pins σ H s → s.gens = G → t σ H Q → Kp X G (eval e X.env) s
structure GT (X : Cx) (G : Array GenState) (e : Expr) (t : TT) : Prop where
  p : PT X e t
  g : ∀ (pins : List (Addr × Obj)) (s : Shared) (σ : L2.St) (H : Hp) (Q : Bool → Hp → Prop), Inv X pins σ H s → s.gens = G → t σ H Q → Kp X G (isTrue e X.env (eval e X.env)) s
structure GW (X : Cx) (G : Array GenState) (e : Expr) (t : TT) : Prop where
  p : PW X e t
  g : ∀ (wh : Sem Value) (pins : List (Addr × Obj)) (s : Shared) (σ : L2.St) (H : Hp) (Q : Bool → Hp → Prop), Inv X pins σ H s → s.gens = G → t σ H Q → Kp X G (isTrue e X.env wh) s
structure GA (X : Cx) (G : Array GenState) (es : List Expr) (t : TA) : Prop where
  p : PA X es t
  g : ∀ (pos : Pos) (pins : List (Addr × Obj)) (s : Shared) (σ : L2.St) (H : Hp) (Q : List V → Hp → Prop), Inv X pins σ H s → s.gens = G → t σ H Q → Kp X G (spliced (backTo pos (starEach es X.env))) s
structure GSt (X : Cx) (G : Array GenState) (st : Stmt) (t : TS) : Prop where
  p : PS X st t
  g : ∀ (pins : List (Addr × Obj)) (s : Shared) (σ : L2.St) (H : Hp) (D : Ends), Inv X pins σ H s → s.gens = G → t D σ H → Kp X G (exec st X.env) s
structure GSt' (X : Cx) (G : Array GenState) (st : List Stmt) (t : TS) : Prop where
  p : PSs X st t
  g : ∀ (pins : List (Addr × Obj)) (s : Shared) (σ : L2.St) (H : Hp) (D : Ends), Inv X pins σ H s → s.gens = G → t D σ H → Kp X G (execs st X.env) s
structure GG (X : Cx) (G : Array GenState) (tg : Expr) (t : TG) : Prop where
  p : PG X tg t
  g : ∀ (pins : List (Addr × Obj)) (s : Shared) (σ : L2.St) (H : Hp) (v : V) (u : Value) (Q : L2.St → Hp → Prop), Inv X pins σ H s → s.gens = G → RelV v u → t v σ H Q → Kp X G (assign tg X.env u) s
structure GGs (X : Cx) (G : Array GenState) (ts : List Expr) (t : TGs) : Prop where
  p : PGs X ts t
  g : ∀ (pins : List (Addr × Obj)) (s : Shared) (σ : L2.St) (H : Hp) (vs : List V) (us : List Value) (Q : L2.St → Hp → Prop), Inv X pins σ H s → s.gens = G → Vals vs us → t vs σ H Q → Kp X G (assignInOrder ((assignEach ts X.env).map (·.2)) us) s
def OpG (X : Cx) (G : Array GenState) (f : Value → Value → Sem Value) (r : R2) : Prop :=
  ∀ (pins : List (Addr × Obj)) (s : Shared) (σ : L2.St) (H : Hp) (x y : V) (v u : Value) (Q : VK), Inv X pins σ H s → s.gens = G → RelV x v → RelV y u → r x y H Q → Kp X G (f v u) s
def CallG (X : Cx) (G : Array GenState) (f : Value) (r : List V → Hp → VK → Prop) : Prop :=
  ∀ (pins : List (Addr × Obj)) (s : Shared) (σ : L2.St) (H : Hp) (xs : List V) (us : List Value) (Q : VK), Inv X pins σ H s → s.gens = G → Vals xs us → r xs H Q → Kp X G (call f us) s
section
variable {X : Cx} {G : Array GenState} {pins : List (Addr × Obj)} {s : Shared} {σ : L2.St} {H : Hp} {a b e : Expr} {es rest : List Expr} {ta tb te : TE} {pos : Pos}
theorem GE.go (h : GE X G e te) {Q : VK} {R : Value → Shared → Prop} {E : Value → Shared → Prop} (I : Inv X pins σ H s) (hs : s.gens = G) (q : te σ H Q) (k : ∀ u s1 x H1, Inv X pins σ H1 s1 → s1.gens = G → RelV x u → Q x H1 → R u s1) : wpAny (model X.prog X.w) X.A (eval e X.env) R E s :=
  wpAny_mono (both (h.p.run pins s σ H Q I q) (h.g pins s σ H Q I hs q)) (fun u s1 ⟨⟨x, H1, I1, r, q1⟩, g1⟩ => k u s1 x H1 I1 g1 r q1) fun _ _ z => z.2.elim
theorem GT.go {t : TT} (h : GT X G e t) {Q : Bool → Hp → Prop} {R : Bool → Shared → Prop} {E : Value → Shared → Prop} (I : Inv X pins σ H s) (hs : s.gens = G) (q : t σ H Q) (k : ∀ b s1 H1, Inv X pins σ H1 s1 → s1.gens = G → Q b H1 → R b s1) : wpAny (model X.prog X.w) X.A (isTrue e X.env (eval e X.env)) R E s :=
  wpAny_mono (both (h.p.run pins s σ H Q I q) (h.g pins s σ H Q I hs q)) (fun u s1 ⟨⟨H1, I1, q1⟩, g1⟩ => k u s1 H1 I1 g1 q1) fun _ _ z => z.2.elim
theorem GA.go {t : TA} (h : GA X G es t) {Q : List V → Hp → Prop} {R : List Value → Shared → Prop} {E : Value → Shared → Prop} (I : Inv X pins σ H s) (hs : s.gens = G) (q : t σ H Q) (k : ∀ us s1 xs H1, Inv X pins σ H1 s1 → s1.gens = G → Vals xs us → Q xs H1 → R us s1) : wpAny (model X.prog X.w) X.A (spliced (backTo pos (starEach es X.env))) R E s :=
  wpAny_mono (both (h.p.run pos pins s σ H Q I q) (h.g pos pins s σ H Q I hs q)) (fun u s1 ⟨⟨x, H1, I1, r, q1⟩, g1⟩ => k u s1 x H1 I1 g1 r q1) fun _ _ z => z.2.elim
theorem GSt.go {st : Stmt} {t : TS} (h : GSt X G st t) {D : Ends} {R : Flow → Shared → Prop} {E : Value → Shared → Prop} (I : Inv X pins σ H s) (hs : s.gens = G) (q : t D σ H) (k : ∀ f s1, SP X pins D f s1 → s1.gens = G → R f s1) : wpAny (model X.prog X.w) X.A (exec st X.env) R E s :=
  wpAny_mono (both (h.p.run pins s σ H D I q) (h.g pins s σ H D I hs q)) (fun u s1 ⟨q1, g1⟩ => k u s1 q1 g1) fun _ _ z => z.2.elim
theorem GSt'.go {st : List Stmt} {t : TS} (h : GSt' X G st t) {D : Ends} {R : Flow → Shared → Prop} {E : Value → Shared → Prop} (I : Inv X pins σ H s) (hs : s.gens = G) (q : t D σ H) (k : ∀ f s1, SP X pins D f s1 → s1.gens = G → R f s1) : wpAny (model X.prog X.w) X.A (execs st X.env) R E s :=
  wpAny_mono (both (h.p.run pins s σ H D I q) (h.g pins s σ H D I hs q)) (fun u s1 ⟨q1, g1⟩ => k u s1 q1 g1) fun _ _ z => z.2.elim
theorem GG.go {tg : Expr} {t : TG} (h : GG X G tg t) {v : V} {u : Value} {Q : L2.St → Hp → Prop} {R : Unit → Shared → Prop} {E : Value → Shared → Prop} (I : Inv X pins σ H s) (hs : s.gens = G) (r : RelV v u) (q : t v σ H Q) (k : ∀ s1 σ1 H1, Inv X pins σ1 H1 s1 → s1.gens = G → Q σ1 H1 → R () s1) : wpAny (model X.prog X.w) X.A (assign tg X.env u) R E s :=
  wpAny_mono (both (h.p.run pins s σ H v u Q I r q) (h.g pins s σ H v u Q I hs r q)) (fun _ s1 ⟨⟨σ1, H1, I1, q1⟩, g1⟩ => k s1 σ1 H1 I1 g1 q1) fun _ _ z => z.2.elim
/-! ### names, constants -/
theorem g_var {i : Nat} {x : Str} (hN : X.N[i]? = some x) (hv : Vis X.env.scope x) (hd : (x == ("__debug__" : Str)) = false := by decide) (hcd : (x == ("__classdict__" : Str)) = false := by decide) : GE X G (.Name x pos) (tVar i) := by
  refine ⟨pe_var hN hv hd hcd, fun pins s σ H Q I hs ⟨v, e, _⟩ => ?_⟩
  obtain ⟨m, hn, hl⟩ := I.loc
  obtain ⟨u, _, l⟩ := hl i x v hN e hv
  rcases l with ⟨hk, hm⟩ | ⟨hk | hk, c, hc, hcell⟩
  · exact wpAny_Name (wpAny_loadName_local I.ok.kind hk hn hm hs) hd
  · exact wpAny_Name (wpAny_loadName_cell I.ok.kind hk hc hcell hs) hd
  · exact wpAny_Name (wpAny_loadName_free I.ok.kind hk hc hcell hs hcd) hd
theorem gv (i : Nat) {x : Str} (hN : X.N[i]? = some x := by rfl) (hv : Vis X.env.scope x := by first | exact Or.inl rfl | exact Or.inr (Or.inl rfl) | exact Or.inr (Or.inr rfl)) (hd : (x == ("__debug__" : Str)) = false := by decide) (hcd : (x == ("__classdict__" : Str)) = false := by decide) : GE X G (.Name x pos) (tVar i) := g_var hN hv hd hcd
theorem g_int {i j} : GE X G (.Constant (.int i) j pos) (tC (.int i)) := ⟨pe_int, fun _ _ _ _ _ _ hs _ => wpAny_Constant_int hs⟩
theorem g_bl {b j} : GE X G (.Constant (.bool b) j pos) (tC (.bl b)) := ⟨pe_bl, fun _ _ _ _ _ _ hs _ => Constant_bool hs⟩
theorem g_non {j} : GE X G (.Constant .none j pos) (tC .non) := ⟨pe_non, fun _ _ _ _ _ _ hs _ => Constant_none hs⟩
theorem g_bltn {x : Str} {v : V} {u : Value} (hg : Gl X x) (hm : X.mg x = none) (hv : bootBuiltins x = some u) (r : RelV v u) (hn : x ≠ "__name__" := by decide) (hd : (x == ("__debug__" : Str)) = false := by decide) : GE X G (.Name x pos) (tC v) :=
  ⟨pe_bltn hg hm hv r hn hd, fun _ _ _ _ _ I hs _ => ld_blt I hg hm hv hs hn hd⟩
theorem g_glob {x : Str} {v : V} {u : Value} (hg : Gl X x) (hm : X.mg x = some u) (r : RelV v u) (hd : (x == ("__debug__" : Str)) = false := by decide) : GE X G (.Name x pos) (tC v) :=
  ⟨pe_glob hg hm r hd, fun _ _ _ _ _ I hs _ => ld_glob I hg hm hs hd⟩
/-! ### operators -/
theorem g_op {op : Operator} {r : R2} (ho : OpR X (binaryOp op) r) (hg : OpG X G (binaryOp op) r) (ha : GE X G a ta) (hb : GE X G b tb) : GE X G (.BinOp a op b pos) (tOp r ta tb) :=
  ⟨pe_op ho ha.p hb.p, fun pins s σ H Q I hs h => wpAny_BinOp (ha.go I hs h fun v s1 x H1 I1 g1 r1 q1 => hb.go I1 g1 q1 fun u s2 y H2 I2 g2 r2 q2 => hg _ _ _ _ _ _ _ _ _ I2 g2 r1 r2 q2)⟩
theorem g_cmpR {op : CmpOp} {r : R2} (ho : OpR X (compareOp op) r) (hg : OpG X G (compareOp op) r) (ha : GE X G a ta) (hb : GE X G b tb) (hm : behindInMarks op b = false) : GE X G (.Compare a [op] [b] pos) (tOp r ta tb) :=
  ⟨pe_cmpR ho ha.p hb.p hm, fun pins s σ H Q I hs h => wpAny_Compare1 (ha.go I hs h fun v s1 x H1 I1 g1 r1 q1 => hb.go I1 g1 q1 fun u s2 y H2 I2 g2 r2 q2 => hg _ _ _ _ _ _ _ _ _ I2 g2 r1 r2 q2) hm⟩
theorem gt_cmpR {op : CmpOp} {r : R2} (ho : OpR X (compareOp op) r) (hg : OpG X G (compareOp op) r) (ha : GE X G a ta) (hb : GE X G b tb) (hm : behindInMarks op b = false) : GT X G (.Compare a [op] [b] pos) (tTest (tOp r ta tb)) := by
  refine ⟨pt_cmpR ho ha.p hb.p hm, fun pins s σ H Q I hs h => ?_⟩
  refine wpAny_isTrue_Compare1 (ha.go I hs h fun v s1 x H1 I1 g1 r1 q1 => hb.go I1 g1 q1 fun u s2 y H2 I2 g2 r2 q2 => ?_) hm
  refine wpAny_mono (both (ho _ _ _ _ _ _ _ _ _ I2 r1 r2 q2) (hg _ _ _ _ _ _ _ _ _ I2 g2 r1 r2 q2)) (fun c s3 ⟨⟨z, H3, I3, r3, k, ez, q3⟩, g3⟩ => ?_) fun _ _ z => z.2
  subst ez
  cases r3
  exact wpAny_truthy_bool g3
theorem og_add : OpG X G (binaryOp .Add) (rI0 fun i j => .int (i + j)) := by
  intro pins s σ H x y v u Q I hs rx ry h
  obtain ⟨i, j, rfl, rfl, _⟩ := h
  obtain ⟨t, rfl⟩ := rx
  obtain ⟨t2, rfl⟩ := ry
  exact add_int hs
theorem og_sub : OpG X G (binaryOp .Sub) (rI0 fun i j => .int (i - j)) := by
  intro pins s σ H x y v u Q I hs rx ry h
  obtain ⟨i, j, rfl, rfl, _⟩ := h
  obtain ⟨t, rfl⟩ := rx
  obtain ⟨t2, rfl⟩ := ry
  exact sub_int hs
theorem og_mul : OpG X G (binaryOp .Mult) (rI CMul fun i j => .int (i * j)) := by
  intro pins s σ H x y v u Q I hs rx ry h
  obtain ⟨i, j, rfl, rfl, hc, _⟩ := h
  obtain ⟨t, rfl⟩ := rx
  obtain ⟨t2, rfl⟩ := ry
  exact mul_int hs hc.ok
theorem og_le : OpG X G (compareOp .LtE) (rI0 fun i j => .bl (decide (i ≤ j))) := by
  intro pins s σ H x y v u Q I hs rx ry h
  obtain ⟨i, j, rfl, rfl, _⟩ := h
  obtain ⟨t, rfl⟩ := rx
  obtain ⟨t2, rfl⟩ := ry
  exact le_int hs
theorem og_lt : OpG X G (compareOp .Lt) (rI0 fun i j => .bl (decide (i < j))) := by
  intro pins s σ H x y v u Q I hs rx ry h
  obtain ⟨i, j, rfl, rfl, _⟩ := h
  obtain ⟨t, rfl⟩ := rx
  obtain ⟨t2, rfl⟩ := ry
  exact lt_int hs
theorem og_gt : OpG X G (compareOp .Gt) (rI0 fun i j => .bl (decide (j < i))) := by
  intro pins s σ H x y v u Q I hs rx ry h
  obtain ⟨i, j, rfl, rfl, _⟩ := h
  obtain ⟨t, rfl⟩ := rx
  obtain ⟨t2, rfl⟩ := ry
  exact gt_int hs
theorem og_ne : OpG X G (compareOp .NotEq) rNe := by
  intro pins s σ H x y v u Q I hs rx ry h
  have hsc := h.1
  cases x with
  | non =>
    cases rx
    cases y with
    | non => cases ry; exact PySem.EqNone.ne_none_none hs
    | bl j => cases ry; exact PySem.EqNone.ne_none_bool hs
    | int j => obtain ⟨t2, rfl⟩ := ry; exact PySem.EqNone.ne_none_int hs
    | str j => obtain ⟨t2, rfl⟩ := ry; exact PySem.EqNone.ne_none_str hs
    | _ => exact absurd (show false = true from hsc) Bool.false_ne_true
  | bl i =>
    cases rx
    cases y with
    | non => cases ry; exact PySem.EqNone.ne_bool_none hs
    | bl j => cases ry; exact ne_bool hs
    | str j => obtain ⟨t2, rfl⟩ := ry; exact PySem.EqMixed.ne_bool_str hs
    | _ => exact absurd (show false = true from hsc) Bool.false_ne_true
  | int i =>
    obtain ⟨t, rfl⟩ := rx
    cases y with
    | non => cases ry; exact PySem.EqNone.ne_int_none hs
    | int j => obtain ⟨t2, rfl⟩ := ry; exact ne_int hs
    | str j => obtain ⟨t2, rfl⟩ := ry; exact PySem.EqMixed.ne_int_str hs
    | _ => exact absurd (show false = true from hsc) Bool.false_ne_true
  | str i =>
    obtain ⟨t, rfl⟩ := rx
    cases y with
    | non => cases ry; exact PySem.EqNone.ne_str_none hs
    | bl j => cases ry; exact PySem.EqMixed.ne_str_bool hs
    | int j => obtain ⟨t2, rfl⟩ := ry; exact PySem.EqMixed.ne_str_int hs
    | str j => obtain ⟨t2, rfl⟩ := ry; exact ne_str hs
    | _ => exact absurd (show false = true from hsc) Bool.false_ne_true
  | byt i =>
    obtain ⟨t, rfl⟩ := rx
    cases y with
    | byt j => obtain ⟨t2, rfl⟩ := ry; exact PySem.W.ne_bytes hs
    | _ => exact absurd (show false = true from hsc) Bool.false_ne_true
  | _ => cases y <;> exact absurd (show false = true from hsc) Bool.false_ne_true
theorem og_cat : OpG X G (binaryOp .Add) rCat := by
  intro pins s σ H x y v u Q Iz hs rx ry h
  obtain ⟨l, b, xs, zs, rfl, rfl, hHz, hBz, hz, _⟩ := h
  cases rx
  cases ry
  obtain ⟨zz, itsz, nz, rz, hlz, ez⟩ := Iz.lstM hHz
  obtain ⟨z2z, its2z, n2z, r2z, hl2z, e2z⟩ := Iz.lstM hBz
  exact PySem.P.add_list ez e2z hs (by rw [List.size_toArray, List.size_toArray]; omega)
/-! ### and, or, not, tests -/
theorem g_one {op} (h : GE X G a ta) : GE X G (.BoolOp op [a] pos) ta := ⟨pe_one h.p, fun pins s σ H Q I hs q => BoolOp_one (h.g pins s σ H Q I hs q)⟩
theorem g_and (ha : GE X G a ta) (hb : GE X G (.BoolOp .And (b :: rest) pos) tb) : GE X G (.BoolOp .And (a :: b :: rest) pos) (tAndV ta tb) := by
  refine ⟨pe_and ha.p hb.p, fun pins s σ H Q I hs h => BoolOp_and (ha.go I hs h fun v s1 x H1 I1 g1 r1 q1 => ?_)⟩
  obtain ⟨c, rfl, q1⟩ := q1
  cases r1
  refine wpAny_truthy_bool ?_
  cases c with
  | true => exact hb.g pins s1 σ H1 Q I1 g1 q1
  | false => exact g1
theorem g_not (ha : GE X G a ta) : GE X G (.UnaryOp .Not a pos) (tNotV ta) := by
  refine ⟨pe_not ha.p, fun pins s σ H Q I hs h => UnaryOp_ (ha.go I hs h fun v s1 x H1 I1 g1 r1 q1 => ?_)⟩
  obtain ⟨c, rfl, _⟩ := q1
  cases r1
  exact not_of (wpAny_truthy_bool g1)
theorem gt_val {t : TE} (h : GE X G e t) (he : ∀ whole, isTrue e X.env whole = (do let v ← whole; standAt e.pos; holding [v] (truthy v)) := by intro _; rfl) : GT X G e (tB t) := by
  refine ⟨pt_val h.p he, fun pins s σ H Q I hs hw => isTrue_plain (h.go I hs hw fun v s1 x H1 I1 g1 r1 q1 => ?_) (he _)⟩
  obtain ⟨d, rfl, _⟩ := q1
  cases r1
  exact wpAny_truthy_bool g1
theorem gt_not {tA : TT} (ha : GT X G a tA) : GT X G (.UnaryOp .Not a pos) (tNot tA) :=
  ⟨pt_not ha.p, fun pins s σ H Q I hs h => isTrue_not (wpAny_mono (ha.g pins s σ H (fun c H1 => Q (!c) H1) I hs h) (fun _ _ x => x) fun _ _ x => x)⟩
theorem gw_or1 {tA : TT} (ha : GT X G a tA) : GW X G (.BoolOp .Or [a] pos) tA := by
  refine ⟨pw_or1 ha.p, fun wh pins s σ H Q I hs h => isTrue_or (ha.go I hs h fun c s1 H1 I1 g1 q1 => ?_)⟩
  cases c with
  | false => exact isTrue_or_nil g1
  | true => exact g1
theorem gw_or {tA tB' : TT} (ha : GT X G a tA) (hb : GW X G (.BoolOp .Or (b :: rest) pos) tB') : GW X G (.BoolOp .Or (a :: b :: rest) pos) (tOr tA tB') := by
  refine ⟨pw_or ha.p hb.p, fun wh pins s σ H Q I hs h => isTrue_or (ha.go I hs h fun c s1 H1 I1 g1 q1 => ?_)⟩
  cases c with
  | true => exact g1
  | false => exact hb.g wh pins s1 σ H1 Q I1 g1 q1
theorem GW.gt {t : TT} (h : GW X G e t) : GT X G e t := ⟨h.p.pt, fun pins s σ H Q I hs q => h.g _ pins s σ H Q I hs q⟩
/-! ### argument lists, displays, fields -/
theorem ga_nil : GA X G [] tNil := ⟨pa_nil, fun _ _ _ _ _ _ _ hs _ => Calls.spliced_nil hs⟩
theorem ga_cons {t : TA} (ha : GE X G e te) (hr : GA X G es t) (he : starEach (e :: es) X.env = (false, eval e X.env) :: starEach es X.env := by rfl) : GA X G (e :: es) (tCons te t) := by
  refine ⟨pa_cons ha.p hr.p he, fun posz pins sz σ H Q I hs h => ?_⟩
  rw [he]
  show wpAny _ _ (spliced ((false, eval e X.env) :: backTo posz (starEach es X.env))) _ _ sz
  exact Calls.spliced_cons (ha.go I hs h fun u s1 x H1 I1 g1 r1 q1 => wpAny_mono (hr.g posz pins s1 σ H1 _ I1 g1 q1) (fun _ _ x => x) fun _ _ x => x)
theorem g_lst {t : TA} (h : GA X G es t) : GE X G (.List es pos) (tLst t) :=
  ⟨pe_lst h.p, fun pins s σ H Q I hs hq => wpAny_List_spliced (h.go I hs hq fun us s1 xs H1 I1 g1 r q1 => ⟨by rw [← r.length]; exact q1.1, g1⟩)⟩
theorem g_fld {f : Str} (he : GE X G e ta) (hb : attributeBase e f X.env (eval e X.env) = eval e X.env) : GE X G (.Attribute e f pos) (tFld X.K ta f) := by
  refine ⟨pe_fld he.p hb, fun pins s σ H Q I hs h => attr_of hb (he.go I hs h fun uz s1 x H1 I1 g1 rxz q1 => ?_)⟩
  obtain ⟨az, C, dx, fs, vz, ex, ea, c, n, lz, _⟩ := q1
  subst ex
  obtain rfl : uz = Value.ref az := rxz
  obtain ⟨mAz, O, rz, _, _, _⟩ := ins_get I1.hok ea
  obtain ⟨uz, huz, ruz⟩ := RelO.some_of (v := vz) (o := mAz f) (by rw [← lz]; exact rz f)
  exact get_map I1.kIn O (c.get f) c.hd n huz (handed_of ruz) g1
theorem g_con {f : Str} (he : GE X G e ta) (hb : attributeBase e f X.env (eval e X.env) = eval e X.env) : GE X G (.Attribute e f pos) (tCon X.K ta f) := by
  refine ⟨pe_con he.p hb, fun pins s σ H Q I hs h => attr_of hb (he.go I hs h fun uz s1 x H1 I1 g1 rxz q1 => ?_)⟩
  obtain ⟨az, C, dx, fs, v, u0, ex, ea, c, k, lz, _⟩ := q1
  subst ex
  obtain rfl : uz = Value.ref az := rxz
  obtain ⟨mAz, O, rz, _, _, _⟩ := ins_get I1.hok ea
  have hnz : mAz f = none := RelO.none_of (by rw [← lz]; exact rz f)
  exact get_const I1.kIn O (c.get f) c.hd k.at_ k.get k.cp hnz (handed_of k.rel) g1
/-! ### dicts -/
theorem g_dget {i o : Expr} {td ty : TE} (hu : X.A.units + 1 < cLine) (ho : GE X G o td) (hi : GE X G i ty) (hn : NoSl i) : GE X G (.Subscript o i pos) (tDGet td ty) := by
  refine ⟨pe_dget hu ho.p hi.p hn, fun pins s σ H Q I hs h => ?_⟩
  refine subD_of PySem.F.slot_dict_getitem.lookup hn (ho.go I hs h fun uz s1 x H1 I1 g1 rxz q1 => hi.go I1 g1 q1 fun iv s2 y H2 I2 g2 ry q2 => ?_)
  obtain ⟨az, vz, ex, gz, _⟩ := q2
  subst ex
  obtain rfl : uz = Value.ref az := rxz
  refine ⟨dict_typeIs I2 gz, ?_⟩
  rcases gz with ⟨kvsz, kz, ez, eyz, lz⟩ | ⟨kvsz, kz, bz, ez, eyz, ebz, lz⟩
  · subst eyz
    obtain ⟨z, hd, vsz, relz, dd⟩ := dk_rd I2.hok ez
    obtain ⟨w'z, hwz, rw'z⟩ := RelO.some_of (v := vz) (o := valueAt vsz kz) (by rw [lz]; exact relz.val kz)
    exact wpAny_getItem_of (kV_is ry) dd.mapOf hwz g2
  · subst eyz
    cases (show iv = Value.ref bz from ry)
    obtain ⟨z, hd, xsz, relz, dd⟩ := dt_rd I2.hok ez
    obtain ⟨w'z, hwz, rw'z⟩ := RelO.some_of (v := vz) (o := (atKey xsz kz).map (·.2)) (by rw [lz]; exact relz.val kz)
    obtain ⟨pz, hpz, hp2z⟩ := Option.map_eq_some_iff.mp hwz
    exact wpAny_getItem_heap (tupleKind_room_in1 hu) (key_of I2.hok ebz) dd hpz g2
theorem g_din {i o : Expr} {td ty : TE} (hu : X.A.units + 1 < cLine) (hi : GE X G i ty) (ho : GE X G o td) (hm : behindInMarks .In o = false) : GE X G (.Compare i [.In] [o] pos) (tDIn ty td) := by
  refine ⟨pe_cmp (pc_din hu hi.p ho.p) hm, fun pins s σ H Q I hs h => ?_⟩
  refine wpAny_Compare1 (hi.go I hs h fun iv s1 y H1 I1 g1 ry q1 => ho.go I1 g1 q1 fun uz s2 x H2 I2 g2 rxz q2 => ?_) hm
  obtain ⟨az, ov, ex, gz, _⟩ := q2
  subst ex
  obtain rfl : uz = Value.ref az := rxz
  rcases gz with ⟨kvsz, kz, ez, eyz, lz⟩ | ⟨kvsz, kz, bz, ez, eyz, ebz, lz⟩
  · subst eyz
    obtain ⟨z, hd, vs, rel, dd⟩ := dk_rd I2.hok ez
    exact wpAny_in_of (kV_is ry) hd dd.mapOf g2
  · subst eyz
    cases (show iv = Value.ref bz from ry)
    obtain ⟨z, hd, xs, rel, dd⟩ := dt_rd I2.hok ez
    exact wpAny_in_heap (tupleKind_room_in1 hu) (key_of I2.hok ebz) hd dd g2
/-! ### calls of what is built in -/
theorem g_callB {x : Str} {id : String} {es : List Expr} {t : TA} {r} (hc : CallR X (.builtin id) r) (hgc : CallG X G (.builtin id) r) (hg : Gl X x) (hm : X.mg x = none) (hv : bootBuiltins x = some (.builtin id)) (ha : GA X G (e :: es) t) {p : Pos} (hn : x ≠ "__name__" := by decide) (hdb : (x == ("__debug__" : Str)) = false := by decide)
    (he : starEach (e :: es) X.env = (false, eval e X.env) :: starEach es X.env := by rfl) (hpl : (backTo pos (starEach es X.env)).any (·.1) = false := by rfl) : GE X G (.Call (.Name x p) (e :: es) [] pos) (tCB r t) :=
  ⟨pe_callB hc hg hm hv ha.p hn hdb he hpl, fun pins s σ H Q I hs h => wpAny_Call_Name_kw (ld_blt I hg hm hv (PyProof.Rows.callWith_builtin1 (ha.go I hs h fun us s1 vs H1 I1 g1 r1 q1 => hgc pins s1 σ H1 vs us Q I1 g1 r1 q1) he hpl) hn hdb)⟩
theorem g_callTy {x : Str} {T : String} {es : List Expr} {t : TA} {r} (hc : CallR X (.type T) r) (hgc : CallG X G (.type T) r) (hg : Gl X x) (hm : X.mg x = none) (hv : bootBuiltins x = some (.type T)) (ha : GA X G (e :: es) t) {p : Pos} (hn : x ≠ "__name__" := by decide) (hdb : (x == ("__debug__" : Str)) = false := by decide)
    (he : starEach (e :: es) X.env = (false, eval e X.env) :: starEach es X.env := by rfl) (hpl : (backTo pos (starEach es X.env)).any (·.1) = false := by rfl) : GE X G (.Call (.Name x p) (e :: es) [] pos) (tCB r t) :=
  ⟨pe_callTy hc hg hm hv ha.p hn hdb he hpl, fun pins s σ H Q I hs h => wpAny_Call_Name_kw (ld_blt I hg hm hv (PyProof.Rows.callWith_type1 (ha.go I hs h fun us s1 vs H1 I1 g1 r1 q1 => hgc pins s1 σ H1 vs us Q I1 g1 r1 q1) he hpl) hn hdb)⟩
theorem cg_isi : CallG X G (.builtin "isinstance") (rIsi X.K) := by
  intro pins s σ H xs us Q Iz hs rz h
  obtain ⟨x, c, t, u, b, rfl, k, tyz, e, _⟩ := h
  obtain ⟨u1z, u2z, rfl, r1z, r2z⟩ := vals2 rz
  have e2 := k.eq r2z
  subst e2
  obtain ⟨Pz, Zz, pz, hxz⟩ := kit_of Iz r1z tyz
  exact PySem.W.kia_one Zz Iz.kIn pz e hxz fun tk => hs
theorem cg_len : CallG X G (.builtin "len") (fun xs H Q => ∃ p ys, xs = [.ref p] ∧ (SqL X.K H p ys ∨ SqT X.K H p ys) ∧ Q (.int ys.length) H) := by
  intro pins s σ H xs us Q Iz hs rz h
  obtain ⟨p, ys, rfl, hqz, _⟩ := h
  obtain ⟨uz, rfl, rxz⟩ := vals1 rz
  cases rxz
  have hn := line63
  rcases hqz with hqz | hqz
  · obtain ⟨itsz, r'z, plz, hzz⟩ := Iz.list hqz
    have hlen := r'z.length
    exact Calls.call_len_list plz.isList (by simp only [List.size_toArray] <;> omega) hs
  · obtain ⟨itsz, r'z, plz, hzz⟩ := Iz.tuple hqz
    have hlen := r'z.length
    exact len_tuple plz (by simp only [List.size_toArray] <;> omega) hs
theorem cg_lenD : CallG X G (.builtin "len") (fun xs H Q => ∃ a kvs, xs = [V.ref a] ∧ H a = some (.dK kvs) ∧ Q (.int kvs.length) H) := by
  intro pins s σ H xs us Q I hs rz h
  obtain ⟨a, kvs, rfl, ha, _⟩ := h
  obtain ⟨uz, rfl, ruz⟩ := vals1 rz
  cases ruz
  obtain ⟨z, hd, vs, rel, dd⟩ := dk_rd I.hok (.inl ha)
  exact call_len_dict hd dd (by rw [← rel.length]; rw [sizeLine_eq] at z; omega) hs
theorem cg_list_of : CallG X G (.type "list") (fun xs H Q => ∃ p ys, xs = [.ref p] ∧ (SqL X.K H p ys ∨ SqT X.K H p ys) ∧ ∀ l, H l = none → Q (.ref l) (upd H l (.lst ys))) := by
  intro pins s σ H xs us Q Iz hs rz h
  obtain ⟨p, ys, rfl, hqz, _⟩ := h
  obtain ⟨uz, rfl, rxz⟩ := vals1 rz
  cases rxz
  rcases hqz with hqz | hqz
  · obtain ⟨itsz, r'z, plz, hzz⟩ := Iz.list hqz
    have hlen := r'z.length
    obtain ⟨oz, hoz, hcz, nz, hdz⟩ := plz.isList
    exact call_list_seq p (.inl rfl) hoz hcz hdz (fun h' c' kp e => hs) (by simp only [List.size_toArray] <;> omega)
  · obtain ⟨itsz, r'z, plz, hzz⟩ := Iz.tuple hqz
    have hlen := r'z.length
    obtain ⟨oz, hoz, hcz, nz, hdz⟩ := plz
    exact call_list_seq p (.inr rfl) hoz hcz hdz (fun h' c' kp e => hs) (by simp only [List.size_toArray] <;> omega)
theorem cg_dictD : CallG X G (.type "dict") (fun xs H Q => ∃ (a : Addr) (kvs : List (Key × V)), xs = [.ref a] ∧ Rd H a (.dK kvs) ∧ ∀ p, H p = none → Q (.ref p) (upd H p (.dK kvs))) := by
  intro pins s σ H xs us Q Iz hs r q
  obtain ⟨a, kvs, ex, hdz, _⟩ := q
  subst ex
  obtain ⟨u, eu, rx⟩ := vals1 r
  subst eu
  cases rx
  obtain ⟨zz, loz, vsz, relz, ddz⟩ := dk_rd Iz.hok hdz
  exact kt_call_dict loz ddz (by rw [← relz.length]; exact zz) fun h' d' hs' => hs
theorem cg_all (hc : X.calm = true) : CallG X G (.builtin "all") (rAll X.K) := by
  intro pins s σ H vs us Q Iz hs r h
  obtain ⟨a, bs, rfl, hqz, _⟩ := h
  obtain ⟨itsz, rvz, hlz, _⟩ := Iz.list hqz
  rw [Vals.ref1 r]
  refine call_all_walk (iter_any hlz.isList fun s₂z e2z stz hnez => ?_)
  subst e2z
  exact ⟨_, _, _, _, _, _, _, rfl, Walks.list (A := X.A.in1) (Iz.ok.hd hc) _ a hnez itsz.toArray, stz, truth_bools rvz.bls, fun h' tk hk => hs⟩
/-! ### statements -/
theorem gs_if {c : Expr} {a b : List Stmt} {tc : TT} {t u : TS} (hc : GT X G c tc) (ha : GSt' X G a t) (hb : GSt' X G b u) : GSt X G (.If c a b pos) (tIfS tc t u) := by
  refine ⟨ps_if hc.p ha.p hb.p, fun pins s σ H D I hs h => wpAny_If (hc.go I hs h fun d s1 H1 I1 g1 q1 => ?_)⟩
  cases d with
  | true => exact ha.g pins s1 σ H1 D I1 g1 q1
  | false => exact hb.g pins s1 σ H1 D I1 g1 q1
theorem gs_ret (he : GE X G e te) : GSt X G (.Return (some e) pos) (tRet te) := ⟨ps_ret he.p, fun pins s σ H D I hs h => wpAny_Return_some (he.g pins s σ H _ I hs h)⟩
theorem gs_never {st : Stmt} : GSt X G st tNever := ⟨ps_never, fun _ _ _ _ _ _ _ h => h.elim⟩
theorem gss_nev {st : List Stmt} : GSt' X G st tNever := ⟨pss_never, fun _ _ _ _ _ _ _ h => h.elim⟩
theorem gss_nil' : GSt' X G [] tNext := ⟨pss_nil, fun _ _ _ _ _ _ hs _ => wpAny_execs_nil hs⟩
theorem gss_cons' {st : Stmt} {rest : List Stmt} {t u : TS} (h1 : GSt X G st t) (h2 : GSt' X G rest u) : GSt' X G (st :: rest) (tSeq t u) := by
  refine ⟨pss_cons h1.p h2.p, fun pins s σ H D I hs h => wpAny_execs_cons (h1.go (D := { D with nx := u D }) I hs h fun f s1 q g1 => ?_)⟩
  cases f with
  | next =>
    obtain ⟨σ', H', I', q⟩ := q
    exact h2.g pins s1 σ' H' D I' g1 q
  | ret v => exact g1
  | brk => exact g1
  | cont => exact g1
theorem gss_one {st : Stmt} {t : TS} (h1 : GSt X G st t) : GSt' X G [st] t := by
  refine ⟨pss_one h1.p, fun pins s σ H D I hs h => wpAny_execs_cons (h1.go I hs h fun f s1 q g1 => ?_)⟩
  cases f with
  | next => exact wpAny_execs_nil g1
  | ret v => exact g1
  | brk => exact g1
  | cont => exact g1
/-! ### stores -/
theorem st_gens {M : Model} {A : Around} {i : Nat} {x : Str} {v : V} {u : Value} (I : Inv X pins σ H s) (hs : s.gens = G) (hi : X.N[i]? = some x) (hx : Loc X.env.scope x) : wpAny M A (storeName X.env x u) (fun _ s' => s'.gens = G) TT0 s := by
  rcases hx with hk | hk
  · obtain ⟨m, hn, hl⟩ := id I.loc
    exact wpAny_storeName_local hk hn (fun h' hn' hs' => hs) (by rw [I.ok.kind]; rfl)
  · obtain ⟨cz, hcz⟩ := I.ok.has x (.inl hk)
    obtain ⟨w'z, zz⟩ := I.cell x cz hcz
    exact wpAny_storeName_cell I.ok.kind hk hcz zz fun h' hc' hs' => hs
theorem gg_name {i : Nat} {x : Str} (hN : X.N.Nodup) (hi : X.N[i]? = some x) (hx : Loc X.env.scope x) (hfn : X.fn x = true ∨ X.env.scope.names.lookup x = some .local := by first | exact .inl rfl | exact .inr rfl | assumption) : GG X G (.Name x pos) (gName i) :=
  ⟨pg_name hN hi hx hfn, fun pins s σ H v u Q I hs r h => wpAny_assign_Name (st_gens (v := v) I hs hi hx)⟩
theorem ggs_nil : GGs X G [] gNil := by
  refine ⟨pgs_nil, fun pins s σ H vs us Q I hs r h => ?_⟩
  obtain ⟨e, _⟩ := h
  subst e
  cases r
  exact assignInOrder_nil hs
theorem ggs_cons {e : Expr} {es : List Expr} {t : TG} {u : TGs} (h1 : GG X G e t) (h2 : GGs X G es u)
    (he : (assignEach (e :: es) X.env).map (·.2) = assign e X.env :: (assignEach es X.env).map (·.2) := by rfl) : GGs X G (e :: es) (gCons t u) := by
  refine ⟨pgs_cons h1.p h2.p he, fun pins s σ H vs us Q I hs r h => ?_⟩
  obtain ⟨v, vr, e1, h⟩ := h
  subst e1
  cases r with
  | cons r rr =>
    rw [he]
    exact assignInOrder_cons (h1.go I hs r h fun s1 σ1 H1 I1 g1 q1 => h2.g pins s1 σ1 H1 _ _ Q I1 g1 rr q1)
theorem gg_tup {es : List Expr} {k : Nat} {t : TGs} {n : Nat} (hc : X.calm = true) (h : GGs X G es t)
    (hn : (assignEach es X.env).length = n := by rfl) (hst : (assignEach es X.env).findIdx? (·.1) = none := by rfl) : GG X G (.Tuple es k pos) (gTup X.K n t) := by
  refine ⟨pg_tup hc h.p hn hst, fun pinsz sz σz Hz v u Q Iz hs r hwz => ?_⟩
  obtain ⟨az, xsz, e1z, hqz, hlz, hwz⟩ := hwz
  subst e1z
  cases r
  obtain ⟨itsz, rvz, htz, hzz⟩ := Iz.tuple hqz
  refine assign_Tuple_tuple (Iz.ok.hd hc) htz (by simp [hn, ← hlz, rvz.length]) hst fun h'z hxz => ?_
  have I1z : Inv X pinsz σz Hz { sz with heap := h'z } := Iz.kept (t' := sz.toks) fun bz oz ez => hxz bz oz (Nat.ne_of_lt (Heap.lt_size ez)) ez
  exact h.g pinsz _ σz Hz xsz _ Q I1z hs (by simpa using rvz) hwz
theorem gs_set {i : Nat} {x : Str} {pos' : Pos} (hN : X.N.Nodup) (hi : X.N[i]? = some x) (hx : Loc X.env.scope x) (he : GE X G e te) (hw : swapsWith e (some (.Name x pos')) pos.line X.env = pure false := by rfl) (hfn : X.fn x = true ∨ X.env.scope.names.lookup x = some .local := by first | exact .inl rfl | exact .inr rfl | assumption) :
    GSt X G (.Assign [.Name x pos'] e pos) (tAsg te (gName i)) :=
  ⟨ps_set hN hi hx he.p hw hfn, fun pins s σ H D I hs h => wpAny_Assign_Name (he.go I hs h fun v s1 y H1 I1 g1 r1 q1 => st_gens (v := y) I1 g1 hi hx) hw⟩
theorem gs_dput {i o value : Expr} {pos' : Pos} {td ty tv : TE} (hu : X.A.units + 1 < cLine) (ho : GE X G o td) (hi : GE X G i ty) (hv : GE X G value tv) (hw : swapsWith value (some (.Subscript o i pos')) pos.line X.env = pure false) :
    GSt X G (.Assign [.Subscript o i pos'] value pos) (sDPut td ty tv) := by
  refine ⟨ps_dput hu ho.p hi.p hv.p hw, fun pins s σ H D I hs h => ?_⟩
  refine wpAny_Assign_Subscript (hv.go I hs h fun r s1 v H1 I1 g1 rv q1 => ho.go I1 g1 q1 fun uz s2 x H2 I2 g2 rxz q2 => hi.go I2 g2 q2 fun iv s3 y H3 I3 g3 ry q3 => ?_) hw
  obtain ⟨az, H4, ex, gz, _⟩ := q3
  subst ex
  obtain rfl : uz = Value.ref az := rxz
  rcases gz with ⟨kvsz, kz, ez, eyz, lz, eHz⟩ | ⟨kvsz, kz, bz, ez, eyz, ebz, lz, eHz⟩
  · subst eyz
    obtain ⟨z, hd, vs, rel, dd⟩ := dk_of I3.hok ez
    exact wpAny_setItem_pairs (hsz := by rw [← rel.length]; exact z) (kV_is ry) dd fun h' dd' hs' => g3
  · subst eyz
    cases (show iv = Value.ref bz from ry)
    obtain ⟨z, hd, xs, rel, dd⟩ := dt_of I3.hok ez
    exact wpAny_setItem_heap (hsz := by rw [← Paired.length rel]; exact z) (tupleKind_room_in1 hu) (key_of I3.hok ebz) dd fun h' dd' hs' => g3
end
end LdP
/-! # LdG2 -/
/-! The same for loops, list comprehensions, calls of own defs. -/
namespace LdP
open PySem PySem.Spec PyProof.Rows L2 Evl
/-! ### what is walked -/
structure TurnG (P : Program) (w : World) (K : PySem.W.Frag) (G : Array GenState) (tg : Expr) (J : It) (fp : List Addr) (it : Addr) (tn : Nat → Heap → Prop) : Prop where
  t : Turn P w K tg J fp it tn
  i : ∀ (X : Cx), X.prog = P → X.w = w → X.K = K → X.calm = true → ∀ (i : Nat) (pins : List (Addr × Obj)) (s : Shared) (σ : L2.St) (H : Hp), Inv X pins σ H s → s.gens = G → (∀ b ∈ fp, FpOk X pins H b) → tn i s.heap → J.go i H →
    wpAny (model P w) X.A (pyNext (.ref it)) (fun r s1 => ∀ u, r = some u → wpAny (model P w) X.A (letOwnedTupleGo tg (.ref it) u) (fun _ s2 => s2.gens = G) TT0 s1) TT0 s
  d : ∀ (X : Cx), X.prog = P → X.w = w → X.K = K → X.calm = true → ∀ (i : Nat) (pins : List (Addr × Obj)) (s : Shared) (σ : L2.St) (H : Hp), Inv X pins σ H s → s.gens = G → (∀ b ∈ fp, FpOk X pins H b) → tn i s.heap → J.stop i H →
    wpAny (model P w) X.A (pyNext (.ref it)) (fun _ s1 => s1.gens = G) TT0 s
section
variable {G : Array GenState} {tg : Expr} {J : It} {fp : List Addr} {it : Addr} {tn : Nat → Heap → Prop} {X : Cx} {pins : List (Addr × Obj)} {s : Shared} {σ : L2.St} {H : Hp}
theorem TurnG.item (T : TurnG X.prog X.w X.K G tg J fp it tn) (hc : X.calm = true) {i : Nat} (I : Inv X pins σ H s) (hs : s.gens = G) (hf : ∀ b ∈ fp, FpOk X pins H b) (st : tn i s.heap) (hg : J.go i H) :
    wpAny (model X.prog X.w) X.A (pyNext (.ref it)) (fun r s1 => ∃ u, r = some u ∧ wpAny (model X.prog X.w) X.A (letOwnedTupleGo tg (.ref it) u) (fun _ s2 => s2.gens = G ∧ ∃ x H', Inv X pins σ H' s2 ∧ RelV x u ∧ J.yld i H x H' ∧ tn (i + 1) s2.heap ∧ ∀ b ∈ fp, H' b = none) TT0 s1) TT0 s := by
  refine wpAny_mono (both (T.t.item X rfl rfl rfl hc i pins s σ H TT0 I hf st hg) (T.i X rfl rfl rfl hc i pins s σ H I hs hf st hg)) (fun r s1 ⟨⟨u, hr, h4⟩, h5⟩ => ⟨u, hr, ?_⟩) fun _ _ z => z.2
  exact wpAny_mono (both h4 (h5 u hr)) (fun _ s2 ⟨a, b⟩ => ⟨b, a⟩) fun _ _ z => z.2
theorem TurnG.done (T : TurnG X.prog X.w X.K G tg J fp it tn) (hc : X.calm = true) {i : Nat} (I : Inv X pins σ H s) (hs : s.gens = G) (hf : ∀ b ∈ fp, FpOk X pins H b) (st : tn i s.heap) (hg : J.stop i H) :
    wpAny (model X.prog X.w) X.A (pyNext (.ref it)) (fun r s1 => s1.gens = G ∧ r = none ∧ Inv X pins σ H s1) TT0 s :=
  wpAny_mono (both (T.t.done X rfl rfl rfl hc i pins s σ H TT0 I hf st hg) (T.d X rfl rfl rfl hc i pins s σ H I hs hf st hg)) (fun r s1 ⟨a, b⟩ => ⟨b, a⟩) fun _ _ z => z.2
end
theorem tg_list {P : Program} {w : World} {K : PySem.W.Frag} {G : Array GenState} {tg : Expr} (a it : Addr) : TurnG P w K G tg (Itl K a) [it] it (fun i h => h.IsListIter it a i) where
  t := turn_list a it
  i := by
    rintro X rfl rfl rfl hc i pins s σ H I hs hf st ⟨xs, x, hq, hx⟩
    obtain ⟨itsz, rvz, pz, hzz⟩ := I.list hq
    obtain ⟨uz, huz, ruz⟩ := rvz.get hx
    refine wpAny_pyNext_list_item st pz.isList (x := uz) (by simpa using huz) fun h' st' sb v ev => ?_
    obtain ⟨o, e, c, d⟩ := id st'
    exact go_of (s := { s with heap := h' }) e c d (by decide) hs
  d := by
    rintro X rfl rfl rfl hc i pins s σ H I hs hf st ⟨xs, hq, hx⟩
    obtain ⟨itsz, rvz, pz, hzz⟩ := I.list hq
    have hl := rvz.length
    exact wpAny_pyNext_list_end (I.ok.hd hc) st pz.isList (by simp; omega) fun h' eb => hs
theorem tg_range {P : Program} {w : World} {K : PySem.W.Frag} {G : Array GenState} {tg : Expr} (it : Addr) (lo : Int) (n : Nat) : TurnG P w K G tg (Itr lo n) [it] it (fun i h => IsRangeIter h it (lo + (i : Nat) * 1) ((n : Int) - (i : Nat)) 1) where
  t := turn_range it lo n
  i := by
    rintro X rfl rfl rfl hc i pins s σ H I hs hf st hg
    have W := Walks.range (prog := X.prog) (w := X.w) (I.ok.hd hc) it lo 1 n; refine W.item i s _ _ hg st fun v h' tk hv st' kk u ev => ?_
    exact go_of (s := { s with heap := h', toks := tk }) (n := "range_iterator") st' rfl rfl (by decide) hs
  d := by
    rintro X rfl rfl rfl hc i pins s σ H I hs hf st hg
    exact wpAny_pyNext_range_end (I.ok.hd hc) st (by have : n ≤ i := hg; omega) fun h' eb => hs
/-- the iterator of a loop has come -/
def PIG (X : Cx) (G : Array GenState) (pins : List (Addr × Obj)) (σ : L2.St) (tg : Expr) (R : It → Hp → Prop) (itv : Value) (s2 : Shared) : Prop :=
  s2.gens = G ∧ ∃ (it : Addr) (fp : List Addr) (tn : Nat → Heap → Prop) (J : It) (H' : Hp), itv = .ref it ∧ Inv X pins σ H' s2 ∧ TurnG X.prog X.w X.K G tg J fp it tn ∧ tn 0 s2.heap ∧ (∀ b ∈ fp, FpOk X pins H' b) ∧ R J H'
structure GI (X : Cx) (G : Array GenState) (tg iter : Expr) (wi : TI) : Prop where
  p : PI X tg iter wi
  g : ∀ (pins : List (Addr × Obj)) (s : Shared) (σ : L2.St) (H : Hp) (R : It → Hp → Prop), Inv X pins σ H s → s.gens = G → wi σ H R →
    wpAny (model X.prog X.w) X.A (eval iter X.env) (fun v s1 => wpAny (model X.prog X.w) X.A (pyIter v) (PIG X G pins σ tg R) TT0 s1) TT0 s
section
variable {X : Cx} {G : Array GenState} {tg : Expr} {pos p : Pos}
theorem gi_list {l : Expr} {tl : TE} (hl : GE X G l tl) : GI X G tg l (iList X.K tl) := by
  refine ⟨pi_list hl.p, fun pins s σ H R I hs h => hl.go I hs h fun v s1 x H1 I1z g1 r1 q1z => ?_⟩
  obtain ⟨az, ez, ⟨xsz, hqz⟩, qz⟩ := q1z
  subst ez
  cases r1
  obtain ⟨itsz, rvz, pz, hzz⟩ := I1z.list hqz
  refine wpAny_pyIter_list pz.isList ⟨g1, s1.heap.objs.size, [s1.heap.objs.size], _, _, H1, rfl, I1z.kept (t' := s1.toks) fun b o ez => Heap.get?_push_of_some _ ez, tg_list az _, ⟨_, Heap.get?_push_size _ rfl, rfl, rfl⟩, fun b hb => ?_, qz⟩
  cases List.mem_singleton.mp hb
  exact I1z.fpOk (Nat.le_refl _) (I1z.hok.fresh (Nat.le_refl _))
theorem rg_it {pins : List (Addr × Obj)} {σ : L2.St} {H : Hp} {s : Shared} {R : It → Hp → Prop} {lo hi : Int} {t u v : Tok} {tk : Nat} (I : Inv X pins σ H s) (hs : s.gens = G) (h1 : -(2 ^ 62) ≤ lo) (h2 : lo < 2 ^ 62) (h3 : -(2 ^ 62) ≤ hi) (h4 : hi < 2 ^ 62)
    (q : R (Itr lo (hi - lo).toNat) H) : wpAny (model X.prog X.w) X.A (pyIter (.ref s.heap.objs.size)) (PIG X G pins σ tg R) TT0 { s with heap := s.heap.push { cls := .type "range", data := .fields #[.int lo t, .int hi u, .int 1 v] }, toks := tk } := by
  refine wpAny_pyIter_range (IsRange.new ..) (small_one h1 h2 h3 h4) ?_; have I1z : Inv X pins σ H { s with heap := s.heap.push { cls := .type "range", data := .fields #[.int lo t, .int hi u, .int 1 v] }, toks := tk } := I.kept fun bz oz ez => Heap.get?_push_of_some _ ez
  refine ⟨hs, _, [_], _, _, H, rfl, I1z.kept (t' := tk) fun bz oz ez => Heap.get?_push_of_some _ ez, tg_range _ lo (hi - lo).toNat, ?_, fun bz hb => ?_, q⟩
  · have e1z : lo + ((0 : Nat) : Int) * 1 = lo := by simp
    have e2z : (((hi - lo).toNat : Nat) : Int) - ((0 : Nat) : Int) = Builtin.Range.rangeSize lo hi 1 := by rw [rangeSize_one]; split <;> omega
    show IsRangeIter _ _ (lo + ((0 : Nat) : Int) * 1) ((((hi - lo).toNat : Nat) : Int) - ((0 : Nat) : Int)) 1; rw [e1z, e2z]; exact Heap.get?_push_size _ rfl
  · cases List.mem_singleton.mp hb
    exact I1z.fpOk (Nat.le_refl _) (I1z.hok.fresh (Nat.le_refl _))
theorem gi_range1 {a : Expr} {ta : TA} (hg : Gl X "range") (hm : X.mg "range" = none) (ha : GA X G [a] ta) (he : starEach [a] X.env = [(false, eval a X.env)] := by rfl) : GI X G tg (.Call (.Name "range" p) [a] [] pos) (iRng1 ta) := by
  refine ⟨pi_range1 hg hm ha.p he, fun pins s σ H R I hs h => ?_⟩
  refine Call_ (ld_blt I hg hm boot_range (PyProof.Rows.callWith_type1 (ha.go I hs h fun us s1 vs H1 I1 g1 r1 q1z => ?_) he rfl))
  obtain ⟨jz, ez, q1z, q2z, qz⟩ := q1z
  subst ez
  cases r1 with
  | cons r rr =>
    cases rr
    obtain ⟨t, rfl⟩ := r
    exact call_range_1 (rg_it I1 g1 (by omega) (by omega) q1z q2z (by simpa using qz))
theorem gi_range2 {a b : Expr} {ta : TA} (hg : Gl X "range") (hm : X.mg "range" = none) (ha : GA X G [a, b] ta) (he : starEach [a, b] X.env = [(false, eval a X.env), (false, eval b X.env)] := by rfl) (he2 : starEach [b] X.env = [(false, eval b X.env)] := by rfl) :
    GI X G tg (.Call (.Name "range" p) [a, b] [] pos) (iRng2 ta) := by
  refine ⟨pi_range2 hg hm ha.p he he2, fun pins s σ H R I hs h => ?_⟩
  refine Call_ (ld_blt I hg hm boot_range (PyProof.Rows.callWith_type1 (ha.go I hs h fun us s1 vs H1 I1 g1 r1 q1z => ?_) (by rw [he, he2]) (by rw [he2]; rfl)))
  obtain ⟨iz, jz, ez, ⟨q1z, q2z, q3z, q4z⟩, qz⟩ := q1z
  subst ez
  cases r1 with
  | cons r rr =>
    cases rr with
    | cons r' rr =>
      cases rr
      obtain ⟨t, rfl⟩ := r
      obtain ⟨t', rfl⟩ := r'
      exact call_range_2 (rg_it I1 g1 q1z q2z q3z q4z qz)
/-! ### for -/
theorem gs_for {iter : Expr} {body : List Stmt} {wi : TI} {g : TG} {tb : TS} (hp : PassesOwn (model X.prog X.w) X.A X.env X.xe) (hc : X.calm = true) (hi : GI X G tg iter wi) (hg : GG X G tg g) (hb : GSt' X G body tb)
    (hf : ∀ x, foldedSetIterable iter X.env x = pure x := by intro _; rfl) : GSt X G (.For tg iter body [] pos) (tFor wi g tb) := by
  refine ⟨ps_for hp hc hi.p hg.p hb.p hf, fun pinsz s σ H D I hs h => ?_⟩
  refine wpAny_For (wpAny_mono (hi.g pinsz s σ H _ I hs h) (fun v s1 h1 => wpAny_mono h1 (fun itv s2 h2 => ?_) fun _ _ x => x) fun _ _ x => x) hf
  obtain ⟨g2, it, fpz, tn, J, H2, e, I2, T, st2, f2z, W, ⟨m0, w0⟩, turn⟩ := h2
  subst e
  have statz : ∀ {H' : Hp}, (∀ bz ∈ fpz, H' bz = none) → ∀ bz ∈ fpz, FpOk X pinsz H' bz := fun hnz bz hb => ⟨hnz bz hb, (f2z bz hb).2⟩
  have pv : PassesOwn (model X.prog X.w) X.A X.env TT0 := PassesOwn.never
  refine codeAny_forLoop_any (fun n s' => s'.gens = G ∧ ∃ i σ' H', Inv X pinsz σ' H' s' ∧ tn i s'.heap ∧ (∀ bz ∈ fpz, H' bz = none) ∧ W i n σ' H') ?_ m0 ⟨g2, 0, σ, H2, I2, st2, fun bz hb => (f2z bz hb).1, w0⟩
  rintro n s3 ⟨g3, i, σ3, H3, I3, st3, fr3, w3⟩
  rcases turn i n σ3 H3 w3 with ⟨stop, _⟩ | ⟨go, N, hNz, step⟩
  · refine wpAny_passesOwn pv (thn (T.done hc I3 g3 (statz fr3) st3 stop) fun r s4 ⟨g4, hr, I4⟩ => ?_)
    subst hr
    exact wpAny_execs_nil g4
  · refine wpAny_passesOwn pv (thn (T.item hc I3 g3 (statz fr3) st3 go) fun r s4 ⟨u, hr, h4⟩ => ?_)
    subst hr
    refine wpAny_passesOwn pv (thn h4 fun _ s5 ⟨g5, x, H5, I5, r5, y5, st5, fr5⟩ => ?_)
    have I5' := I5.pinned (statz fr5) (T.t.obj _ _ st5)
    refine wpAny_passesOwn pv (hg.go I5' g5 r5 (step x H5 y5) fun s6 σ6 H6 I6 g6 q6 => ?_)
    refine wpAny_passesOwn pv (hb.go I6 g6 q6 fun f s7 q7 g7 => ?_)
    have next : ∀ {σ7z : L2.St} {H7z : Hp}, Inv X (pinsz ++ pinsAt fpz s5.heap) σ7z H7z s7 → N σ7z H7z → ∃ m, m < n ∧ s7.gens = G ∧ ∃ i σ' H', Inv X pinsz σ' H' s7 ∧ tn i s7.heap ∧ (∀ bz ∈ fpz, H' bz = none) ∧ W i m σ' H' := by
      intro σ7z H7z I7 n7z
      obtain ⟨m'z, hmz, w7z⟩ := hNz σ7z H7z n7z
      have pin : ∀ bz ∈ fpz, ∀ o, s5.heap.get? bz = some o → s7.heap.get? bz = some o ∧ H7z bz = none := fun bz hb o e =>
        have z := I7.pin (bz, o) (List.mem_append_right _ (List.mem_append_right _ (mem_pinsAt hb e)))
        ⟨z.1, z.2.1⟩
      refine ⟨m'z, hmz, g7, i + 1, σ7z, H7z, I7.unpinned, T.t.keep _ _ _ st5 fun bz hb o e => (pin bz hb o e).1, fun bz hb => ?_, w7z⟩
      obtain ⟨o, e, _⟩ := T.t.obj _ _ st5 bz hb
      exact (pin bz hb o e).2
    cases f with
    | next => obtain ⟨σ7z, H7z, I7, n7z⟩ := q7; exact next I7 n7z
    | cont => obtain ⟨σ7z, H7z, I7, n7z⟩ := q7; exact next I7 n7z
    | brk => exact g7
    | ret v => exact g7
end
end LdP
/-! # LdG3 -/
/-! list comprehensions, calls of own defs. -/
namespace LdP
open PySem PySem.Spec PyProof.Rows L2 Evl
section
variable {X : Cx} {G : Array GenState}
/-- the block of a comprehension: its loop is another's work -/
theorem block_g {elt tg iter : Expr} {rest : List Comprehension} {scope : Scope} {own : List (Str × Nat)} {pos pos' : Pos} {wi : TI} {use : Option (Value → Sem Unit)} {pins : List (Addr × Obj)} {s : Shared} {σ : L2.St} {H : Hp} {Rq : It → Addr → Hp → Prop}
    (hN : X.N.Nodup) (I : Inv X pins σ H s) (hs : s.gens = G) (hi : GI X G tg iter wi) (ok : BlkOk X.N X.env.scope scope own) (hf : ∀ x, foldedSetIterable iter X.env x = pure x)
    (h : wi σ H fun J H1 => ∀ D, H1 D = none → Rq J D (upd H1 D (.lst [])))
    (loop : ∀ (s3 : Shared) (H3 : Hp) (C : Addr) (cl : List (Str × Addr)) (fp : List Addr) (it D : Addr) (tn : Nat → Heap → Prop) (J : It) (s4 : Shared), TurnG X.prog X.w X.K G tg J fp it tn →
      (∀ b ∈ fp, H3 b = none) → Inv (X.blk s3 H3 scope (compEnvC scope cl C X.env) fp) [] (wipe σ (own.map (·.2))) H3 s4 → s4.gens = G → tn 0 s4.heap → Rq J D H3 →
      codeAny (model X.prog X.w) X.A (.compLoop (.ListComp elt (⟨tg, iter, [], 0⟩ :: rest) scope pos) 0 (.ref it) (.ref D) (compEnvC scope cl C X.env))
        (fun r s' => s'.gens = G ∧ (∃ f, r = .ok f) ∧ ∃ H5, Inv (X.blk s3 H3 scope (compEnvC scope cl C X.env) fp) [] (wipe σ (own.map (·.2))) H5 s') s4)
    (hu : ∀ u, use = some u → ∀ (D C : Addr) (s' : Shared) (H' : Hp) (m : Str → Option Value), Inv X pins σ H' s' → s'.gens = G → s'.heap.Ns C m → C ≠ X.env.locals → wpAny (model X.prog X.w) X.A (u (.ref D)) (fun _ s'' => s''.gens = G ∧ ∃ m, s''.heap.Ns C m) TT0 s') :
    wpAny (model X.prog X.w) X.A (comprehension (.ListComp elt (⟨tg, iter, [], 0⟩ :: rest) scope pos) scope X.env pos' (newList []) false (eval iter X.env) use) (fun _ s' => s'.gens = G) TT0 s := by
  have hfreez : ∀ yz ∈ scope.names, yz.2 = .free → ∃ c, X.env.cells.lookup yz.1 = some c := fun yz hyz ez => by
    rcases ok.free yz hyz ez with kz | kz
    · exact I.ok.has _ (.inl kz)
    · exact I.ok.has _ (.inr kz)
  refine wpAny_comprehension_free (use := use) rfl hf (closure_ok hfreez) ok.kind (fun yz hyz ez => by rw [ok.uniq yz hyz, ez])
    (wpAny_mono (hi.g pins s σ H _ I hs h) (fun xv s1 hx => wpAny_mono hx (fun itv s2z h2 => ?_) fun _ _ x => x) fun _ _ x => x)
  obtain ⟨g2, it, fp, tn, J, H2z, ez, I2z, T, st2, f2z, q⟩ := h2
  subst ez
  refine wpAny_newObj_type (newEnv_comp ?_) (by show 0 ≤ sizeLine; decide); generalize hDz : s2z.heap.objs.size = D
  have hDnz : H2z D = none := I2z.hok.fresh (Nat.le_of_eq hDz)
  generalize hs3z : ({ s2z with heap := s2z.heap.push { cls := .type "list", data := .seq ([] : List Value).toArray } } : Shared) = s3
  have g3 : s3.gens = G := by rw [← hs3z]; exact g2
  have h3z : s3.heap = s2z.heap.push { cls := .type "list", data := .seq ([] : List Value).toArray } := by rw [← hs3z]
  have I3z : Inv X pins σ (upd H2z D (.lst [])) s3 := by
    rw [← hs3z]
    refine I2z.laid (t' := s2z.toks) (fun b oz ez => Heap.get?_push_of_some _ ez) (Nat.le_of_eq hDz) ⟨Nat.zero_le _, [], 0, .nil, ?_⟩
    rw [← hDz]; exact Heap.get?_push_size _ rfl
  have fpk : ∀ b ∈ fp, FpOk X pins (upd H2z D (.lst [])) b ∧ b < s3.heap.objs.size := fun b hbz => by
    obtain ⟨oz, ez, _⟩ := T.t.obj _ _ st2 b hbz
    have hltz := Heap.lt_size ez
    refine ⟨⟨?_, (f2z b hbz).2⟩, by rw [h3z, Heap.size_push]; exact Nat.lt_succ_of_lt hltz⟩
    rw [upd_ne (by rw [← hDz]; exact Nat.ne_of_lt hltz)]
    exact (f2z b hbz).1
  have st3 : tn 0 s3.heap := T.t.keep _ _ _ st2 fun b _ oz ez => by rw [h3z]; exact Heap.get?_push_of_some _ ez
  have I4 := block_start I3z ok hN fpk
  have st4 := T.t.keep _ _ (pushCells (s3.heap.push { cls := .type "dict", data := .dict #[] }) scope.names) st3 fun b _ oz ez => pushCells_keeps _ _ _ _ (Heap.get?_push_of_some _ ez)
  have key := loop s3 _ _ _ fp it D tn J _ T (fun b hbz => (fpk b hbz).1.1) I4 g3 st4 (q D hDnz)
  have fin := codeAny_mono key (R' := compPost (model X.prog X.w) X.A TT0 use (fun _ s' => s'.gens = G) (.ref D) s3.heap.objs.size) fun r s6 ⟨g6, ⟨f, hr⟩, H5, I6⟩ => by
    subst hr
    obtain ⟨m, hn, _⟩ := I6.loc
    have hn : s6.heap.Ns s3.heap.objs.size m := hn
    have I7 : Inv X pins σ H5 s6 := I3z.call' (ch := fp) I6.os I6.base I6.hok I6.bare fun b hbz => ⟨(fpk b hbz).1.2.2.2.1, (fpk b hbz).1.2.1, (fpk b hbz).1.2.2.2.2.1, (fpk b hbz).1.2.2.2.2.2⟩
    cases use with
    | none => exact ⟨m, hn, fun h' _ => g6⟩
    | some u =>
      refine wpAny_mono (hu u rfl D s3.heap.objs.size s6 H5 m I7 g6 hn ?_) (fun _ s'' ⟨g7, m', hn'⟩ => ⟨m', hn', fun h' _ => g7⟩) fun _ _ x => x
      exact Nat.ne_of_gt I3z.lt
  exact codeAny_compStart_list fin (T.t.self X.A 0 _ _ _ st4 fin)
theorem app_g {pins : List (Addr × Obj)} {s : Shared} {σ : L2.St} {H : Hp} {D : Addr} {xs : List V} {y : V} {v : Value} (I : Inv X pins σ H s) (hs : s.gens = G) (hD : H D = some (.lst xs)) (hz : xs.length < sizeLine) (r : RelV y v) :
    wpAny (model X.prog X.w) X.A (call (.builtin "list.append") [.ref D, v]) (fun _ s' => s'.gens = G ∧ Inv X pins σ (upd H D (.lst (xs ++ [y]))) s') TT0 s := by
  refine wpAny_mono (both (E := TT0) (app_ok (Q := fun _ s' => Inv X pins σ (upd H D (.lst (xs ++ [y]))) s') I hD hz r fun _ z => z) (E' := TT0) (Q' := fun _ s' => s'.gens = G) ?_) (fun _ _ ⟨a, b⟩ => ⟨b, a⟩) fun _ _ z => z.2
  obtain ⟨hz'z, itsz, nz, riz, ez⟩ := I.hok D _ hD
  have hl := riz.length
  exact append_at (hsz := by rw [List.size_toArray]; omega) ez fun h' sb ho' => hs
theorem stat_g {s3 : Shared} {H3 : Hp} {scope : Scope} {ce : Env} {fp : List Addr} {σ' : L2.St} {H' : Hp} {s' : Shared} (I : Inv (X.blk s3 H3 scope ce fp) [] σ' H' s') (hn : ∀ b ∈ fp, H' b = none) : ∀ b ∈ fp, FpOk (X.blk s3 H3 scope ce fp) [] H' b := fun b hb =>
  ⟨hn b hb, (I.ok.exf b hb).1, I.ok.exfs b hb, .inl hb, fun x c e => (I.ok.exf b hb).2 x c e, fun p hp => by simp at hp⟩
theorem yes_went {σ : L2.St} {H : Hp} {F F' : Hp → Prop} (h : tYes σ H (fun b H' => if b = true then F H' else F' H')) : F H := by
  have h : (if true = true then F H else F' H) := h
  rwa [if_pos rfl] at h
def lcRq (g : TG) (te : TE) (vs : List Nat) (σ : L2.St) (Q : VK) : It → Addr → Hp → Prop := fun J Dz H1 => ∃ W : Nat → Nat → Hp → Prop, (∃ m, W 0 m H1) ∧ ∀ i m H, W i m H →
  (J.stop i H ∧ Q (.ref Dz) H) ∨ (J.go i H ∧ ∃ Nx : Hp → Prop, (∀ H', Nx H' → ∃ m', m' < m ∧ W (i + 1) m' H') ∧ ∀ x H', J.yld i H x H' → g x (wipe σ vs) H' fun σ2z H2 => wipe σ2z vs = wipe σ vs ∧ tYes σ2z H2 fun bz H3z =>
    if bz = true then te σ2z H3z fun yz H4z => ∃ acc, H4z Dz = some (.lst acc) ∧ acc.length < sizeLine ∧ Nx (upd H4z Dz (.lst (acc ++ [yz]))) else Nx H3z)
/-- [elt for tg in iter] -/
theorem g_lc {elt tg iter : Expr} {scope : Scope} {own : List (Str × Nat)} {pos : Pos} {wi : TI} {g : TG} {te : TE} (hc : X.calm = true) (hN : X.N.Nodup) (hi : GI X G tg iter wi) (ok : BlkOk X.N X.env.scope scope own)
    (hg : ∀ (s : Shared) (H : Hp) (C : Addr) (cl : List (Str × Addr)) (fp : List Addr), GG (X.blk s H scope (compEnvC scope cl C X.env) fp) G tg g)
    (he : ∀ (s : Shared) (H : Hp) (C : Addr) (cl : List (Str × Addr)) (fp : List Addr), GE (X.blk s H scope (compEnvC scope cl C X.env) fp) G elt te) (hf : ∀ x, foldedSetIterable iter X.env x = pure x := by intro _; rfl) :
    GE X G (.ListComp elt [⟨tg, iter, [], 0⟩] scope pos) (tLc wi g tYes te (own.map (·.2))) := by
  refine ⟨pe_lc hc hN hi.p ok (fun s H C cl fp => (hg s H C cl fp).p) (fun _ _ _ _ _ => pts_nil) (fun s H C cl fp => (he s H C cl fp).p) hf, fun pins s σz H Q I hs h => ?_⟩
  rw [eval_ListComp]
  refine block_g (rest := []) (Rq := lcRq g te (List.map (fun x : Str × Nat => x.2) own) σz Q) hN I hs hi ok hf h (fun s3 H3 C cl fp it D tn J s4 T nfp I4 g4 st4 hq => ?_) fun u e => nomatch e
  obtain ⟨W, ⟨m0, w0⟩, turn⟩ := hq
  have gg := hg s3 H3 C cl fp
  have ge := he s3 H3 C cl fp
  generalize compEnvC scope cl C X.env = ce at I4 gg ge ⊢
  refine compLoop_any (fun n s' => s'.gens = G ∧ ∃ i H', Inv (X.blk s3 H3 scope ce fp) [] (wipe σz (own.map (·.2))) H' s' ∧ tn i s'.heap ∧ (∀ b ∈ fp, H' b = none) ∧ W i n H') ?_ m0 ⟨g4, 0, H3, I4, st4, nfp, w0⟩
  rintro n s5 ⟨g5, i, H5, I5, st5, n5, w5⟩
  rcases turn i n H5 w5 with ⟨stop, _⟩ | ⟨go, Nx, hNx, step⟩
  · refine thnF (T.done (X := X.blk s3 H3 scope ce fp) hc I5 g5 (stat_g I5 n5) st5 stop) fun r s6 ⟨g6, hr, I6⟩ => ?_
    subst hr
    exact ⟨g6, ⟨_, rfl⟩, H5, I6⟩
  · refine thnF (T.item (X := X.blk s3 H3 scope ce fp) hc I5 g5 (stat_g I5 n5) st5 go) fun r s6 ⟨u, hr, h6⟩ => ?_
    subst hr
    refine thnF h6 fun _ s7 ⟨g7, x, H7, I7, r7, y7, st7, n7⟩ => ?_
    have I7' := I7.pinned (stat_g I7 n7) (T.t.obj _ _ st7)
    refine gg.go I7' g7 r7 (step x H7 y7) fun s8 σ8z H8 I8 g8 ⟨hw8z, q8⟩ => ?_
    refine wpAny_tests_nil ?_
    rw [if_pos rfl]
    have q8 := yes_went q8
    refine ge.go I8 g8 q8 fun z s9 yv H9 I9 g9 r9 ⟨acc, hD9, hz9, nx⟩ => ?_
    refine thnF (app_g (X := X.blk s3 H3 scope ce fp) I9 g9 hD9 hz9 r9) fun _ s10 ⟨g10, I10⟩ => ?_
    obtain ⟨m', hm, w'⟩ := hNx _ nx
    have pin' : ∀ b ∈ fp, ∀ o, s7.heap.get? b = some o → s10.heap.get? b = some o ∧ upd H9 D (.lst (acc ++ [yv])) b = none := fun b hb o e =>
      have z := I10.pin (b, o) (List.mem_append_right _ (List.mem_append_right _ (mem_pinsAt hb e)))
      ⟨z.1, z.2.1⟩
    have hlz : (wipe σz (own.map (·.2))).length = σ8z.length := by rw [← hw8z, wipe_length]
    refine ⟨m', hm, g10, i + 1, _, (I10.unpinned (pins := [])).weak hlz (fun j v e => ?_), T.t.keep _ _ _ st7 fun b hb o e => (pin' b hb o e).1, fun b hb => ?_, w'⟩
    · rw [← hw8z] at e
      exact (wipe_some e).1
    · obtain ⟨o, e, _⟩ := T.t.obj _ _ st7 b hb
      exact (pin' b hb o e).2
end
end LdP
/-! # LdG4 -/
/-! a list comprehension with two clauses, put at a name on its line; calls of own defs. -/
namespace LdP
open PySem PySem.Spec PyProof.Rows L2 Evl
section
variable {X : Cx} {G : Array GenState}
def lc2Rq (g : TG) (wi1 : TI) (g1 : TG) (te : TE) (vs vs1 : List Nat) (σ : L2.St) (Q : VK) : It → Addr → Hp → Prop := fun J Dz H1 => ∃ W : Nat → Nat → Hp → Prop, (∃ m, W 0 m H1) ∧ ∀ i m H, W i m H →
  (J.stop i H ∧ Q (.ref Dz) H) ∨ (J.go i H ∧ ∃ Nx : Hp → Prop, (∀ H', Nx H' → ∃ m', m' < m ∧ W (i + 1) m' H') ∧ ∀ x H', J.yld i H x H' → g x (wipe σ vs) H' fun σ2z H2 => wipe σ2z vs = wipe σ vs ∧ tYes σ2z H2 fun bz H3z =>
    if bz = true then wi1 σ2z H3z fun J1z H4z => ∃ W1 : Nat → Nat → Hp → Prop, (∃ m, W1 0 m H4z) ∧ ∀ j k H, W1 j k H →
      (J1z.stop j H ∧ Nx H) ∨ (J1z.go j H ∧ ∃ Nx1 : Hp → Prop, (∀ H', Nx1 H' → ∃ k', k' < k ∧ W1 (j + 1) k' H') ∧ ∀ x H', J1z.yld j H x H' → g1 x (wipe σ2z vs1) H' fun σ3z H5 => wipe σ3z vs1 = wipe σ2z vs1 ∧ tYes σ3z H5 fun bz H6z =>
        if bz = true then te σ3z H6z fun yz H7z => ∃ acc, H7z Dz = some (.lst acc) ∧ acc.length < sizeLine ∧ Nx1 (upd H7z Dz (.lst (acc ++ [yz]))) else Nx1 H6z)
    else Nx H3z)
theorem gs_setLc2 {i : Nat} {y : Str} {py : Pos} {elt tg iter tg1 iter1 : Expr} {scope : Scope} {own : List (Str × Nat)} {vs1 : List Nat} {pos spos : Pos} {wi wi1 : TI} {g g1 : TG} {te : TE} (hc : X.calm = true) (hN : X.N.Nodup) (hy : X.N[i]? = some y) (hyl : X.env.scope.names.lookup y = some .local)
    (hsw : swapsWith (.ListComp elt [⟨tg, iter, [], 0⟩, ⟨tg1, iter1, [], 0⟩] scope pos) (some (.Name y py)) spos.line X.env = pure true) (hi : GI X G tg iter wi) (ok : BlkOk X.N X.env.scope scope own) (hv : ∀ i ∈ vs1, i ∈ own.map (·.2))
    (hg : ∀ (s : Shared) (H : Hp) (C : Addr) (cl : List (Str × Addr)) (fp : List Addr), GG (X.blk s H scope (compEnvC scope cl C X.env) fp) G tg g)
    (hi1 : ∀ (s : Shared) (H : Hp) (C : Addr) (cl : List (Str × Addr)) (fp : List Addr), GI (X.blk s H scope (compEnvC scope cl C X.env) fp) G tg1 iter1 wi1)
    (hg1 : ∀ (s : Shared) (H : Hp) (C : Addr) (cl : List (Str × Addr)) (fp : List Addr), GG (X.blk s H scope (compEnvC scope cl C X.env) fp) G tg1 g1)
    (he : ∀ (s : Shared) (H : Hp) (C : Addr) (cl : List (Str × Addr)) (fp : List Addr), GE (X.blk s H scope (compEnvC scope cl C X.env) fp) G elt te) (hf : ∀ x, foldedSetIterable iter X.env x = pure x := by intro _; rfl) (hf1 : ∀ env x, foldedSetIterable iter1 env x = pure x := by intro _ _; rfl) :
    GSt X G (.Assign [.Name y py] (.ListComp elt [⟨tg, iter, [], 0⟩, ⟨tg1, iter1, [], 0⟩] scope pos) spos) (tAsg (tLc2 wi g tYes wi1 g1 tYes te (own.map (·.2)) vs1) (gName i)) := by
  refine ⟨ps_setLc2 hc hN hy hyl hsw hi.p ok hv (fun s H C cl fp => (hg s H C cl fp).p) (fun _ _ _ _ _ => pts_nil) (fun s H C cl fp => (hi1 s H C cl fp).p) (fun s H C cl fp => (hg1 s H C cl fp).p) (fun _ _ _ _ _ => pts_nil) (fun s H C cl fp => (he s H C cl fp).p) hf hf1, fun pins s σ H D I hs h => ?_⟩
  rw [exec_Assign_Name_used _ _ _ _ hsw]; refine wpAny_bind (wpAny_standAt (wpAny_bind ?_))
  show wpAny _ X.A (do let _ ← comprehension (.ListComp elt [⟨tg, iter, [], 0⟩, ⟨tg1, iter1, [], 0⟩] scope pos) scope X.env (firstIterPos [⟨tg, iter, [], 0⟩, ⟨tg1, iter1, [], 0⟩] pos) (newList []) false (eval iter X.env) (some (assign (.Name y py) X.env))) _ _ s
  have h : tLc2 wi g tYes wi1 g1 tYes te (own.map (·.2)) vs1 σ H (fun x H1 => gName i x σ H1 D.nx) := h
  refine wpAny_bind (wpAny_mono (block_g (rest := [⟨tg1, iter1, [], 0⟩]) (Rq := lc2Rq g wi1 g1 te (List.map (fun x : Str × Nat => x.2) own) vs1 σ (fun x H1 => gName i x σ H1 D.nx)) hN I hs hi ok hf h (fun s3z H3z C cl fp it D0 tn J s4 T nfp I4 g4 st4 hq => ?_) fun u eu D0 C s' H'z m I' g' hnz hC => ?_) (fun _ s' hq => wpAny_pure (wpAny_pure hq)) fun _ _ x => x)
  · obtain ⟨W, ⟨m0, w0⟩, turn⟩ := hq
    have gg := hg s3z H3z C cl fp
    have gg1 := hg1 s3z H3z C cl fp
    have gi1 := hi1 s3z H3z C cl fp
    have ge := he s3z H3z C cl fp
    generalize compEnvC scope cl C X.env = ce at I4 gg gg1 gi1 ge ⊢
    refine compLoop2_out (hf1 ce) (fun n s' => s'.gens = G ∧ ∃ i H'z, Inv (X.blk s3z H3z scope ce fp) [] (wipe σ (own.map (·.2))) H'z s' ∧ tn i s'.heap ∧ (∀ bz ∈ fp, H'z bz = none) ∧ W i n H'z) ?_ m0 ⟨g4, 0, H3z, I4, st4, nfp, w0⟩
    rintro n s5 ⟨g5, i, H5, I5, st5, n5, w5⟩
    rcases turn i n H5 w5 with ⟨stop, _⟩ | ⟨go, Nx, hNx, step⟩
    · refine thnF (T.done (X := X.blk s3z H3z scope ce fp) hc I5 g5 (stat_g I5 n5) st5 stop) fun r s6 ⟨g6, hr, I6⟩ => ?_
      subst hr
      exact ⟨g6, ⟨_, rfl⟩, H5, I6⟩
    · refine thnF (T.item (X := X.blk s3z H3z scope ce fp) hc I5 g5 (stat_g I5 n5) st5 go) fun r s6 ⟨u, hr, h6⟩ => ?_
      subst hr
      refine thnF h6 fun _ s7z ⟨g7, x, H7, I7, r7, y7, st7, n7⟩ => ?_
      have I7' := I7.pinned (stat_g I7 n7) (T.t.obj _ _ st7)
      refine gg.go I7' g7 r7 (step x H7 y7) fun s8 σ8 H8 I8 g8 ⟨hw8, q8⟩ => ?_
      refine wpAny_tests_nil ?_
      rw [if_pos rfl]
      refine wpAny_mono (gi1.g _ s8 σ8 H8 _ I8 g8 (yes_went q8)) (fun xv s10 hx => wpAny_mono hx (fun itv s11z h11 => ?_) fun _ _ zz => zz.elim) fun _ _ zz => zz.elim
      obtain ⟨g11, it1, fp1z, tn1, J1, H11, e1z, I11, T1, st11, f11z, W1, ⟨m1, w1⟩, turn1z⟩ := h11
      subst e1z
      have stat1z : ∀ {H'z : Hp}, (∀ bz ∈ fp1z, H'z bz = none) → ∀ bz ∈ fp1z, FpOk (X.blk s3z H3z scope ce fp) ([] ++ pinsAt fp s7z.heap) H'z bz := fun hnz bz hbz => ⟨hnz bz hbz, (f11z bz hbz).2⟩
      have loop1 : codeAny (model X.prog X.w) X.A (.compLoop (.ListComp elt [⟨tg, iter, [], 0⟩, ⟨tg1, iter1, [], 0⟩] scope pos) 1 (.ref it1) (.ref D0) ce)
          (fun r s' => match r with
            | .ok _ => ∃ m, m < n ∧ s'.gens = G ∧ ∃ i H'z, Inv (X.blk s3z H3z scope ce fp) [] (wipe σ (own.map (·.2))) H'z s' ∧ tn i s'.heap ∧ (∀ bz ∈ fp, H'z bz = none) ∧ W i m H'z
            | .error _ => False) s11z := by
        refine compLoop2_in (fun kz s' => s'.gens = G ∧ ∃ jz H'z, Inv (X.blk s3z H3z scope ce fp) ([] ++ pinsAt fp s7z.heap) (wipe σ8 vs1) H'z s' ∧ tn1 jz s'.heap ∧ (∀ bz ∈ fp1z, H'z bz = none) ∧ W1 jz kz H'z) ?_ m1 ⟨g11, 0, H11, I11.weak (wipe_length _ _) (fun jz v ez => (wipe_some ez).1), st11, fun bz hbz => (f11z bz hbz).1, w1⟩
        rintro kz s12 ⟨g12, jz, H12, I12, st12, n12, w12⟩
        rcases turn1z jz kz H12 w12 with ⟨stop1z, nx1z⟩ | ⟨go1z, Nx1z, hNx1z, step1z⟩
        · refine thnF (T1.done (X := X.blk s3z H3z scope ce fp) hc I12 g12 (stat1z n12) st12 stop1z) fun r s13 ⟨g13, hr, I13⟩ => ?_
          subst hr
          obtain ⟨m', hm, w'⟩ := hNx _ nx1z
          have pin' : ∀ bz ∈ fp, ∀ o, s7z.heap.get? bz = some o → s13.heap.get? bz = some o ∧ H12 bz = none := fun bz hbz o ez =>
            have zz := I13.pin (bz, o) (List.mem_append_right _ (List.mem_append_right _ (mem_pinsAt hbz ez)))
            ⟨zz.1, zz.2.1⟩
          refine ⟨m', hm, g13, i + 1, _, (I13.unpinned (pins := [])).weak ?_ (fun jz v ez => ?_), T.t.keep _ _ _ st7 fun bz hbz o ez => (pin' bz hbz o ez).1, fun bz hbz => ?_, w'⟩
          · rw [← hw8, wipe_length, wipe_length]
          · rw [← hw8] at ez
            obtain ⟨e1z, e2z⟩ := wipe_some ez
            rw [wipe_out fun zz => e2z (hv jz zz)]
            exact e1z
          · obtain ⟨o, ez, _⟩ := T.t.obj _ _ st7 bz hbz
            exact (pin' bz hbz o ez).2
        · refine thnF (T1.item (X := X.blk s3z H3z scope ce fp) hc I12 g12 (stat1z n12) st12 go1z) fun r s13 ⟨u1, hr, h13⟩ => ?_
          subst hr
          refine thnF h13 fun _ s14 ⟨g14, x1, H14, I14, r14, y14, st14, n14⟩ => ?_
          have I14' := I14.pinned (stat1z n14) (T1.t.obj _ _ st14)
          refine gg1.go I14' g14 r14 (step1z x1 H14 y14) fun s15 σ15 H15 I15 g15 ⟨hw15, q15⟩ => ?_
          refine wpAny_tests_nil ?_
          rw [if_pos rfl]
          refine ge.go I15 g15 (yes_went q15) fun zz s17 yv H17 I17 g17 r17 ⟨acc, hD17, hz17, nx⟩ => ?_
          refine thnF (app_g (X := X.blk s3z H3z scope ce fp) I17 g17 hD17 hz17 r17) fun _ s18 ⟨g18, I18⟩ => ?_
          obtain ⟨m', hm, w'⟩ := hNx1z _ nx
          have pin' : ∀ bz ∈ fp1z, ∀ o, s14.heap.get? bz = some o → s18.heap.get? bz = some o ∧ upd H17 D0 (.lst (acc ++ [yv])) bz = none := fun bz hbz o ez =>
            have zz := I18.pin (bz, o) (List.mem_append_right _ (List.mem_append_right _ (mem_pinsAt hbz ez)))
            ⟨zz.1, zz.2.1⟩
          refine ⟨m', hm, g18, jz + 1, _, I18.unpinned.weak (by rw [← hw15, wipe_length]) (fun jz v ez => by rw [← hw15] at ez; exact (wipe_some ez).1), T1.t.keep _ _ _ st14 fun bz hbz o ez => (pin' bz hbz o ez).1, fun bz hbz => ?_, w'⟩
          obtain ⟨o, ez, _⟩ := T1.t.obj _ _ st14 bz hbz
          exact (pin' bz hbz o ez).2
      exact compStart1_ok loop1 (T1.t.self X.A 0 _ _ _ st11 loop1)
  · cases eu
    show wpAny _ _ (assign (.Name y py) X.env (.ref D0)) _ _ _
    obtain ⟨m2, hn2, _⟩ := id I'.loc
    exact wpAny_assign_Name (wpAny_storeName_local hyl hn2 (fun h' hn' sb => ⟨g', m, hnz.sameBut sb hC⟩) (by rw [I'.ok.kind]; rfl))
/-! ### calls of own defs -/
/-- an own def's promise, and that it leaves the generators' table as it is -/
structure OkG (P : Program) (w : World) (K : PySem.W.Frag) (mg : Str → Option Value) (base : Heap) (k : Nat) (f : Addr) (ps : List Str) (sp : Sp) : Prop where
  ex : ∃ fd, FnOk P w K mg base CX0 k f fd ps sp ∧ Binds K fd ps [] ∧ ∀ (A : Around) (outer : List Env) (s : Shared) (H : Hp) (args : Args) (us : List Value) (vs : List V) (Q : VK) (E : XK), Room k A → Env0 P w K mg base A outer s H → BindsTo s fd args (ps.zip us) → Vals vs us → sp vs H Q E →
    codeAny (model P w) A (.call (.ref f) args) (fun r s' => s'.gens = s.gens) s
  kp : (PySem.W.keepIn K (.ref f)) = true
theorem OkG.ok {P : Program} {w : World} {K : PySem.W.Frag} {mg : Str → Option Value} {base : Heap} {k : Nat} {f : Addr} {ps : List Str} {sp : Sp} (F : OkG P w K mg base k f ps sp) : Ok P w K mg base k f ps sp := ⟨let ⟨fd, a, b, _⟩ := F.ex; ⟨fd, a, b⟩, F.kp⟩
theorem OkG.mono {P : Program} {w : World} {K : PySem.W.Frag} {mg : Str → Option Value} {base : Heap} {j k : Nat} {f : Addr} {ps : List Str} {sp : Sp} (F : OkG P w K mg base j f ps sp) (h : j ≤ k) : OkG P w K mg base k f ps sp :=
  ⟨let ⟨fd, a, b, c⟩ := F.ex; ⟨fd, a.mono h, b, fun A outer s H args us vs Q E hr => c A outer s H args us vs Q E (hr.mono h)⟩, F.kp⟩
theorem okG_of {P : Program} {w : World} {K : PySem.W.Frag} {mg : Str → Option Value} {base : Heap} {k : Nat} {f : Addr} {ps N : List Str} {sp : Sp} {x qual : Str} {params : Arguments} {body : List Stmt} {scope : Scope} {fd : FuncData} (F : FunD K x qual params body scope [] [] f fd) (S : FnScope N ps scope)
    (hb : ∀ (kV doc pm : Value) (an : Option Addr) (cdv ct : Value) (us : List Value), us.length = ps.length → bindArgs (PySem.W.fnOf x qual params body scope .none kV doc pm an cdv ct) ⟨us, []⟩ = pure (ps.zip us))
    (len : ∀ vs H Q E, sp vs H Q E → vs.length = ps.length) (run : ∀ (G : Array GenState) (cdv : Value) (A : Around) (outer : List Env) (s : Shared) (H : Hp) (vs : List V) (Q : VK) (E : XK), Room k (A.deeper (envOfC qual scope s.heap.objs.size f cdv)) → sp vs H Q E →
      ∃ t, GSt' (cx P w K mg base N qual scope f cdv A outer s H E) G body t ∧ t (wish Q) (start N vs) H) : OkG P w K mg base (k + 1) f ps sp := by
  obtain ⟨⟨fd', F1, F2⟩, F3⟩ := ok_of F S hb len fun cdv A outer s H vs Q E hr h => by
    obtain ⟨t, a, bz⟩ := run s.gens cdv A outer s H vs Q E hr h
    exact ⟨t, a.p, bz⟩
  refine ⟨⟨fd, F.ok S len fun cdv A outer s H vs Q E hr hsp => ?_, F.bindsN hb, ?_⟩, F.kp⟩
  · obtain ⟨t, h, qz⟩ := run s.gens cdv A outer s H vs Q E hr hsp
    exact ⟨t, h.p.nox, qz⟩
  · intro A outer s H args us vs Q E hr e0z hbt r hsp
    obtain ⟨ocz, odz, dVz, kV, doc, pm, an, cdv, ct, oslz, rfl, lkz, hcdz, _, _⟩ := F.ex
    have hl := len _ _ _ _ hsp
    have KXz : K.In s.heap := e0z.mod.kin.keeps fun bz oz ez => (e0z.bs bz oz ez).1
    have limz : s.heap.NoLimit := e0z.mod.nolimit.keeps fun bz oz ez => (e0z.bs bz oz ez).1
    refine codeAny_call_function hr.depth (KXz _ _ lkz) rfl S.co S.gen rfl (PySem.W.codeRec_of KXz hcdz) (hbt _ _ _ _ ?_)
    refine wpAny_newFunctionEnv_cells S.kind (fun ⟨n, v⟩ hy => ?_) fun env he s1 x => ?_
    · rcases S.par n (List.of_mem_zip hy).1 with qz | qz
      · exact .inl qz
      · exact .inr ⟨qz, PySem.W.cellsFrom_some _ _ _ (.inl qz)⟩
    subst he
    refine ⟨limz.keeps x.toInCall.keep, codeAny_func ?_⟩
    obtain ⟨t, ht, hq⟩ := run s.gens cdv A outer s H vs Q E (hr.deeper _) hsp
    have I := (inv_start (CX := CX0) (E := E) S hr.hd e0z hl r x).wish fun _ _ => False
    have g1 : s1.gens = s.gens := by
      obtain ⟨h1, tk, e1, _⟩ := x.done
      rw [e1]
    exact wpAny_mono (ht.g [] s1 (start N vs) H (wish Q) I g1 hq) (fun _ _ z => z) fun _ _ z => z.elim
variable {k : Nat} {f C : Addr} {ps : List Str} {sp : Sp} {x m : Str} {p pos apos : Pos} {e o : Expr} {es : List Expr} {ta : TE} {t : TA}
theorem run_g {pins : List (Addr × Obj)} {σ : L2.St} {H : Hp} {s : Shared} {Q : VK} {us : List Value} {vs : List V} (F : OkG X.prog X.w X.K X.mg X.base k f ps sp) (hr : Room k X.A) (I : Inv X pins σ H s) (hs : s.gens = G) (r : Vals vs us) (h : sp (vs ++ []) H Q E0) :
    Kp X G (call (.ref f) us) s := by
  obtain ⟨fd, F1, F2, F3⟩ := F.ex
  rw [List.append_nil] at h
  have hl : (us ++ []).length = ps.length := by rw [List.append_nil, ← r.length]; exact F1.len _ _ _ _ h
  have hb := F2 s us I.kIn hl
  rw [List.append_nil] at hb
  refine wpAny_call (codeAny_mono (bothC (F1.run X.A X.stack s H ⟨us, []⟩ us vs Q E0 hr I.env0 hb r h) (F3 X.A X.stack s H ⟨us, []⟩ us vs Q E0 hr I.env0 hb r h)) fun r s' ⟨q, g⟩ => ?_)
  cases r with
  | error e => exact pass0 (X := X.wish TT0) pins σ H s e s' (I.wish _) q
  | ok fl =>
    cases fl with
    | ret u => exact g.trans hs
    | next => exact q
    | brk => exact q
    | cont => exact q
theorem g_fn (F : OkG X.prog X.w X.K X.mg X.base k f ps sp) (hr : Room k X.A) (hm : X.mg x = some (.ref f)) (ha : GA X G (e :: es) t) (hg : Gl X x := by rfl) (hdb : (x == ("__debug__" : Str)) = false := by decide)
    (he : starEach (e :: es) X.env = (false, eval e X.env) :: starEach es X.env := by rfl) (hpl : (backTo pos (starEach es X.env)).any (·.1) = false := by rfl) : GE X G (.Call (.Name x p) (e :: es) [] pos) (tCall sp [] E0 t) :=
  ⟨pe_fn F.ok hr hm ha.p hg hdb he hpl, fun pins s σ H Q I hs h => wpAny_Call_Name_kw (ld_glob I hg hm (PySem.W.callWith_K (h₀ := X.base) I.ok.mod.kin F.kp (ha.go I hs h fun us s1 vs H1 I1 g1 r q => ⟨I1.kIn, run_g F hr I1 g1 r q⟩) he hpl) hdb)⟩
theorem g_md0 {pl : Sem Bool} (he : GE X G o ta) (c : Cls X.K C) (hm : Meth X.K C m f) (F : OkG X.prog X.w X.K X.mg X.base k f ps sp) (hr : Room k X.A)
    (ht : (eval (.Call (.Attribute o m apos) [] [] pos) X.env) = (do
      let ov ← eval o X.env
      standAt apos.atName
      let (f, first) ← (holding [ov] (getMethod ov m pl))
      callWith pos f first (backTo pos (starEach [] X.env)) (backToKw pos (keywordEach [] X.env))) := by rfl) : GE X G (.Call (.Attribute o m apos) [] [] pos) (tMeth C m sp [] E0 ta tNil) := by
  refine ⟨pe_md0 he.p c hm F.ok hr ht, fun pins s σ H Q I hs h => PySem.W.methodCall_KW (pl := pl) (he.go I hs h fun uz s1 x H1 I1z g1 rxz ⟨az, dx, fs, ex, eaz, lz, q⟩ => ?_) ht⟩
  subst ex
  obtain rfl : uz = Value.ref az := rxz
  refine getmeth_ok I1z eaz c hm lz ?_
  exact PySem.W.callWith_K0 (first := [.ref az]) I1z.kIn hm.kp (run_g (us := [.ref az]) (vs := [.ref az]) F hr I1z g1 (.cons rfl .nil) q)
end
end LdP
/-! # LdG5 -/
/-! The defs that a generator runs: their promises, the generators' table among them. -/
namespace LdP
open PySem PySem.Spec PyProof.Rows L2 Evl
section
variable {base : Heap} {mg : Str → Option Value} {K : PySem.W.Frag} {w : World} {P : Program}
theorem okg_isinteger (t : Tx K mg) : OkG P w K mg base 1 (He.ga K "is_integer") p_isinteger spIsInt := by
  obtain ⟨fd, F⟩ := t.def_isinteger
  refine okG_of F sc_isinteger (fun _ _ _ _ _ _ us hl => match us, hl with | [_], _ => rfl) (fun vs H Q E h => ?_) (fun G cdv A outer s H vs Q E hr h => ?_)
  · obtain ⟨i, rfl, _⟩ := h
    rfl
  · obtain ⟨i, rfl, q⟩ := h
    refine ⟨_, gss_one (gs_ret (g_and (g_callB call_isi cg_isi (by rfl) t.f_isinstance boot_isi (ga_cons (gv 0) (ga_cons (g_bltn (v := .ty "int") (by rfl) t.f_int boot_int' rfl) ga_nil)))
      (g_one (g_not (g_callB call_isi cg_isi (by rfl) t.f_isinstance boot_isi (ga_cons (gv 0) (ga_cons (g_bltn (v := .ty "bool") (by rfl) t.f_bool boot_bool' rfl) ga_nil))))))), ?_⟩
    refine ⟨_, rfl, _, _, _, _, true, rfl, .ty _, .base (.int _), kit_ty (by decide +kernel), true, rfl, ?_⟩
    refine iteT ⟨_, rfl, _, _, _, _, false, rfl, .ty _, .base (.int _), kit_ty (by decide +kernel), false, rfl, ?_⟩
    exact q
theorem okg_Camoments (t : Tx K mg) : OkG P w K mg base 1 (He.ma K (He.ga K "Calendar") "moments") p_Camoments (spMoments K) := by
  obtain ⟨fd, F⟩ := t.def_Camoments
  refine okG_of F sc_Camoments (fun _ _ _ _ _ _ us hl => match us, hl with | [_], _ => rfl) (fun vs H Q E h => ?_) (fun G cdv A outer s H vs Q E hr h => ?_)
  · obtain ⟨a, sl, cs, rfl, _⟩ := h
    rfl
  · obtain ⟨a, sl, cs, rfl, ⟨dx, m, c, ha, hm, hc⟩, q⟩ := h
    refine ⟨_, gss_one (gs_ret (g_callTy call_list_of cg_list_of (by rfl) t.f_list boot_list' (ga_cons (g_fld (gv 0) rfl) ga_nil))), ?_⟩
    exact s_retL (el_list1 (ev_fld (ev_var rfl) ha t.c_Calendar t.a_Calendar_ownmoments (caF_m _ _)) hm) q
theorem okg_daylists (t : Tx K mg) : OkG P w K mg base 1 (He.ga K "day_lists") p_daylists spDayL := by
  obtain ⟨fd, F⟩ := t.def_daylists
  refine okG_of F sc_daylists (fun _ _ _ _ _ _ us hl => match us, hl with | [_, _, _], _ => rfl) (fun vs H Q E h => ?_) (fun G cdv A outer s H vs Q E hr h => ?_)
  · obtain ⟨n, e, l, rfl, _⟩ := h
    rfl
  · obtain ⟨n, e, l, rfl, hn, ⟨b1, b2, b3, b4⟩, hsz, q⟩ := h
    refine ⟨_, gss_cons' (gs_set (i := 3) sc_daylists.nd rfl (Or.inl rfl) (g_lst (ga_cons (g_lst ga_nil) ga_nil)))
      (gss_cons' (gs_for PassesOwn.never rfl (gi_range1 (by rfl) t.f_range (ga_cons (gv 0) ga_nil)) (gg_name (i := 4) sc_daylists.nd rfl (Or.inl rfl))
        (gss_one (gs_setLc2 (i := 3) (own := [("days", 5), ("day", 6)]) (vs1 := [6]) (g := gName 5) (g1 := gName 6) (wi1 := iRng2 (tCons (tVar 1) (tCons (tOp (rI0 fun i j => .int (i + j)) (tVar 2) (tC (.int 1))) tNil))) (te := tOp rCat (tVar 5) (tLst (tCons (tVar 6) tNil)))
          rfl sc_daylists.nd rfl rfl (by rfl) (gi_list (gv 3)) (blkOk_by (own := [("days", 5), ("day", 6)]) (N := n_daylists) (sc := defScope s_daylists) (by decide +kernel)) (by decide)
          (fun _ _ _ _ _ => gg_name (i := 5) sc_daylists.nd rfl (Or.inl rfl))
          (fun _ _ _ _ _ => gi_range2 (by rfl) t.f_range (ga_cons (gv 1) (ga_cons (g_op op_add og_add (gv 2) g_int) ga_nil)))
          (fun _ _ _ _ _ => gg_name (i := 6) sc_daylists.nd rfl (Or.inl rfl)) (fun _ _ _ _ _ => g_op op_cat og_cat (gv 5) (g_lst (ga_cons (gv 6) ga_nil))))))
      (gss_one (gs_ret (gv 3)))), ?_⟩
    -- found = [[]]
    refine q_asgN (R := fun p H1 => ListO obI H1 p [[]]) ((en_lst (R := fun vs H1 => ∃ x : Addr, vs = [.ref x] ∧ H1 x = some (obI [])) (ear_consN (en_L (el_lst ea_nil (Nat.zero_le _))) fun x H1 e1 hx => ear_nil fun H2 e2 => ⟨x, rfl, e2 _ _ hx⟩)
      (fun vs H1 H2 e ⟨x, h1, h2⟩ => ⟨x, h1, e _ _ h2⟩) (fun vs H1 ⟨x, h1, _⟩ => by rw [h1]; show 1 ≤ 100000; decide)).imp fun p H1 e1 ⟨vs, h1, x, h2, h3⟩ => ⟨[x], by rw [h1, h2]; rfl, .cons h3 .nil⟩) (fun p0 H1 hp0 e1 h1 => ?_)
    refine q_forR1 (ea_cons (ev_var rfl) ea_nil) (by omega) (fun i σ' H' => Ex H H' ∧ ∃ (p : Addr) (x : Option V), σ' = [some (.int (n : Nat)), some (.int e), some (.int l), some (.ref p), x, none, none] ∧ H p = none ∧ ListO obI H' p (Ld.dayLs e l i)) (fun H2 e2 => ⟨e1.trans e2, p0, none, rfl, hp0, h1.ex e2⟩) ?_ ?_
    · rintro i σ' H' hi ⟨e2, p, x, rfl, hp, as, ha, hA⟩
      have hin : i + 1 ≤ n := by omega
      have hlen : (Ld.dayLs e l i).length = (l + 1 - e).toNat ^ i := by
        have := Ld.allD_len e l i (List.replicate i day) (List.length_replicate ..)
        rw [Ld.allD_zip e l i _ (List.length_replicate ..), List.length_map] at this
        exact this
      have hsz1 := hsz (i + 1) hin
      rw [Nat.pow_succ] at hsz1
      have hal : as.length = (Ld.dayLs e l i).length := Paired.length hA
      -- found = [days + [day] for days in found for day in range(first, last + 1)]
      refine ⟨_, rfl, p, rfl, ⟨_, sq_of ha⟩, fun D hD => ?_⟩
      refine ⟨fun j m H3 => m + j = as.length ∧ AtO obI H' D (((Ld.dayLs e l i).take j).flatMap fun near => (Ld.rng e l).map fun d => near ++ [d]) H3, ⟨as.length, by omega, by rw [List.take_zero]; exact atO_zero hD⟩, ?_⟩
      rintro j m H3 ⟨hm, aO⟩
      have ha3 := aO.s _ _ ha
      by_cases hj : j < as.length
      · have hja : (as.map V.ref)[j]? = some (.ref as[j]) := by rw [List.getElem?_map, List.getElem?_eq_getElem hj]; rfl
        obtain ⟨li, hli, hal2⟩ := paired_get hA (List.getElem?_eq_getElem hj)
        refine .inr ⟨⟨_, _, sq_of ha3, hja⟩, fun H4 => AtO obI H' D (((Ld.dayLs e l i).take (j + 1)).flatMap fun near => (Ld.rng e l).map fun d => near ++ [d]) H4, fun H4 h4 => ⟨as.length - (j + 1), by omega, by omega, h4⟩, fun x H4 hy => ?_⟩
        obtain ⟨rfl, hx⟩ := hy
        have ex : x = .ref as[j] := by
          have := hx _ (sq_of ha3)
          rw [hja] at this; exact (Option.some.inj this).symm
        subst ex
        refine ⟨rfl, yes_go ?_⟩
        refine ⟨_, rfl, _, rfl, _, _, rfl, rfl, e, l + 1, rfl, ⟨by omega, by omega, by omega, by omega⟩, ?_⟩
        have hrl : (Ld.rng e l).length = (l + 1 - e).toNat := Ld.rng_len e l
        have hpre : (((Ld.dayLs e l i).take j).flatMap fun near => (Ld.rng e l).map fun d => near ++ [d]).length = j * (l + 1 - e).toNat := by
          rw [Ld.flatMap_const_len (m := (l + 1 - e).toNat) fun x _ => by rw [List.length_map, hrl], List.length_take]
          congr 1
          omega
        refine ⟨fun k m H5 => m + k = (l + 1 - e).toNat ∧ AtO obI H' D ((((Ld.dayLs e l i).take j).flatMap fun near => (Ld.rng e l).map fun d => near ++ [d]) ++ ((Ld.rng e l).take k).map fun d => li ++ [d]) H5, ⟨(l + 1 - e).toNat, by omega, by rw [List.take_zero, List.map_nil, List.append_nil]; exact aO⟩, ?_⟩
        rintro k m2 H5 ⟨hm2, aO5⟩
        by_cases hk : k < (l + 1 - e).toNat
        · refine .inr ⟨hk, fun H6 => AtO obI H' D ((((Ld.dayLs e l i).take j).flatMap fun near => (Ld.rng e l).map fun d => near ++ [d]) ++ ((Ld.rng e l).take (k + 1)).map fun d => li ++ [d]) H6, fun H6 h6 => ⟨(l + 1 - e).toNat - (k + 1), by omega, by omega, h6⟩, fun x H6 hy => ?_⟩
          obtain ⟨rfl, rfl⟩ := hy
          refine ⟨rfl, yes_go ?_⟩
          have hl5 : H6 as[j] = some (obI li) := aO5.s _ _ hal2
          have hll : li.length = i := Ld.dayLs_len_mem i li (List.mem_of_getElem? hli)
          refine el_cat (σ := [some (.int (n : Nat)), some (.int e), some (.int l), some (.ref p), _, some (.ref as[j]), some (.int (e + (k : Nat)))]) (xs := li.map V.int) (ys := [.int (e + (k : Nat))]) (ev_var rfl) hl5 (el_lst (ea_cons (ev_var rfl) ea_nil) (by show 1 ≤ 100000; decide)) (by rw [List.length_map, hll]; show i + 1 ≤ 100000; omega) H6 (Ex.refl H6) _ fun r H7 hr e7 h7 => ?_
          have hrD : r ≠ D := fun eq => by
            obtain ⟨_, hDD, _⟩ := aO5.d
            rw [eq, hDD] at hr
            cases hr
          have key := atO_next (b := li ++ [e + (k : Nat)]) hD aO5 e7 (by rw [h7]; unfold obI; rw [List.map_append]; rfl) hrD (by
            rw [List.length_append, hpre, List.length_map, List.length_take, hrl]
            have h1 : j * (l + 1 - e).toNat ≤ as.length * (l + 1 - e).toNat := Nat.mul_le_mul_right _ (by omega)
            rw [hal, hlen] at h1
            have h2 : min k (l + 1 - e).toNat ≤ (l + 1 - e).toNat ^ i * (l + 1 - e).toNat + k := by omega
            have h3 : k < 50000 := by
              have := hsz 1 (by omega)
              rw [Nat.pow_one] at this
              omega
            omega)
          have etk : ((Ld.rng e l).take (k + 1)).map (fun d => li ++ [d]) = ((Ld.rng e l).take k).map (fun d => li ++ [d]) ++ [li ++ [e + (k : Nat)]] := by
            rw [List.take_add_one, rng_get hk, List.map_append]
            rfl
          rw [List.append_assoc, ← etk] at key
          exact key
        · refine .inl ⟨by show (l + 1 - e).toNat ≤ k; omega, ?_⟩
          have hkk : (Ld.rng e l).take k = Ld.rng e l := List.take_of_length_le (by rw [hrl]; omega)
          rw [hkk] at aO5
          rw [take_flat _ _ j li hli]
          exact aO5
      · refine .inl ⟨⟨_, sq_of ha3, by rw [List.length_map]; omega⟩, ?_⟩
        have hjj : (Ld.dayLs e l i).take j = Ld.dayLs e l i := List.take_of_length_le (by omega)
        rw [hjj] at aO
        exact ⟨e2.trans aO.s, D, _, rfl, fresh_back e2 hD, aO.list⟩
    · rintro σ' H' ⟨e2, p, x, rfl, hp, hL⟩
      refine s_ret (ev_var rfl) fun H2 e3 => q p H2 hp (e2.trans e3) ?_
      have en : (((n : Nat) : Int)).toNat = n := by omega
      rw [en] at hL
      exact hL.ex e3
theorem okg_CaHas (t : Tx K mg) : OkG P w K mg base 2 (He.ma K (He.ga K "Calendar") "__contains__") p_CaHas (spHas K) := by
  have G1 := okg_isinteger (P := P) (w := w) (base := base) t
  obtain ⟨fd, F⟩ := t.def_CaHas
  refine okG_of F sc_CaHas (fun _ _ _ _ _ _ us hl => match us, hl with | [_, _], _ => rfl) (fun vs H Q E h => ?_) (fun G cdv A outer s H vs Q E hr h => ?_)
  · obtain ⟨a, d, sl, cs, dt, rfl, _⟩ := h
    rfl
  · obtain ⟨a, d, sl, cs, dt, rfl, hc, hw, hd, hk, q⟩ := h
    obtain ⟨u, hZ⟩ := t.zero
    have hu := hu_of hr
    refine ⟨_, gss_cons' (gs_if (GW.gt (gw_or (gt_not (gt_val (g_callB call_isi cg_isi (by rfl) t.f_isinstance boot_isi (ga_cons (gv 1) (ga_cons (g_bltn (v := .ty "dict") (by rfl) t.f_dict boot_dict' rfl) ga_nil)))))
        (gw_or1 (gt_cmpR op_ne og_ne (g_callB call_lenD cg_lenD (by rfl) t.f_len boot_len' (ga_cons (gv 1) ga_nil)) (g_callB call_len_seq cg_len (by rfl) t.f_len boot_len' (ga_cons (g_fld (gv 0) rfl) ga_nil)) (nomark _))))) (gss_one (gs_ret g_bl)) gss_nil')
      (gss_cons' (gs_if (gt_not (gt_val (g_callB (cr_all rfl) (cg_all rfl) (by rfl) t.f_all boot_all' (ga_cons (g_lc (own := [("moment", 3)]) (g := gName 3) (te := tAndV (tDIn (tVar 3) (tVar 1)) (tCall spIsInt [] E0 (tCons (tDGet (tVar 1) (tVar 3)) tNil))) rfl sc_CaHas.nd (gi_list (g_fld (gv 0) rfl)) (blkOk_by (own := [("moment", 3)]) (N := n_CaHas) (sc := defScope s_CaHas) (by decide +kernel))
          (fun _ _ _ _ _ => gg_name (i := 3) sc_CaHas.nd rfl (Or.inl rfl)) (fun _ _ _ _ _ => g_and (g_din (by exact hu) (gv 3) (gv 1) rfl) (g_one (g_fn G1 (by exact hr) (by exact t.g_isinteger) (ga_cons (g_dget (by exact hu) (gv 1) (gv 3) (fun _ _ => rfl)) ga_nil))))) ga_nil)))) (gss_one (gs_ret g_bl)) gss_nil')
      (gss_cons' (gs_set (i := 2) sc_CaHas.nd rfl (Or.inr rfl) (g_callTy call_dictD cg_dictD (by rfl) t.f_dict boot_dict' (ga_cons (gv 1) ga_nil)))
      (gss_cons' (gs_dput hu (gv 2) (g_con (gv 0) rfl) g_int rfl)
      (gss_one (gs_ret (g_callB (cr_all rfl) (cg_all rfl) (by rfl) t.f_all boot_all' (ga_cons (g_lc (own := [("one", 4), ("other", 5), ("number", 6)]) (g := gTup K 3 (gCons (gName 4) (gCons (gName 5) (gCons (gName 6) gNil)))) 
          (te := tOp (rI0 fun i j => .bl (decide (i ≤ j))) (tDGet (tVar 2) (tVar 4)) (tOp (rI0 fun i j => .int (i + j)) (tDGet (tVar 2) (tVar 5)) (tVar 6))) rfl sc_CaHas.nd (gi_list (g_fld (gv 0) rfl)) (blkOk_by (own := [("one", 4), ("other", 5), ("number", 6)]) (N := n_CaHas) (sc := defScope s_CaHas) (by decide +kernel))
          (fun _ _ _ _ _ => gg_tup rfl (ggs_cons (gg_name (i := 4) sc_CaHas.nd rfl (Or.inl rfl)) (ggs_cons (gg_name (i := 5) sc_CaHas.nd rfl (Or.inl rfl)) (ggs_cons (gg_name (i := 6) sc_CaHas.nd rfl (Or.inl rfl)) ggs_nil))))
          (fun _ _ _ _ _ => g_cmpR op_le og_le (g_dget (by exact hu) (gv 2) (gv 4) (fun _ _ => rfl)) (g_op op_add og_add (g_dget (by exact hu) (gv 2) (gv 5) (fun _ _ => rfl)) (gv 6)) (nomark _))) ga_nil))))))), ?_⟩
    obtain ⟨dx, m, c, ha, hM, ts, hC1, hC2⟩ := id hc
    have hday : day ∉ sl := fun h => by
      have := hw.nd
      rw [List.nodup_append] at this
      exact this.2.2 _ h _ (List.mem_singleton.mpr rfl) rfl
    have hl8 := hw.len
    have hlen : (kvD dt).length = sl.length := by
      rw [← hk, List.length_map]
      exact List.length_map _
    -- the first test
    refine q_when (b := false) (et_is (et_or (et_not (et_B (ev_isiD (b := true) (ev_var rfl) hd (by decide +kernel)))) fun _ => et_test (ev_op (ev_lenD (ev_var rfl) hd) (ev_len (ev_fld (ev_var rfl) ha t.c_Calendar t.a_Calendar_ownmoments (caF_m _ _)) (sq_of hM)) (rv_ne rfl))) ?_) (fun e => nomatch e) (fun _ H1 e1 => ?_)
    · rw [hlen, List.length_map]
      simp
    -- the second test
    have hd1 := e1 _ _ hd
    have ha1 := e1 _ _ ha
    have hM1 := e1 _ _ hM
    refine q_when (b := false) (et_is (et_not (et_B (ev_allN (bs := sl.map fun _ => true) ?_))) (by rw [all_true]; rfl)) (fun e => nomatch e) (fun _ H2 e2 => ?_)
    · have key := el_lcL (K := K) (σ := start n_CaHas [.ref a, .ref d]) (H := H1) (a := m) (xs := sl.map V.str) (tl := tFld K (tVar 0) "own_moments") (j := 3) (vs := [3]) (t := tYes) (te := tAndV (tDIn (tVar 3) (tVar 1)) (tCall spIsInt [] E0 (tCons (tDGet (tVar 1) (tVar 3)) tNil))) (fun _ => true) (fun _ => V.bl true)
        (ev_fld (ev_var rfl) ha1 t.c_Calendar t.a_Calendar_ownmoments (caF_m _ _)) (sq_of hM1) (by rw [List.length_map]; omega) (fun _ => rfl) (fun _ _ _ _ _ => fun H3 _ Q3 q3 => q3 H3 (Ex.refl H3)) (fun i x H3 e3 hx _ => by
          obtain ⟨z, hz, rfl⟩ : ∃ z, sl[i]? = some z ∧ x = .str z := by
            rw [List.getElem?_map] at hx
            cases h : sl[i]? with
            | none => rw [h] at hx; cases hx
            | some z => rw [h] at hx; exact ⟨z, rfl, (Option.some.inj hx).symm⟩
          have hzm : z ∈ dt.map (·.1) := by rw [hk]; exact List.mem_of_getElem? hz
          exact ev_is (ev_andV (ev_din (k := Sum.inr z) (ev_var rfl) (ev_var rfl) (e3 _ _ hd1)) fun _ => ev_call (ea_cons (ev_dget (k := Sum.inr z) (ev_var rfl) (ev_var rfl) (e3 _ _ hd1) (kvD_val hzm)) ea_nil) sv_isinteger) (by rw [kvD_val hzm]; rfl))
      have eg : given (sl.map V.str).length (fun _ => true) (fun _ => V.bl true) = (sl.map fun _ => true).map V.bl := by
        rw [given_all, List.length_map, List.map_map]
        refine List.ext_getElem (by simp) fun i h1 h2 => by simp
      rw [eg] at key
      exact key
    -- days = dict(value); days[self.ZERO] = 0
    refine q_asgD (ed_copy (ev_var rfl) (e2 _ _ hd1)) (fun dp H3 hdp e3 hD => ?_)
    have ha3 := e3 _ _ (e2 _ _ ha1)
    refine q_dput (k := Sum.inr day) ev_c (ev_var rfl) (ev_con (ev_var rfl) ha3 t.c_Calendar hZ (caF_no _ _ (by decide +kernel) (by decide +kernel))) hD (by rw [hlen]; omega) (fun H4 e4 => ?_)
    have x4 : Ex H (upd H4 dp (.dK (putK (kvD dt) (Sum.inr day) (V.int 0)))) := (((e1.trans e2).trans e3).trans e4).mut (fresh_back (e1.trans e2) hdp)
    have hD4 : (upd H4 dp (.dK (putK (kvD dt) (Sum.inr day) (V.int 0)))) dp = some (.dK (kvD (dt ++ [(day, 0)]))) := by
      rw [upd_same, putK_new _ (kvD_none (by rw [hk]; exact hday)), kvD_app]
    generalize upd H4 dp (.dK (putK (kvD dt) (Sum.inr day) (V.int 0))) = G at x4 hD4 ⊢
    -- the clauses
    have key := el_lcC (K := K) (σ := [some (.ref a), some (.ref d), some (.ref dp), none, none, none, none]) (H := G) (a := c) (ts := ts) (cs := cs) (i0 := 4) (i1 := 5) (i2 := 6) (vs := [4, 5, 6]) (tl := tFld K (tVar 0) "own_clauses")
      (te := tOp (rI0 fun i j => .bl (decide (i ≤ j))) (tDGet (tVar 2) (tVar 4)) (tOp (rI0 fun i j => .int (i + j)) (tDGet (tVar 2) (tVar 5)) (tVar 6))) (fun c => V.bl (decide (Ld.dv dt c.one ≤ Ld.dv dt c.other + c.num)))
      (ev_fld (ev_var rfl) (x4 _ _ ha) t.c_Calendar t.a_Calendar_ownclauses (caF_c _ _)) (x4 _ _ hC1) (hC2.ex x4) (by have := hw.c40; omega) (fun _ _ _ => rfl) (fun cl H5 e5 hcl => by
        obtain ⟨h1, h2⟩ := hw.mem cl hcl
        exact ev_op (ev_dget (k := Sum.inr cl.one) (ev_var rfl) (ev_var rfl) (e5 _ _ hD4) (dayed_val hk hday h1)) (ev_op (ev_dget (k := Sum.inr cl.other) (ev_var rfl) (ev_var rfl) (e5 _ _ hD4) (dayed_val hk hday h2)) (ev_var rfl) rv_I0) (rv_I0 (g := fun i j => .bl (decide (i ≤ j)))))
    have ek : cs.map (fun c => V.bl (decide (Ld.dv dt c.one ≤ Ld.dv dt c.other + c.num))) = (cs.map fun c => decide (Ld.dv dt c.one ≤ Ld.dv dt c.other + c.num)).map V.bl := by rw [List.map_map]; rfl
    rw [ek] at key
    refine s_ret (ev_allN key) fun H5 e5 => ?_
    have := q H5 (x4.trans e5)
    have e : (cs.map fun c => decide (Ld.dv dt c.one ≤ Ld.dv dt c.other + c.num)).all id = Ld.keeps cs dt := by
      unfold Ld.keeps
      rw [List.all_map]
      rfl
    rw [e]
    exact this
end
end LdP
/-! # LdN1 -/
/-! One stretch of a generator's run: up to a yield, or to the end. No exception leaves it. -/
namespace LdP
open L2 PyProof.Rows PySem PySem.Spec
def Sg (M : Model) (A : Around) (Φ : End → Shared → Prop) (c : Code) (t : Sem PySem.Fin) (fs : List Frame) (s : Shared) : Prop :=
  ∀ Γ p, Γ.code = c → Γ.Woken A → ∃ e s', Runs M Γ p t fs s e s' ∧ Φ e s'
/-- it is woken: by next -/
def Wk (M : Model) (A : Around) (Φ : End → Shared → Prop) (gs : GenState) (s : Shared) : Prop :=
  match gs with
  | .fresh c => Sg M A Φ c (M.den c) [] s
  | .suspended k _ c _ fs _ => Sg M A Φ c (k (.send .none)) fs s
  | _ => False
section
variable {M : Model} {A : Around} {Φ : End → Shared → Prop} {c : Code} {fs : List Frame} {s : Shared} {env : Env} {α β : Type}
  {K : Flow → Sem PySem.Fin} {J : Value → Sem PySem.Fin} {gd : Bool → Bool} {lv : List Value → List Value}
theorem sg_wrap {m : Sem α} {K : α → Sem PySem.Fin} (h : wpAny M (A.over c fs) m (fun a s' => Sg M A Φ c (K a) fs s') TT0 s) : Sg M A Φ c (m.wrap K J gd lv) fs s := by
  rintro Γ p rfl hΓ
  exact runs_wrap_of_wp K J gd lv m (h (Γ.over fs) p (hΓ.over fs)) (fun a p' s' z => z Γ p' rfl hΓ) fun _ _ _ z => z.elim
theorem sg_bw {m : Sem α} {f : α → Sem β} {K : β → Sem PySem.Fin} (h : wpAny M (A.over c fs) m (fun a s' => Sg M A Φ c ((f a).wrap K J gd lv) fs s') TT0 s) : Sg M A Φ c ((m >>= f).wrap K J gd lv) fs s := by
  rw [Sem.bind_eq_wrap', Sem.wrap_wrap]
  exact sg_wrap h
theorem sg_bind {m : Sem α} {f : α → Sem PySem.Fin} (h : wpAny M (A.over c fs) m (fun a s' => Sg M A Φ c (f a) fs s') TT0 s) : Sg M A Φ c (m >>= f) fs s := by
  rw [Sem.bind_eq_wrap']
  exact sg_wrap h
theorem sg_at {p' : Pos} {k : Unit → Sem PySem.Fin} (h : Sg M A Φ c (k ()) fs s) : Sg M A Φ c (.at p' k) fs s :=
  sg_wrap (m := standAt p') (K := k) (J := .raise) (gd := id) (lv := id) (wpAny_standAt h)
theorem sg_point {l : List Value} {k : Unit → Sem PySem.Fin} (h : Sg M A Φ c (k ()) fs s) : Sg M A Φ c (.point l k) fs s :=
  sg_wrap (m := point) (K := k) (J := .raise) (gd := id) (lv := fun _ => l) (wpAny_point h)
theorem sg_call {c' : Code} {h : Option Value} {g : Bool} {l : List Value} {k : Result → Sem PySem.Fin} (hc : ∀ p, Sg M A Φ c' (M.den c') (.ret k h g l c p [] :: fs) s) : Sg M A Φ c (.call c' h g l k) fs s := by
  rintro Γ p rfl hΓ
  obtain ⟨ez, s'z, hrz, hez⟩ := hc p (Γ.goto c') p rfl (hΓ.goto c')
  exact ⟨ez, s'z, runs_call_seg hrz, hez⟩
theorem sg_leaf {k : Result → Sem PySem.Fin} {h : Option Value} {g : Bool} {l kp : List Value} {c₁ : Code} {p₁ : Pos} (r : Result) (hk : Sg M A Φ c₁ (k r) fs s) : Sg M A Φ c (leafOf r) (.ret k h g l c₁ p₁ kp :: fs) s := by
  rintro Γ p rfl hΓ
  obtain ⟨ez, s'z, hrz, hez⟩ := hk (Γ.goto c₁) p₁ rfl (hΓ.goto c₁)
  exact ⟨ez, s'z, Runs.pop r hrz, hez⟩
theorem sg_again {c' : Code} (hq : c'.quiet = true) (hc : Sg M A Φ c' (M.den c') fs s) : Sg M A Φ c (.pure (.again c')) fs s := by
  rintro Γ p rfl hΓ
  obtain ⟨ez, s'z, hrz, hez⟩ := hc (Γ.goto c') p rfl (hΓ.goto c')
  exact ⟨ez, s'z, Runs.head (c₁ := c') (fun _ _ xz => .again hq xz) hrz, hez⟩
theorem sg_end (r : Result) (h : Φ (.ret r) s) : Sg M A Φ c (leafOf r) [] s := by
  rintro Γ p rfl _
  exact ⟨.ret r, s, .leaf r, h⟩
theorem Sg.imp {Φ' : End → Shared → Prop} {t : Sem PySem.Fin} (h : Sg M A Φ c t fs s) (hi : ∀ e s, Φ e s → Φ' e s) : Sg M A Φ' c t fs s := fun Γ p a b =>
  let ⟨e, s', hr, he⟩ := h Γ p a b
  ⟨e, s', hr, hi e s' he⟩
/-- yield -/
theorem sg_yield {e : Expr} {ypos pos : Pos} (hfs : splitAtGen fs = none) (hgd : gd false = false) (hfg : fs.any Frame.guarded = false)
    (h : wpAny M (A.over c fs) (eval e env) (fun v s' => ∀ e0 : End, e0.quiet = true → e0.result = .yielded v → (∀ Φ' s'', Sg M A Φ' c (K .next) fs s'' → Wk M A Φ' e0.genState s'') → Φ e0 s') TT0 s)
    (hco : env.scope.isCoroutine = false) (hi : interactive env = false) : Sg M A Φ c ((exec (.Expr (.Yield (some e) ypos) pos) env).wrap K J gd lv) fs s := by
  rw [exec_Expr env _ pos hi rfl]; show Sg M A Φ c (.at pos fun _ => ((eval e env >>= fun v => (standAt ypos >>= fun _ => yieldOut env v)) >>= fun x => dropValue (.Yield (some e) ypos) pos x).wrap K J gd lv) fs s
  have hyz : ∀ v, yieldOut env v = yieldValue v := fun v => by simp only [yieldOut, hco, Bool.false_eq_true, if_false]
  simp only [hyz]
  refine sg_at ?_
  rw [Sem.bind_eq_wrap', Sem.bind_eq_wrap', Sem.wrap_wrap, Sem.wrap_wrap]; refine sg_wrap (wpAny_mono h (fun v s' h' => ?_) fun _ _ x => x)
  refine sg_at ?_
  rintro Γ p rfl hΓ
  refine ⟨_, s', Runs.yield' fs hfs, h' _ (by simp [End.quiet, hgd, hfg]) rfl fun Φ' s'' hn => ?_⟩
  exact hn
/-- a def's body -/
theorem sg_func {prog : Program} {w : World} {body : List Stmt} (h : ∀ J, Sg (model prog w) A Φ (.func body env) ((execs body env).wrap (fun f => .pure (.done (.ret (match f with | .ret v => v | _ => .none)))) J id id) fs s) :
    Sg (model prog w) A Φ (.func body env) ((model prog w).den (.func body env)) fs s := by
  show Sg _ A Φ _ (.point [] fun _ => ((execs body env).onRaise (leaving env)) >>= _) fs s
  refine sg_point ?_
  rw [Sem.onRaise_eq_wrap, Sem.bind_eq_wrap', Sem.wrap_wrap]; rw [Sem.wrap_congr (execs body env) _ _ (K' := fun f => .pure (.done (.ret (match f with | .ret v => v | _ => .none)))) (fun f => by cases f <;> rfl) (fun e => rfl)]
  exact h _
theorem sg_execs_nil (h : Sg M A Φ c (K .next) fs s) : Sg M A Φ c ((execs [] env).wrap K J gd lv) fs s := h
theorem sg_execs_cons {st : Stmt} {rest : List Stmt} (h : Sg M A Φ c ((exec st env).wrap (fun f => match f with | .next => (execs rest env).wrap K J gd lv | f => K f) J gd lv) fs s) :
    Sg M A Φ c ((execs (st :: rest) env).wrap K J gd lv) fs s := by rw [execs_cons_wrap]; exact h
theorem sg_If {test : Expr} {a b : List Stmt} {pos : Pos} (h : wpAny M (A.over c fs) (isTrue test env (eval test env)) (fun d s' => Sg M A Φ c ((execs (if d = true then a else b) env).wrap K J gd lv) fs s') TT0 s) :
    Sg M A Φ c ((exec (.If test a b pos) env).wrap K J gd lv) fs s := by
  rw [exec_If]
  refine sg_bw (wpAny_standAt (sg_bw (wpAny_mono h (fun d s' hd => ?_) fun _ _ x => x)))
  cases d with
  | true => exact hd
  | false => exact hd
/-- for -/
theorem sg_For {tg iter : Expr} {body : List Stmt} {pos : Pos} (hf : ∀ x, foldedSetIterable iter env x = pure x)
    (h : wpAny M (A.over c fs) (eval iter env) (fun x s₁ => wpAny M (A.over c fs) (pyIter x) (fun it s₂ => ∀ p,
      Sg M A Φ (.forLoop tg it body [] env) (M.den (.forLoop tg it body [] env)) (.ret (fun r => ((match r with | .ok f => (.pure f : Sem Flow) | .error e => .raise e).onRaise (cameBack env)).wrap K J gd lv) none (gd false) (lv []) c p [] :: fs) s₂) TT0 s₁) TT0 s) :
    Sg M A Φ c ((exec (.For tg iter body [] pos) env).wrap K J gd lv) fs s := by
  rw [exec_For]
  refine sg_bw (wpAny_standAt (sg_bw (wpAny_mono h (fun x s₁ h₁ => ?_) fun _ _ x => x)))
  refine sg_bw (wpAny_of_eq (hf x) (sg_bw (wpAny_standAt (sg_bw (wpAny_holding (wpAny_mono h₁ (fun it s₂ h₂ => ?_) fun _ _ x => x))))))
  exact sg_call h₂
/-- a turn -/
theorem sg_turn {prog : Program} {w : World} {tg : Expr} {it : Value} {body : List Stmt}
    (h : wpAny (model prog w) (A.over (.forLoop tg it body [] env) fs) (pyNext it) (fun r s1 => match r with
      | none => Sg (model prog w) A Φ (.block [] env) (leafOf (.ok .next)) fs s1
      | some v => wpAny (model prog w) (A.over (.forLoop tg it body [] env) fs) (letOwnedTupleGo tg it v) (fun _ s2 => wpAny (model prog w) (A.over (.forLoop tg it body [] env) fs) (assign tg env v) (fun _ s3 =>
          ∀ J, Sg (model prog w) A Φ (.forLoop tg it body [] env) ((execs body env).wrap (fun f => match f with
            | .next | .cont => .pure (.again (.forLoop tg it body [] env))
            | .brk => .pure (.done .next)
            | .ret v => .pure (.done (.ret v))) J id id) fs s3) TT0 s2) TT0 s1) TT0 s) :
    Sg (model prog w) A Φ (.forLoop tg it body [] env) ((model prog w).den (.forLoop tg it body [] env)) fs s := by
  show Sg _ A Φ _ ((forTurn tg it body [] env).onRaise (fun x => do noteFrame x env; theTreesLotGoes x)) fs s
  unfold forTurn
  rw [Sem.onRaise_eq_wrap]
  refine sg_bw (wpAny_standAt (sg_bw (wpAny_onRaise (wpAny_mono h (fun r s1 h1 => ?_) fun _ _ x => x.elim))))
  cases r with
  | none =>
    refine sg_again rfl ?_
    show Sg _ A Φ _ ((execs [] env).onRaise (fun x => do noteFrame x env; theTreesLotGoes x) >>= fun f => pure (.done f)) fs s1
    refine sg_bind (wpAny_onRaise (wpAny_mono (E := TT0) (Q := fun f s' => f = .next ∧ s' = s1) (wpAny_execs_nil ⟨rfl, rfl⟩) (fun f s' ⟨e1, e2⟩ => ?_) fun _ _ x => x.elim))
    subst e1 e2
    exact h1
  | some v =>
    refine sg_bw (wpAny_mono h1 (fun _ s2 h2 => sg_bw (wpAny_mono h2 (fun _ s3 h3 => ?_) fun _ _ x => x)) fun _ _ x => x)
    rw [Sem.bind_eq_wrap', Sem.wrap_wrap]
    rw [Sem.wrap_congr (execs body env) _ _ (K' := fun fl => match fl with
            | .next | .cont => .pure (.again (.forLoop tg it body [] env))
            | .brk => .pure (.done .next)
            | .ret v => .pure (.done (.ret v))) (fun f => by cases f <;> rfl) (fun e => rfl)]
    exact h3 _
end
/-- woken by the rule -/
theorem wk_resume {M : Model} {A : Around} {Φ : End → Shared → Prop} {E : Value → Shared → Prop} {s : Shared} {g : Nat} {gs : GenState} {l : List Value} {α : Type} {k : GenResult → Sem α} {Q : α → Shared → Prop} (hg : s.gens[g]? = some gs)
    (hw : Wk M A Φ gs (s.setGen g .running)) (h : ∀ e s₁, Φ e s₁ → e.quiet = true ∧ wpAny M A (k e.result) Q E (s₁.setGen g e.genState)) : wpAny M A (.resume g (.send .none) l k) Q E s := by
  intro Γ p hΓ
  rw [Sem.wp_resume]
  cases gs with
  | fresh c =>
    obtain ⟨e₁, s₁, hr, he⟩ := hw (Γ.wake c p) p rfl (hΓ.wake c p)
    obtain ⟨h1, h2⟩ := h e₁ s₁ he
    exact ⟨_, _, by unfold Wakes; rw [hg]; exact ⟨e₁, s₁, hr, h1, rfl, rfl⟩, h2 Γ p hΓ⟩
  | suspended k₀ l₀ c₀ p₀ fs₀ _ =>
    obtain ⟨e₁, s₁, hr, he⟩ := hw (Γ.wake c₀ p) p₀ rfl (hΓ.wake c₀ p)
    obtain ⟨h1, h2⟩ := h e₁ s₁ he
    exact ⟨_, _, by unfold Wakes; rw [hg]; exact ⟨e₁, s₁, hr, h1, rfl, rfl⟩, h2 Γ p hΓ⟩
  | running => exact hw.elim
  | finished => exact hw.elim
/-- what comes of waking: an item, or the end -/
def Comes (Qi : Value → Shared → Prop) (Qe : Shared → Prop) (g : Nat) (e : End) (s : Shared) : Prop :=
  e.quiet = true ∧ ((∃ v, e.result = .yielded v ∧ Qi v (s.setGen g e.genState)) ∨ (e.result = .returned .none ∧ Qe (s.setGen g e.genState)))
theorem special_gen {P : Program} {w : World} {A : Around} {E : Value → Shared → Prop} {s : Shared} {a : Addr} {g : Nat} {gs : GenState} {Qi : Value → Shared → Prop} {Qe : Shared → Prop} {Q : Option Value → Shared → Prop} (hh : A.handled = none)
    (hl : s.heap.NoLimit) (hroom : A.depth < recursionLimit) (hg : s.heap.IsGen a g) (hgs : s.gens[g]? = some gs) (hw : Wk (model P w) A.in1 (Comes Qi Qe g) gs (s.setGen g .running))
    (hi : ∀ v s1, Qi v s1 → Q (some v) s1)
    (he : ∀ s1, Qe s1 → ∀ h' e, (∀ b o, s1.heap.get? b = some o → h'.get? b = some o) → (∃ o, h'.get? e = some o ∧ o.cls = .type "StopIteration") → E (.ref e) { s1 with heap := h' }) :
    wpAny (model P w) A (callSpecial? (.ref a) "__next__") Q E s := by
  refine wpAny_callSpecial?_slot (name := Str.ofString "__next__") hg.typeIs slot_gen_next (wpAny_call_entry slot_gen_next hg.typeIs entry_gen_next ?_ (args_gen_next _))
  show wpAny _ A.in1 (Builtin.Generator.genWake (.ref a) (.send .none)) _ _ s; unfold Builtin.Generator.genWake
  refine wpAny_bind (wpAny_holding (wpAny_genNumber hg (wpAny_bind (wpAny_genState hgs ?_)))); cases gs with
  | running => exact hw.elim
  | finished => exact hw.elim
  | _ =>
    refine wpAny_bind (wpAny_roomToWake hl hroom ?_); show wpAny _ A.in1 (.resume g (.send .none) [] _) _ _ s
    refine wk_resume hgs hw fun e s₁ ⟨hq, hc⟩ => ⟨hq, ?_⟩
    rcases hc with ⟨v, hr, hv⟩ | ⟨hr, hv⟩
    · rw [hr]
      exact wpAny_pure ⟨v, rfl, hi v _ hv⟩
    · rw [hr]
      show wpAny _ A.in1 (newExc (.type "StopIteration") [] >>= _) _ _ _; refine wpAny_bind ?_
      simp only [newExc, newTuple]
      refine wpAny_bind (wpAny_newObj_type ?_ (by size_fits)); refine wpAny_bind (m := firstArgMember _ _) (wpAny_of_eq (a := Value.none) (by first | rfl | (simp only [firstArgMember]; rfl)) ?_)
      refine wpAny_newObj_type ?_ (by size_fits); simp only [raiseNew]; refine wpAny_bind (wpAny_bind (wpAny_handled ?_))
      first | rw [hh] | rw [show A.in1.handled = none from hh]
      refine wpAny_throw ?_
      exact he _ hv _ _ (fun b o hb => Heap.get?_push_of_some _ (Heap.get?_push_of_some _ hb)) ⟨_, Heap.get?_push_size _ rfl, rfl⟩
end LdP
/-! # LdN2 -/
/-! dict(zip(xs, ys)); found in calendar. -/
namespace LdP
open PySem PySem.Spec PyProof.Rows L2 Evl
/-- pairs of keys that differ: merged into nothing they are themselves -/
theorem merge_self : ∀ (more kvs : List (Key × V)), (kvs ++ more).map (·.1) |>.Nodup → mergeK kvs more = kvs ++ more
  | [], kvs, _ => (List.append_nil kvs).symm
  | p :: r, kvs, h => by
    show mergeK (putK kvs p.1 p.2) r = _
    have hn : valV kvs p.1 = none := by
      unfold valV
      rw [List.find?_eq_none.mpr]
      · rfl
      · intro q hq e
        have e := of_decide_eq_true e
        rw [List.map_append, List.nodup_append] at h
        exact h.2.2 _ (List.mem_map.mpr ⟨q, hq, rfl⟩) _ (List.mem_cons_self) e
    rw [putK_new _ hn]
    have := merge_self r (kvs ++ [(p.1, p.2)]) (by rw [List.append_assoc]; exact h)
    rw [this, List.append_assoc]
    rfl
theorem merge_nil {more : List (Key × V)} (h : (more.map (·.1)).Nodup) : mergeK [] more = more := merge_self more [] h
theorem kvD_nodup {d : Ld.Dt Str} (h : (d.map (·.1)).Nodup) : ((kvD d).map (·.1)).Nodup := by
  unfold kvD
  rw [List.map_map]
  show (d.map fun p => (Sum.inr p.1 : Key)).Nodup
  have e : (d.map fun p => (Sum.inr p.1 : Key)) = (d.map (·.1)).map Sum.inr := by rw [List.map_map]; rfl
  rw [e]
  exact List.pairwise_map.mpr (List.Pairwise.imp (fun hne e => hne (Sum.inr.inj e)) h)
section
variable {X : Cx} {G : Array GenState}
/-- the pairs that a zip of names and numbers hands out -/
theorem zip_kv : ∀ {ls : List Str} {ns : List Int} {us vs : List Value}, Vals (ls.map V.str) us → Vals (ns.map V.int) vs → ls.length = ns.length →
    KV (kvD (ls.zip ns)) ((ls.zip vs).map fun p => (Sum.inr p.1, p.2)) ∧ ((ls.zip vs).map fun p => ((Sum.inr p.1 : Key), p.2)).length = ls.length ∧ ∀ (i : Nat) (key v : Value), us[i]? = some key → vs[i]? = some v → ∃ k : Key, ((ls.zip vs).map fun p => ((Sum.inr p.1 : Key), p.2))[i]? = some (k, v) ∧ (mixKind X.prog X.w).is k key = true
  | [], [], us, vs, r1, r2, _ => by cases r1; cases r2; exact ⟨.nil, rfl, fun i k v h => by simp at h⟩
  | l :: ls, n :: ns, us, vs, r1, r2, h => by
    rw [List.map_cons] at r1 r2
    cases r1 with
    | cons a r1 =>
      cases r2 with
      | cons b r2 =>
        obtain ⟨h1, h2, h3⟩ := zip_kv r1 r2 (by simpa using h)
        refine ⟨.cons ⟨rfl, b⟩ h1, by simp at h2 ⊢; exact h2, fun i key v e1 e2 => ?_⟩
        cases i with
        | zero =>
          simp at e1 e2
          subst e1 e2
          exact ⟨Sum.inr l, by simp, kV_is (k := Sum.inr l) a⟩
        | succ i => exact h3 i key v (by simpa using e1) (by simpa using e2)
  | [], _ :: _, _, _, _, _, h => by simp at h
  | _ :: _, [], _, _, _, _, h0 => by simp at h0
/-- dict(zip(a, b)) of names that differ and numbers -/
def rDZ (vs : List V) (H2 : Hp) (Q : VK) : Prop := ∃ (a b : Addr) (ls : List Str) (ns : List Int), vs = [.ref a, .ref b] ∧ H2 a = some (.lst (ls.map V.str)) ∧ H2 b = some (.lst (ns.map V.int)) ∧ ls.length = ns.length ∧ ls.Nodup ∧ ∀ p, H2 p = none → Q (.ref p) (upd H2 p (obD (ls.zip ns)))
def tDZ (ta tb : TE) : TE := fun σ H Q => tCons ta (tCons tb tNil) σ H fun vs H2 => rDZ vs H2 Q
theorem dz_call {pins : List (Addr × Obj)} {s : Shared} {σ : L2.St} {H : Hp} {E : Value → Shared → Prop} {Q : VK} {a b : Addr} {ls : List Str} {ns : List Int} (hc : X.calm = true) (I : Inv X pins σ H s) (ha : H a = some (.lst (ls.map V.str))) (hb : H b = some (.lst (ns.map V.int))) (hl : ls.length = ns.length) (nd : ls.Nodup)
    (q : ∀ p, H p = none → Q (.ref p) (upd H p (obD (ls.zip ns)))) :
    wpAny (model X.prog X.w) X.A (call (.type "zip") [.ref a, .ref b]) (fun u s1 => wpAny (model X.prog X.w) X.A (call (.type "dict") [u]) (fun u s' => EP X pins σ Q u s' ∧ s'.gens = s.gens) E s1) E s := by
  obtain ⟨z1, its, n1, r1, e1⟩ := I.hok a _ ha
  obtain ⟨z2, jts, n2, r2, e2⟩ := I.hok b _ hb
  have hl1z : s.heap.IsList a its.toArray := ⟨_, e1, rfl, _, rfl⟩
  have hl2z : s.heap.IsList b jts.toArray := ⟨_, e2, rfl, _, rfl⟩
  have lt1 := Heap.lt_size e1
  have lt2 := Heap.lt_size e2
  have len1 := r1.length
  have len2 := r2.length
  rw [List.length_map] at len1 len2 z1
  refine call_zip_2 hl1z hl2z fun h'z hzz hTIz hTOz hi1z hi2z hszz hkz => ?_
  have P := PairArg.zip (prog := X.prog) (w := X.w) _ _ _ _ _ _ _ (zipApart_new lt1 lt2) its.toArray jts.toArray
  obtain ⟨kv, kl, kr⟩ := zip_kv (X := X) r1 r2 hl
  have hn : min its.toArray.size jts.toArray.size = ls.length := by simp; omega
  refine PySem.call_dict_pairs (knd := mixKind X.prog X.w) (kvs := (ls.zip jts).map fun p => (Sum.inr p.1, p.2)) P (I.ok.hd hc) ⟨hzz, hTIz, ⟨_, _, hTOz⟩, hi1z, hi2z, Heap.IsList.at hl1z (fun o e => hkz _ o e), Heap.IsList.at hl2z (fun o e => hkz _ o e)⟩ ⟨by rw [kl, hn], fun i key v ⟨h1, h2⟩ => kr i key v (by simpa using h1) (by simpa using h2)⟩ (by rw [hn]; omega) fun h2 tk hd hk2 => ?_
  have kp : ∀ c o, s.heap.get? c = some o → h2.get? c = some o := fun c o e => hk2 c o (fun hmz => by
    have := Heap.lt_size e
    simp only [List.mem_cons, List.not_mem_nil, or_false] at hmz
    rcases hmz with r | r | r | r
    all_goals
      rw [r] at this
      exact absurd this (by first | exact Nat.lt_irrefl _ | exact Nat.not_lt.mpr (Nat.le_add_right _ _))) (hkz c o e)
  have hp : s.heap.objs.size ≤ h'z.objs.size := by rw [hszz]; exact Nat.le_add_right _ _
  have hmz : (h'z.objs.size == sysModules) = false := beq_eq_false_iff_ne.mpr (Nat.ne_of_gt (Nat.lt_of_lt_of_le I.big hp))
  have hlen : (kvD (ls.zip ns)).length ≤ sizeLine := by unfold kvD; rw [List.length_map, List.length_zip]; omega
  have hnd : (((ls.zip ns).map (·.1))).Nodup := by rw [List.map_fst_zip (by omega)]; exact nd
  have em : mergeK [] (kvD (ls.zip ns)) = kvD (ls.zip ns) := merge_nil (kvD_nodup hnd)
  refine ⟨⟨.ref h'z.objs.size, upd H h'z.objs.size (obD (ls.zip ns)), I.laid (t' := tk) kp hp ?_, rfl, q _ (I.hok.fresh hp)⟩, rfl⟩
  have km := KV.merge kv (kvs := []) .nil
  rw [em] at km
  exact ⟨hlen, hmz, _, km, hd⟩
theorem dz_eval {a b : Expr} {p1 p2 pos1 pos2 : Pos} {pins : List (Addr × Obj)} {s : Shared} {σ : L2.St} {H : Hp} {E : Value → Shared → Prop} {R : Value → Shared → Prop} (I : Inv X pins σ H s) (hgd : Gl X "dict") (hmd : X.mg "dict" = none) (hgz : Gl X "zip") (hmz : X.mg "zip" = none)
    (he : starEach [a, b] X.env = [(false, eval a X.env), (false, eval b X.env)]) (he2 : starEach [b] X.env = [(false, eval b X.env)])
    (he1 : starEach [.Call (.Name "zip" p2) [a, b] [] pos2] X.env = [(false, eval (.Call (.Name "zip" p2) [a, b] [] pos2) X.env)])
    (h : wpAny (model X.prog X.w) X.A (spliced (backTo pos2 (starEach [a, b] X.env))) (fun us s1 => wpAny (model X.prog X.w) X.A (call (.type "zip") us) (fun u s2 => wpAny (model X.prog X.w) X.A (call (.type "dict") [u]) R E s2) E s1) E s) :
    wpAny (model X.prog X.w) X.A (eval (.Call (.Name "dict" p1) [.Call (.Name "zip" p2) [a, b] [] pos2] [] pos1) X.env) R E s := by
  refine wpAny_Call_Name_kw (ld_blt I hgd hmd boot_dict' (PyProof.Rows.callWith_type1 ?_ he1 rfl))
  rw [he1]
  show wpAny _ _ (spliced ((false, eval (.Call (.Name "zip" p2) [a, b] [] pos2) X.env) :: [])) _ _ s
  refine Calls.spliced_cons (Call_ (ld_blt I hgz hmz boot_zip (PyProof.Rows.callWith_type1 (wpAny_mono h (fun us s1 h1 => wpAny_mono h1 (fun u s2 h2 => Calls.spliced_nil h2) fun _ _ x => x) fun _ _ x => x) (by rw [he, he2]) (by rw [he2]; rfl))))
theorem g_dz {a b : Expr} {ta tb : TE} {p1 p2 pos1 pos2 : Pos} (hc : X.calm = true) (hgd : Gl X "dict") (hmd : X.mg "dict" = none) (hgz : Gl X "zip") (hmz : X.mg "zip" = none) (ha : GE X G a ta) (hb : GE X G b tb)
    (he : starEach [a, b] X.env = [(false, eval a X.env), (false, eval b X.env)] := by rfl) (he2 : starEach [b] X.env = [(false, eval b X.env)] := by rfl)
    (he1 : starEach [.Call (.Name "zip" p2) [a, b] [] pos2] X.env = [(false, eval (.Call (.Name "zip" p2) [a, b] [] pos2) X.env)] := by rfl) :
    GE X G (.Call (.Name "dict" p1) [.Call (.Name "zip" p2) [a, b] [] pos2] [] pos1) (tDZ ta tb) := by
  refine ⟨⟨fun pins s σ H Q I h => ?_⟩, fun pins s σ H Q I hs h => ?_⟩
  · refine dz_eval I hgd hmd hgz hmz he he2 he1 (thn ((pa_cons ha.p (pa_cons hb.p pa_nil he2) (by rw [he, he2])).run pos2 pins s σ H _ I h) fun us s1 ⟨vs, H2, I2, rz, a', b', ls, ns, e, h1, h2, h3, h4, q⟩ => ?_)
    subst e
    obtain ⟨u1z, u2z, rfl, r1z, r2z⟩ := vals2 rz
    cases r1z
    cases r2z
    exact thn (dz_call hc I2 h1 h2 h3 h4 q) fun u s2 z => thn z fun _ _ z => z.1
  · refine dz_eval I hgd hmd hgz hmz he he2 he1 ((ga_cons ha (ga_cons hb ga_nil he2) (by rw [he, he2])).go I hs h fun us s1 vs H2 I2 g2 rz ⟨a', b', ls, ns, e, h1, h2, h3, h4, q⟩ => ?_)
    subst e
    obtain ⟨u1z, u2z, rfl, r1z, r2z⟩ := vals2 rz
    cases r1z
    cases r2z
    exact thn (dz_call hc I2 h1 h2 h3 h4 q) fun u s2 z => thn z fun _ s3 z => z.2.trans g2
/-- x in o, by the class's own __contains__ -/
def tInO (C : Addr) (sp : Sp) (ta tb : TE) : TE := fun σ H Q => ta σ H fun x H1 => tb σ H1 fun y H2 => ∃ a dx fs, y = .ref a ∧ H2 a = some (.ins C dx fs) ∧ sp [y, x] H2 (fun v H3 => ∃ b, v = .bl b ∧ Q (.bl b) H3) E0
theorem inO_of {k : Nat} {f C : Addr} {ps : List Str} {sp : Sp} {pins : List (Addr × Obj)} {s : Shared} {σ : L2.St} {H : Hp} {E : Value → Shared → Prop} {R : Value → Shared → Prop} {a dx : Addr} {fs : List (Str × V)} {v : Value} (hm : Meth X.K C "__contains__" f) (I : Inv X pins σ H s) (ea : H a = some (.ins C dx fs))
    (h : wpAny (model X.prog X.w) X.A (call (.ref f) [.ref a, v]) (fun r s' => ∃ b, r = .bool b ∧ R (.bool b) s') E s) : wpAny (model X.prog X.w) X.A (compareOp .In v (.ref a)) R E s := by
  obtain ⟨mA, O, r, _, _, _⟩ := ins_get I.hok ea
  obtain ⟨od, IA, _⟩ := O.look
  obtain ⟨m, F⟩ := I.fr
  refine PySem.W.in_K F I.mod.kin IA hm.at_ hm.fn (wpAny_mono h (fun r s' ⟨b, e, q⟩ => ?_) fun _ _ x => x)
  subst e
  exact wpAny_truthy_bool q
/-- a comparison, by the values of both sides -/
structure GC (X : Cx) (G : Array GenState) (op : CmpOp) (a b : Expr) (t : TE) : Prop where
  p : PC X op a b t
  g : ∀ (pins : List (Addr × Obj)) (s : Shared) (σ : L2.St) (H : Hp) (Q : VK), Inv X pins σ H s → s.gens = G → t σ H Q →
    wpAny (model X.prog X.w) X.A (eval a X.env) (fun v s₁ => wpAny (model X.prog X.w) X.A (eval b X.env) (fun u s₂ => wpAny (model X.prog X.w) X.A (compareOp op v u) (fun _ s' => s'.gens = G) TT0 s₂) TT0 s₁) TT0 s
theorem GC.ge {op : CmpOp} {a b : Expr} {te : TE} {pos : Pos} (h : GC X G op a b te) (hm : behindInMarks op b = false) : GE X G (.Compare a [op] [b] pos) te :=
  ⟨pe_cmp h.p hm, fun pins s σ H Q I hs q => wpAny_Compare1 (h.g pins s σ H Q I hs q) hm⟩
theorem GC.gt {op : CmpOp} {a b : Expr} {te : TE} {pos : Pos} (h : GC X G op a b te) (hm : behindInMarks op b = false) : GT X G (.Compare a [op] [b] pos) (tB te) := by
  refine ⟨pt_cmp h.p hm, fun pins s σ H Q I hs q => wpAny_isTrue_Compare1 ?_ hm⟩
  refine wpAny_mono (both (h.p.run pins s σ H _ I q) (h.g pins s σ H _ I hs q)) (fun v s1 ⟨h1, h1'⟩ => wpAny_mono (both h1 h1') (fun u s2 ⟨h2, h2'⟩ => wpAny_mono (both h2 h2') (fun c s3 h3 => ?_) fun _ _ z => z.2) fun _ _ z => z.2) fun _ _ z => z.2
  obtain ⟨⟨x, H1, I1, r1, d, ex, _⟩, g3⟩ := h3
  subst ex
  cases r1
  exact wpAny_truthy_bool g3
theorem gc_inO {k : Nat} {f C : Addr} {ps : List Str} {sp : Sp} {i o : Expr} {ta tb : TE} (hm : Meth X.K C "__contains__" f) (F : OkG X.prog X.w X.K X.mg X.base k f ps sp) (hr : Room k X.A) (ha : GE X G i ta) (hb : GE X G o tb) :
    GC X G .In i o (tInO C sp ta tb) := by
  refine ⟨⟨fun pins s σ H Q I h => ?_⟩, fun pins s σ H Q I hs h => ?_⟩
  · refine (thn (ha.p.run pins s σ H _ I h) fun v s1 ⟨x, H1, I1, r1, q1⟩ => thn (hb.p.run pins s1 σ H1 _ I1 q1) fun u s2 ⟨y, H2, I2, r2, a, dx, fs, ey, ea, q2⟩ => ?_)
    subst ey
    cases r2
    obtain ⟨fd, F1, F2⟩ := F.ok.ex
    refine inO_of (k := k) (ps := ps) (sp := sp) hm I2 ea (thn (run_fn (Q := fun v H3 => ∃ b, v = .bl b ∧ Q (.bl b) H3) (us := [.ref a, v]) (vs := [.ref a, x]) F1 hr F2 .nil (pass0 (X := X)) I2 (.cons rfl (.cons r1 .nil)) (by rw [List.append_nil]; exact q2)) fun r s3 ⟨z, H3, I3, r3, b, ez, q3⟩ => ?_)
    subst ez
    cases r3
    exact ⟨b, rfl, .bl b, H3, I3, rfl, q3⟩
  · refine (ha.go I hs h fun v s1 x H1 I1 g1 r1 q1 => hb.go I1 g1 q1 fun u s2 y H2 I2 g2 r2 ⟨a, dx, fs, ey, ea, q2⟩ => ?_)
    subst ey
    cases r2
    obtain ⟨fd, F1, F2⟩ := F.ok.ex
    have h1 := run_fn (Q := fun v H3 => ∃ b, v = .bl b ∧ Q (.bl b) H3) (X := X.wish TT0) (us := [.ref a, v]) (vs := [.ref a, x]) F1 hr F2 .nil (pass0 (X := X.wish TT0)) (I2.wish _) (.cons rfl (.cons r1 .nil)) (by rw [List.append_nil]; exact q2)
    have h2 := run_g (us := [.ref a, v]) (vs := [.ref a, x]) F hr I2 g2 (.cons rfl (.cons r1 .nil)) (by rw [List.append_nil]; exact q2)
    have h3 := both h1 h2
    refine inO_of (k := k) (ps := ps) (sp := sp) (E := TT0) (R := fun _ s' => s'.gens = G) hm I2 ea (wpAny_mono h3 (fun r s3 hz => ?_) fun _ _ z => z.2)
    obtain ⟨⟨z, H3, I3, r3, b, ez, q3⟩, g3⟩ := hz
    subst ez
    cases r3
    exact ⟨b, rfl, g3⟩
end
end LdP
/-! # LdN3 -/
/-! A generator's stretches: what its consumer keeps meanwhile, what it keeps itself. -/
namespace LdP
open PySem PySem.Spec PyProof.Rows L2 Evl
/-! ### the heap of old -/
def cut (h : Heap) (L : Addr) : Heap := { h with objs := (h.objs.toList.take L).toArray }
theorem cut_get {h : Heap} {L b : Addr} (hb : b < L) : (cut h L).get? b = h.get? b := by
  have e : ((h.objs.toList.take L).toArray)[b]? = h.objs[b]? := by
    rw [List.getElem?_toArray, List.getElem?_take_of_lt hb, Array.getElem?_toList]
  unfold Heap.get? cut
  simp only [e]
theorem cut_lt {h : Heap} {L b : Addr} {o : Obj} (e : (cut h L).get? b = some o) : b < L ∧ h.get? b = some o := by
  have hb : b < L := by
    have := Heap.lt_size e
    have hs : (cut h L).objs.size ≤ L := by
      show (h.objs.toList.take L).toArray.size ≤ L
      rw [List.size_toArray, List.length_take]
      exact Nat.min_le_left _ _
    exact Nat.lt_of_lt_of_le this hs
  exact ⟨hb, by rw [← cut_get hb]; exact e⟩
theorem cut_size {h : Heap} {L : Addr} (hl : L ≤ h.objs.size) : (cut h L).objs.size = L := by
  show (h.objs.toList.take L).toArray.size = L
  rw [List.size_toArray, List.length_take, Array.length_toList]
  exact Nat.min_eq_left hl
theorem cut_funs {base h : Heap} {L : Addr} : ∀ {l : List Env}, h.FunFrames base l → (∀ b ∈ frs l, b < L) → (cut h L).FunFrames base l
  | [], _, _ => trivial
  | env :: r, ⟨hk, ⟨L', o, hf, hn, ho, hd⟩, hr⟩, hb => by
    have h1 : L' ∈ frs (env :: r) := by unfold frs; rw [List.filterMap_cons, hf]; exact List.mem_cons_self
    exact ⟨hk, ⟨L', o, hf, hn, by rw [cut_get (hb L' h1)]; exact ho, hd⟩, cut_funs hr fun b h => hb b (by unfold frs at h ⊢; rw [List.filterMap_cons, hf]; exact List.mem_cons_of_mem _ h)⟩
/-! ### what is told of a part of the heap -/
/-- without what is only there, and without dicts whose instance is not told -/
def flt (H : Hp) : Hp := fun b => match H b with
  | some (.lst xs) => some (.lst xs)
  | some (.tup xs) => some (.tup xs)
  | some (.dK kvs) => some (.dK kvs)
  | some (.ins C dx fs) => some (.ins C dx fs)
  | some (.own x) => match H x with
    | some (.ins _ d _) => if d = b then some (.own x) else none
    | _ => none
  | _ => none
def rm (H : Hp) (l : List Addr) : Hp := fun b => if b ∈ l then none else H b
/-- each dict of its own stands beside its instance -/
def Own (H : Hp) : Prop := ∀ dx b, H dx = some (.own b) → ∃ C fs, H b = some (.ins C dx fs)
/-- of the kinds that flt keeps -/
def Kd (H : Hp) : Prop := ∀ b u, H b = some u → (∃ xs, u = .lst xs) ∨ (∃ xs, u = .tup xs) ∨ (∃ k, u = .dK k) ∨ (∃ C dx fs, u = .ins C dx fs) ∨ ∃ x, u = .own x
theorem flt_sub {H : Hp} {b : Addr} {u : HO} (h : flt H b = some u) : H b = some u := by
  unfold flt at h
  split at h
  · rename_i e; rw [e, ← h]
  · rename_i e; rw [e, ← h]
  · rename_i e; rw [e, ← h]
  · rename_i e; rw [e, ← h]
  · rename_i x e
    split at h
    · split at h
      · rw [e, ← h]
      · cases h
    · cases h
  · cases h
theorem flt_own (H : Hp) : Own (flt H) := fun dx b h => by
  have hH := flt_sub h
  unfold flt at h
  rw [hH] at h
  simp only at h
  split at h
  · rename_i C d fs e
    split at h
    · rename_i e2
      subst e2
      exact ⟨C, fs, by unfold flt; rw [e]⟩
    · cases h
  · cases h
theorem flt_kd (H : Hp) : Kd (flt H) := fun b u h => by
  unfold flt at h
  split at h
  · exact .inl ⟨_, (Option.some.inj h).symm⟩
  · exact .inr (.inl ⟨_, (Option.some.inj h).symm⟩)
  · exact .inr (.inr (.inl ⟨_, (Option.some.inj h).symm⟩))
  · exact .inr (.inr (.inr (.inl ⟨_, _, _, (Option.some.inj h).symm⟩)))
  · split at h
    · split at h
      · exact .inr (.inr (.inr (.inr ⟨_, (Option.some.inj h).symm⟩)))
      · cases h
    · cases h
  · cases h
/-- a part of such kind that is told by H is told by H's part -/
theorem flt_sup {HT H : Hp} (o : Own HT) (k : Kd HT) (e : Ex HT H) : Ex HT (flt H) := fun b u h => by
  have hH := e b u h
  unfold flt
  rw [hH]
  rcases k b u h with ⟨xs, rfl⟩ | ⟨xs, rfl⟩ | ⟨xs, rfl⟩ | ⟨C, dx, fs, rfl⟩ | ⟨x, rfl⟩
  · rfl
  · rfl
  · rfl
  · rfl
  · obtain ⟨C, fs, h2⟩ := o b x h
    simp only [e _ _ h2, if_pos]
section
variable {P : Program} {w : World}
/-- an object of such a kind, told by another heap, in another heap -/
theorem stay2 {H H' : Hp} {h h' : Heap} {a : Addr} {o : HO} (x : ObjOk P w H h a o) (kd : (∃ xs, o = .lst xs) ∨ (∃ xs, o = .tup xs) ∨ (∃ k, o = .dK k) ∨ (∃ C dx fs, o = .ins C dx fs) ∨ ∃ x, o = .own x)
    (k : ∀ u, h.get? a = some u → h'.get? a = some u) (kx : ∀ C dx fs, o = .ins C dx fs → H' dx = some (.own a) ∧ ∀ u, h.get? dx = some u → h'.get? dx = some u) : ObjOk P w H' h' a o := by
  rcases kd with ⟨xs, rfl⟩ | ⟨xs, rfl⟩ | ⟨xs, rfl⟩ | ⟨C, dx, fs, rfl⟩ | ⟨y, rfl⟩
  · obtain ⟨zz, its, n, rz, ez⟩ := x; exact ⟨zz, its, n, rz, k _ ez⟩
  · obtain ⟨zz, its, rz, ob, ez, cz⟩ := x; exact ⟨zz, its, rz, ob, k _ ez, cz⟩
  · obtain ⟨zz, y, vs, rz, ob, esz, epz, ez, cz⟩ := x; exact ⟨zz, y, vs, rz, ob, esz, epz, k _ ez, cz⟩
  · obtain ⟨h1, h2⟩ := kx C dx fs rfl
    obtain ⟨dz, zz, nez, ez, mAz, ⟨odz, esz, epz, e2z, cz⟩, rz⟩ := x
    exact ⟨h1, zz, nez, k _ ez, mAz, ⟨odz, esz, epz, h2 _ e2z, cz⟩, rz⟩
  · obtain ⟨ob, ez⟩ := x; exact ⟨ob, k _ ez⟩
theorem flt_hok {H : Hp} {h : Heap} (x : HOk P w H h) : HOk P w (flt H) h := fun b u e => by
  have hH := flt_sub e
  refine stay2 (x b u hH) (flt_kd H b u e) (fun _ z => z) fun C dx fs eu => ⟨?_, fun _ z => z⟩
  subst eu
  obtain ⟨d, _⟩ := (show ObjOk P w H h b (.ins C dx fs) from x b _ hH)
  unfold flt
  rw [d]
  simp only [hH, if_pos]
theorem rm_hok {H : Hp} {h : Heap} {l : List Addr} (x : HOk P w H h) (hl : ∀ b ∈ l, (∃ xs, H b = some (.lst xs)) ∨ (∃ k, H b = some (.dK k)) ∨ H b = none) : HOk P w (rm H l) h := fun b u e => by
  have hb : b ∉ l := fun m => by unfold rm at e; rw [if_pos m] at e; cases e
  have hH : H b = some u := by unfold rm at e; rwa [if_neg hb] at e
  refine (x b u hH).stay (fun _ _ _ z => z) (fun c hc => ?_) fun c xs hc => ?_
  all_goals
    unfold rm
    rw [if_neg ?_]
    · exact hc
    · intro m
      rcases hl c m with ⟨ys, e2⟩ | ⟨k, e2⟩ | e2 <;> rw [hc] at e2 <;> cases e2
end
/-! ### the whole heap, told: HT, and all else that is younger than L as it stands -/
def allH (HT : Hp) (pn : List (Addr × Obj)) (L : Addr) (h : Heap) : Hp := fun b => match HT b with
  | some u => some u
  | none => if L ≤ b ∧ b ∉ pn.map (·.1) then (h.get? b).map fun o => HO.ext fun h' => h'.get? b = some o else none
theorem allH_ht {HT : Hp} {pn : List (Addr × Obj)} {L : Addr} {h : Heap} : Ex HT (allH HT pn L h) := fun b u e => by unfold allH; rw [e]
theorem allH_old {HT : Hp} {pn : List (Addr × Obj)} {L b : Addr} {h : Heap} (hb : b < L) : allH HT pn L h b = HT b := by
  unfold allH
  cases e : HT b with
  | some u => rfl
  | none => exact if_neg fun z => absurd hb (Nat.not_lt.mpr z.1)
theorem allH_pn {HT : Hp} {pn : List (Addr × Obj)} {L b : Addr} {h : Heap} (hb : b ∈ pn.map (·.1)) (hn : HT b = none) : allH HT pn L h b = none := by
  unfold allH
  rw [hn]
  exact if_neg fun z => z.2 hb
theorem allH_new {HT : Hp} {pn : List (Addr × Obj)} {L b : Addr} {h : Heap} {o : Obj} (hL : L ≤ b) (hb : b ∉ pn.map (·.1)) (hn : HT b = none) (e : h.get? b = some o) : allH HT pn L h b = some (.ext fun h' => h'.get? b = some o) := by
  unfold allH
  rw [hn]
  show (if _ then _ else _) = _
  rw [if_pos ⟨hL, hb⟩, e]
  rfl
theorem allH_hok {P : Program} {w : World} {HT : Hp} {pn : List (Addr × Obj)} {L : Addr} {h : Heap} (x : HOk P w HT h) : HOk P w (allH HT pn L h) h := fun b u e => by
  cases eb : HT b with
  | some u' =>
    rw [allH_ht b u' eb] at e
    cases e
    exact (x b _ eb).stay (fun _ _ _ z => z) (fun c z => allH_ht _ _ z) fun c xs z => allH_ht _ _ z
  | none =>
    unfold allH at e
    rw [eb] at e
    simp only at e
    split at e
    · cases eo : h.get? b with
      | none => rw [eo] at e; cases e
      | some o =>
        rw [eo] at e
        cases e
        exact ⟨eo, ⟨o, eo⟩, fun h1 h2 z1 z2 => z2 _ z1⟩
    · cases e
end LdP
/-! # LdN4 -/
/-! all_dates asleep. -/
namespace LdP
open PySem PySem.Spec PyProof.Rows L2 Evl
abbrev gsc : Scope := defScope s_alldates
abbrev gEnv (K : PySem.W.Frag) (L : Addr) (cd : Value) : Env := envOfC "all_dates" gsc L (He.ga K "all_dates") cd
/-- what a generator wants of the state when it is woken -/
structure Fit (P : Program) (w : World) (base : Heap) (outer : List Env) (pn : List (Addr × Obj)) (HT : Hp) (s : Shared) : Prop where
  hok : HOk P w HT s.heap
  pin : ∀ p ∈ pn, s.heap.get? p.1 = some p.2
  bs : ∀ b o, base.get? b = some o → s.heap.get? b = some o
  funs : (s.heap).FunFrames base outer
  bare : AllBare s.gens
/-- what it leaves as it was -/
structure Post (outer : List Env) (pn : List (Addr × Obj)) (HT : Hp) (s s' : Shared) : Prop where
  os : s'.os = s.os
  gens : s'.gens = s.gens
  keep : ∀ b o, s.heap.get? b = some o → b ∉ pn.map (·.1) → HT b = none → b ∉ frs outer → s'.heap.get? b = some o
  slot : ∀ b o, s.heap.get? b = some o → b ∈ frs outer → ∃ sl, s'.heap.get? b = some { o with slots := sl }
section
variable (P : Program) (w : World) (base : Heap) (outer : List Env) (L : Addr)
def SEnd (pn : List (Addr × Obj)) (HT : Hp) (s : Shared) (e : End) (s' : Shared) : Prop := e.quiet = true ∧ e.result = .returned .none ∧ Post outer pn HT s s' ∧ HOk P w HT s'.heap
def SItem (next : GenState → List (Addr × Obj) → Hp → Prop) (d : Ld.Dt Str) (pn : List (Addr × Obj)) (HT : Hp) (s : Shared) (e : End) (s' : Shared) : Prop :=
  e.quiet = true ∧ ∃ (y : Addr) (pn' : List (Addr × Obj)) (HT' : Hp), e.result = .yielded (.ref y) ∧ Post outer pn HT s s' ∧ HOk P w HT' s'.heap ∧ ObjOk P w HT' s'.heap y (obD d) ∧ s.heap.get? y = none ∧ HT' y = none ∧
    (∀ p ∈ pn', L ≤ p.1 ∧ p.1 ≠ y ∧ HT' p.1 = none ∧ s'.heap.get? p.1 = some p.2 ∧ (∀ v, p.2.data ≠ .cell v) ∧ (p.1 ∈ pn.map (·.1) ∨ s.heap.get? p.1 = none)) ∧
    Ex HT HT' ∧ (∀ b u, HT' b = some u → HT b = some u ∨ s.heap.get? b = none) ∧ Own HT' ∧ Kd HT' ∧ next e.genState pn' HT'
/-- it sleeps, and will hand out these -/
def Slept (A : Around) : List (Ld.Dt Str) → GenState → List (Addr × Obj) → Hp → Prop
  | [], gs, pn, HT => ∀ s, Fit P w base outer pn HT s → Wk (model P w) A (SEnd P w outer pn HT s) gs s
  | d :: r, gs, pn, HT => ∀ s, Fit P w base outer pn HT s → Wk (model P w) A (SItem P w outer L (Slept A r) d pn HT s) gs s
end
/-! ### its body's context -/
abbrev gx (P : Program) (w : World) (K : PySem.W.Frag) (mg : Str → Option Value) (base : Heap) (A : Around) (outer : List Env) (L : Addr) (cd : Value) (s : Shared) (H : Hp) : Cx where
  prog := P
  w := w
  K := K
  mg := mg
  base := base
  A := A.deeper (gEnv K L cd)
  N := n_alldates
  s_0 := { s with heap := cut s.heap L }
  H_0 := H
  env := gEnv K L cd
  outer := outer
  stack := gEnv K L cd :: outer
  ex := []
  fn := fun _ => true
  calm := true
  pn := []
  xe := TT0
/-- what stays true of the place -/
structure GPl (K : PySem.W.Frag) (mg : Str → Option Value) (base : Heap) (A : Around) (outer : List Env) (L : Addr) : Prop where
  hd : A.handled = none
  fr : A.frames = some outer
  mod : Mod K mg base
  bz : base.objs.size ≤ L
  ol : ∀ b ∈ frs outer, b < L
/-- .. of what is told -/
structure GHt (base : Heap) (outer : List Env) (L : Addr) (pn : List (Addr × Obj)) (HT : Hp) : Prop where
  b : ∀ b o, base.get? b = some o → HT b = none
  f : ∀ b ∈ frs outer, HT b = none
  p : ∀ p ∈ pn, HT p.1 = none
  l : ∃ o, (L, o) ∈ pn
  own : Own HT
  kd : Kd HT
/-- the frame's names -/
def LocO (K : PySem.W.Frag) (L : Addr) (cd : Value) (σ : L2.St) (h : Heap) : Prop :=
  ∃ m, h.Ns L m ∧ ∀ (i : Nat) (x : Str) (v : V), n_alldates[i]? = some x → σ[i]? = some (some v) → Vis gsc x → ∃ u, RelV v u ∧ gsc.names.lookup x = some .local ∧ m x = some u
theorem gsc_loc {x : Str} (h : Vis gsc x) : gsc.names.lookup x = some .local := by
  have key : ∀ y ∈ gsc.names, y.2 = .local ∨ y.2 = .globalImplicit := by decide +kernel
  rcases h with h | h | h
  · exact h
  · have := key _ (PySem.mem_of_lookup h)
    rcases this with z | z <;> cases z
  · have := key _ (PySem.mem_of_lookup h)
    rcases this with z | z <;> cases z
theorem gEnv_cells (K : PySem.W.Frag) (L : Addr) (cd : Value) : (gEnv K L cd).cells = [] := by rfl
section
variable {P : Program} {w : World} {K : PySem.W.Frag} {mg : Str → Option Value} {base : Heap} {A : Around} {outer : List Env} {L : Addr} {cd : Value} {pn : List (Addr × Obj)} {HT H : Hp} {σ : L2.St} {s s' : Shared}
theorem LocO.at {h h' : Heap} (l : LocO K L cd σ h) (k : ∀ o, h.get? L = some o → h'.get? L = some o) : LocO K L cd σ h' := by
  obtain ⟨m, ⟨o, es, ep, ho, r⟩, q⟩ := l
  exact ⟨m, ⟨o, es, ep, k o ho, r⟩, q⟩
theorem gx_inv (pl : GPl K mg base A outer L) (ft : Fit P w base outer pn HT s) (gh : GHt base outer L pn HT) (lo : LocO K L cd σ s.heap) (hσ : σ.length = 8) :
    Inv (gx P w K mg base A outer L cd s (allH HT pn L s.heap)) [] σ (allH HT pn L s.heap) s := by
  obtain ⟨oL, hL⟩ := gh.l
  have eL := ft.pin _ hL
  have lt : L < s.heap.objs.size := Heap.lt_size eL
  have cz : (cut s.heap L).objs.size = L := cut_size (Nat.le_of_lt lt)
  have hb : ∀ b o, base.get? b = some o → b < L := fun b o e => Nat.lt_of_lt_of_le (Heap.lt_size e) pl.bz
  have nc : ∀ (x : Str) (c : Addr), (gEnv K L cd).cells.lookup x = some c → False := fun x c e => by rw [gEnv_cells] at e; cases e
  have kc : ∀ x, (gEnv K L cd).kindOf x = some .cell ∨ (gEnv K L cd).kindOf x = some .free → False := fun x h => by
    have key : ∀ y ∈ gsc.names, y.2 = .local ∨ y.2 = .globalImplicit := by decide +kernel
    rcases h with h | h
    · rcases key _ (PySem.mem_of_lookup (show gsc.names.lookup x = _ from h)) with z | z <;> cases z
    · rcases key _ (PySem.mem_of_lookup (show gsc.names.lookup x = _ from h)) with z | z <;> cases z
  refine ⟨⟨pl.mod, (by show gsc.kind = _; decide +kernel), rfl, rfl, (by show (cut s.heap L).objs.size ≤ L; rw [cz]; exact Nat.le_refl _), fun x y c e => (nc x c e).elim, fun x h => (kc x h).elim, fun x c _ e => (nc x c e).elim, fun _ => pl.hd, Around.frames_deeper pl.fr, .inr ⟨rfl, rfl⟩, (fun b z => (nomatch z)), fun b o e => ⟨?_, ?_⟩, (by show base.objs.size ≤ (cut s.heap L).objs.size; rw [cz]; exact pl.bz), (fun b o e z => (nomatch z)), (fun b z => (nomatch z)), cut_funs ft.funs pl.ol, fun b hb => ?_⟩, rfl, ft.bare, Un.kept fun b o e => (cut_lt e).2, ?_, fun x c e => (nc x c e).elim, ?_, fun x c e => (nc x c e).elim, (fun p hp => (nomatch hp)), allH_hok ft.hok, hσ⟩
  · show (cut s.heap L).get? b = some o
    rw [cut_get (hb b o e)]
    exact ft.bs b o e
  · exact (allH_old (hb b o e)).trans (gh.b b o e)
  · exact (allH_old (pl.ol b hb)).trans (gh.f b hb)
  · obtain ⟨m, hn, q⟩ := lo
    exact ⟨m, hn, fun i x v h1 h2 h3 => let ⟨u, r, hk, hm⟩ := q i x v h1 h2 h3; ⟨u, r, .inl ⟨hk, hm⟩⟩⟩
  · exact allH_pn (List.mem_map.mpr ⟨_, hL, rfl⟩) (gh.p _ hL)
theorem gx_loc {pins : List (Addr × Obj)} {H₀ : Hp} {s₀ : Shared} (I : Inv (gx P w K mg base A outer L cd s₀ H₀) pins σ H s) : LocO K L cd σ s.heap := by
  obtain ⟨m, hn, q⟩ := I.loc
  refine ⟨m, hn, fun i x v h1 h2 h3 => ?_⟩
  obtain ⟨u, r, l⟩ := q i x v h1 h2 h3
  rcases l with ⟨hk, hm⟩ | ⟨_, c, e, _⟩
  · exact ⟨u, r, hk, hm⟩
  · have e : (gEnv K L cd).cells.lookup x = some c := e
    rw [gEnv_cells] at e
    cases e
/-- what a stretch has left as it was -/
theorem gx_post {pins : List (Addr × Obj)} (pl : GPl K mg base A outer L) (ft : Fit P w base outer pn HT s) (gh : GHt base outer L pn HT) (I : Inv (gx P w K mg base A outer L cd s (allH HT pn L s.heap)) pins σ H s') (e : Ex (allH HT pn L s.heap) H) (hg : s'.gens = s.gens) :
    Post outer pn HT s s' := by
  refine ⟨I.os, hg, fun b o eb hp hn hf => ?_, fun b o eb hf => ?_⟩
  · by_cases hb : b < L
    · exact I.base.keep b o (by show (cut s.heap L).get? b = some o; rw [cut_get hb]; exact eb) ((allH_old hb).trans hn) hf (fun z => nomatch z)
    · have h1 := e b _ (allH_new (Nat.not_lt.mp hb) hp hn eb)
      obtain ⟨h2, _⟩ := (show ObjOk P w H s'.heap b (.ext _) from I.hok b _ h1)
      exact h2
  · have hb := pl.ol b hf
    exact I.base.slot b o (by show (cut s.heap L).get? b = some o; rw [cut_get hb]; exact eb) ((allH_old hb).trans (gh.f b hf)) hf (fun z => nomatch z)
/-- what is told at a stretch's end and was not at its start has come meanwhile -/
theorem gx_new {pins : List (Addr × Obj)} {b : Addr} {u : HO} (gh : GHt base outer L pn HT) (I : Inv (gx P w K mg base A outer L cd s (allH HT pn L s.heap)) pins σ H s') (e : Ex (allH HT pn L s.heap) H) (hb : H b = some u) (hx : ∀ φ, u ≠ .ext φ) (hp : b ∉ pn.map (·.1)) (hn : HT b = none) : s.heap.get? b = none := by
  cases eo : s.heap.get? b with
  | none => rfl
  | some o =>
    exfalso
    by_cases hl : b < L
    · have := I.base.free b o (by show (cut s.heap L).get? b = some o; rw [cut_get hl]; exact eo) ((allH_old hl).trans hn) (fun z => nomatch z)
      rw [this] at hb
      cases hb
    · have h1 := e b _ (allH_new (Nat.not_lt.mp hl) hp hn eo)
      rw [h1] at hb
      cases hb
      exact hx _ rfl
end
end LdP
/-! # LdN5 -/
/-! all_dates: its loop. -/
namespace LdP
open PySem PySem.Spec PyProof.Rows L2 Evl
def nilE : Expr := .Constant .none 0 ⟨0, 0, 0, 0⟩
def forTg : Stmt → Expr | .For t _ _ _ _ => t | _ => nilE
def forIt : Stmt → Expr | .For _ i _ _ _ => i | _ => nilE
def forBody : Stmt → List Stmt | .For _ _ b _ _ => b | _ => []
def ifTest : Stmt → Expr | .If t _ _ _ => t | _ => nilE
def ifBody : Stmt → List Stmt | .If _ b _ _ => b | _ => []
def yldE : Stmt → Expr | .Expr (.Yield (some e) _) _ => e | _ => nilE
abbrev adSt (i : Nat) : Stmt := (defBody s_alldates).getD i (.Pass ⟨0, 0, 0, 0⟩)
abbrev adTg : Expr := forTg (adSt 4)
abbrev adBody : List Stmt := forBody (adSt 4)
abbrev adS1 : Stmt := adBody.getD 1 (.Pass ⟨0, 0, 0, 0⟩)
abbrev adY : Expr := yldE ((ifBody adS1).getD 0 (.Pass ⟨0, 0, 0, 0⟩))
theorem ad_nd : n_alldates.Nodup := by decide +kernel
def PhiR (P : Program) (w : World) (base : Heap) (outer : List Env) (L : Addr) (A : Around) (R : List (Ld.Dt Str)) (pn : List (Addr × Obj)) (HT : Hp) (s : Shared) : End → Shared → Prop :=
  match R with
  | [] => SEnd P w outer pn HT s
  | d :: r => SItem P w outer L (Slept P w base outer L A r) d pn HT s
theorem slept_of {P : Program} {w : World} {base : Heap} {outer : List Env} {L : Addr} {A : Around} {R : List (Ld.Dt Str)} {gs : GenState} {pn : List (Addr × Obj)} {HT : Hp} (h : ∀ s, Fit P w base outer pn HT s → Wk (model P w) A (PhiR P w base outer L A R pn HT s) gs s) : Slept P w base outer L A R gs pn HT := by
  cases R with
  | nil => unfold Slept; exact h
  | cons d r => unfold Slept; exact h
theorem slept_to {P : Program} {w : World} {base : Heap} {outer : List Env} {L : Addr} {A : Around} {R : List (Ld.Dt Str)} {gs : GenState} {pn : List (Addr × Obj)} {HT : Hp} (h : Slept P w base outer L A R gs pn HT) : ∀ s, Fit P w base outer pn HT s → Wk (model P w) A (PhiR P w base outer L A R pn HT s) gs s := by
  cases R with
  | nil => unfold Slept at h; exact h
  | cons d r => unfold Slept at h; exact h
theorem ht_hok {P : Program} {w : World} {HT H : Hp} {h₀ h : Heap} (x₀ : HOk P w HT h₀) (kd : Kd HT) (e : Ex HT H) (x : HOk P w H h) : HOk P w HT h := fun b u eb => by
  refine stay2 (x b u (e b u eb)) (kd b u eb) (fun _ z => z) fun C dx fs eu => ⟨?_, fun _ z => z⟩
  subst eu
  exact (show ObjOk P w HT h₀ b (.ins C dx fs) from x₀ b _ eb).1
theorem flt_get {H : Hp} {l : List Addr} {b : Addr} {u : HO} (hb : H b = some u) (hl : b ∉ l) (h : (∃ xs, u = .lst xs) ∨ (∃ xs, u = .tup xs) ∨ ∃ C dx fs, u = .ins C dx fs) : LdP.flt (rm H l) b = some u := by
  unfold LdP.flt rm
  rw [if_neg hl, hb]
  rcases h with ⟨xs, rfl⟩ | ⟨xs, rfl⟩ | ⟨C, dx, fs, rfl⟩ <;> rfl
theorem not_y {H : Hp} {y b : Addr} {u o : HO} (hb : H b = some u) (hy : H y = some o) (h : u ≠ o) : b ∉ [y] := fun m => by
  rw [List.mem_singleton.mp m, hy] at hb
  cases hb
  exact h rfl
theorem CalAt.flt {K : PySem.W.Frag} {H : Hp} {a : Addr} {l : List Addr} {sl : List Str} {cs : List Cl} (h : CalAt K H a sl cs) (hl : ∀ b u, H b = some u → ((∃ xs, u = .lst xs) ∨ (∃ xs, u = .tup xs) ∨ ∃ C dx fs, u = .ins C dx fs) → b ∉ l) : CalAt K (LdP.flt (rm H l)) a sl cs := by
  have key : ∀ b u, H b = some u → ((∃ xs, u = .lst xs) ∨ (∃ xs, u = .tup xs) ∨ ∃ C dx fs, u = .ins C dx fs) → LdP.flt (rm H l) b = some u := fun b u hb h3 => flt_get hb (hl b u hb h3) h3
  obtain ⟨dx, m, c, h1, h2, ts, h3, h4⟩ := h
  refine ⟨dx, m, c, key _ _ h1 (.inr (.inr ⟨_, _, _, rfl⟩)), key _ _ h2 (.inl ⟨_, rfl⟩), ts, key _ _ h3 (.inl ⟨_, rfl⟩), ?_⟩
  exact Paired.mapP h4 fun p q hpq => key _ _ hpq (.inr (.inl ⟨_, rfl⟩))
section
variable {P : Program} {w : World} {K : PySem.W.Frag} {mg : Str → Option Value} {base : Heap} {A : Around} {outer : List Env} {L : Addr} {cd : Value}
/-- in the loop, ahead of the turn j -/
structure LpS (P : Program) (w : World) (K : PySem.W.Frag) (mg : Str → Option Value) (base : Heap) (A : Around) (outer : List Env) (L : Addr) (cd : Value) (a mp p it : Addr) (e l : Int) (sl : List Str) (cs : List Cl) (as : List Addr) (j : Nat)
    (pn : List (Addr × Obj)) (HT : Hp) (s₀ : Shared) (σ : L2.St) (H : Hp) (s : Shared) : Prop where
  I : Inv (gx P w K mg base A outer L cd s₀ (allH HT pn L s₀.heap)) [] σ H s
  ex : Ex (allH HT pn L s₀.heap) H
  g : s.gens = s₀.gens
  st : s.heap.IsListIter it p j
  fp : FpOk (gx P w K mg base A outer L cd s₀ (allH HT pn L s₀.heap)) [] H it
  itn : it ∈ pn.map (·.1) ∨ s₀.heap.get? it = none
  pnl : ∀ q ∈ pn, q.1 = L ∨ q.1 = it
  cal : CalAt K H a sl cs
  mo : H mp = some (.lst (sl.map V.str))
  ds : H p = some (.lst (as.map V.ref))
  al : AllO obI H as (Ld.dayLs e l sl.length)
  sg : ∃ x4 x5 x6 x7, σ = [some (.ref a), some (.int e), some (.int l), some (.ref mp), x4, x5, x6, x7]
def outs (e l : Int) (sl : List Str) (cs : List Cl) (j : Nat) : List (Ld.Dt Str) := (((Ld.dayLs e l sl.length).drop j).map fun ds => sl.zip ds).filter (Ld.keeps cs)
theorem outs_next {e l : Int} {sl : List Str} {cs : List Cl} {j : Nat} {ds : List Int} (h : (Ld.dayLs e l sl.length)[j]? = some ds) : outs e l sl cs j = if Ld.keeps cs (sl.zip ds) = true then sl.zip ds :: outs e l sl cs (j + 1) else outs e l sl cs (j + 1) := by
  unfold outs
  obtain ⟨hj, e1⟩ := List.getElem?_eq_some_iff.mp h
  rw [List.drop_eq_getElem_cons hj, List.map_cons, List.filter_cons, e1]
theorem loop_sg (t : Tx K mg) (pl : GPl K mg base A outer L) (hr : Room 2 (A.deeper (gEnv K L cd))) {a mp p it : Addr} {e l : Int} {sl : List Str} {cs : List Cl} {as : List Addr} (hw : CalW sl cs) {fs : List Frame}
    (hov : A.over (.forLoop adTg (.ref it) adBody [] (gEnv K L cd)) fs = A.deeper (gEnv K L cd)) (hsp : splitAtGen fs = none) (hgu : fs.any Frame.guarded = false)
    (hend : ∀ (Φ : End → Shared → Prop) (s : Shared), Φ (.ret (.ok (.ret .none))) s → Sg (model P w) A Φ (.block [] (gEnv K L cd)) (leafOf (.ok .next)) fs s) :
    ∀ (m j : Nat), j + m = as.length → ∀ (pn : List (Addr × Obj)) (HT : Hp) (s₀ : Shared) (σ : L2.St) (H : Hp) (s : Shared), Fit P w base outer pn HT s₀ → GHt base outer L pn HT →
      LpS P w K mg base A outer L cd a mp p it e l sl cs as j pn HT s₀ σ H s →
      Sg (model P w) A (PhiR P w base outer L A (outs e l sl cs j) pn HT s₀) (.forLoop adTg (.ref it) adBody [] (gEnv K L cd)) ((model P w).den (.forLoop adTg (.ref it) adBody [] (gEnv K L cd))) fs s := by
  intro m
  induction m with
  | zero =>
    intro j hj pn HT s₀ σ H s ft gh h
    have hN : as.length = (Ld.dayLs e l sl.length).length := Paired.length h.al
    refine sg_turn ?_
    rw [hov]
    refine thn ((tg_list (P := P) (w := w) (K := K) (G := s₀.gens) (tg := adTg) p it).done (X := gx P w K mg base A outer L cd s₀ (allH HT pn L s₀.heap)) rfl h.I h.g (fun b hb => by rw [List.mem_singleton.mp hb]; exact h.fp) h.st ⟨_, sq_of h.ds, by rw [List.length_map]; omega⟩) fun r s1 ⟨g1, hr1, I1⟩ => ?_
    subst hr1
    refine hend _ _ ?_
    have eo : outs e l sl cs j = [] := by
      unfold outs
      rw [List.drop_eq_nil_of_le (by omega)]
      rfl
    rw [eo]
    exact ⟨rfl, rfl, gx_post pl ft gh I1 h.ex g1, ht_hok ft.hok gh.kd (allH_ht.trans h.ex) I1.hok⟩
  | succ m ih =>
    intro j hj pn HT s₀ σ H s ft gh h
    have hN : as.length = (Ld.dayLs e l sl.length).length := Paired.length h.al
    have hja : j < as.length := by omega
    obtain ⟨ds, hds, hal⟩ := paired_get h.al (List.getElem?_eq_getElem hja)
    have hlen : ds.length = sl.length := Ld.dayLs_len_mem _ _ (List.mem_of_getElem? hds)
    have hnd : sl.Nodup := (List.nodup_append.mp hw.nd).1
    have hja2 : (as.map V.ref)[j]? = some (.ref as[j]) := by rw [List.getElem?_map, List.getElem?_eq_getElem hja]; rfl
    have T := tg_list (P := P) (w := w) (K := K) (G := s₀.gens) (tg := adTg) p it
    obtain ⟨x4, x5, x6, x7, hσ⟩ := h.sg
    subst hσ
    refine sg_turn ?_
    rw [hov]
    refine thn (T.item (X := gx P w K mg base A outer L cd s₀ (allH HT pn L s₀.heap)) rfl h.I h.g (fun b hb => by rw [List.mem_singleton.mp hb]; exact h.fp) h.st ⟨_, _, sq_of h.ds, hja2⟩) fun r s1 ⟨u, hr1, h1⟩ => ?_
    subst hr1
    refine thn h1 fun _ s2 ⟨g2, x, H2, I2, r2, y2, st2, n2⟩ => ?_
    obtain ⟨eH, hx⟩ := y2
    subst eH
    have hxe : x = .ref as[j] := by
      have := hx _ (sq_of h.ds)
      rw [hja2] at this; exact (Option.some.inj this).symm
    subst hxe
    have I2' := I2.pinned (fp := [it]) (fun b hb => by rw [List.mem_singleton.mp hb]; exact h.fp) (T.t.obj _ _ st2)
    have gd : GG (gx P w K mg base A outer L cd s₀ (allH HT pn L s₀.heap)) s₀.gens adTg (gName 6) := gg_name ad_nd rfl (Or.inl rfl)
    refine gd.go (Q := fun σ' H' => σ' = [some (.ref a), some (.int e), some (.int l), some (.ref mp), x4, x5, some (.ref as[j]), x7] ∧ H' = H2) I2' g2 r2 ⟨rfl, rfl⟩ fun s3 σ3 H3 I3 g3 ⟨e3, e3'⟩ J => ?_
    subst e3 e3'
    -- found = dict(zip(moments, days))
    have g0 : GSt (gx P w K mg base A outer L cd s₀ (allH HT pn L s₀.heap)) s₀.gens (adBody.getD 0 (.Pass ⟨0, 0, 0, 0⟩)) (tAsg (tDZ (tVar 3) (tVar 6)) (gName 7)) :=
      gs_set (i := 7) ad_nd rfl (Or.inl rfl) (g_dz rfl rfl t.f_dict rfl t.f_zip (gv 3) (gv 6))
    refine sg_execs_cons (st := adBody.getD 0 (.Pass ⟨0, 0, 0, 0⟩)) (rest := adBody.drop 1) (sg_wrap ?_)
    rw [hov]
    refine g0.go (D := { nx := fun σ' H' => ∃ y, σ' = [some (.ref a), some (.int e), some (.int l), some (.ref mp), x4, x5, some (.ref as[j]), some (.ref y)] ∧ H3 y = none ∧ H' = upd H3 y (obD (sl.zip ds)), rt := fun _ _ => False }) I3 g3
      ⟨_, rfl, _, rfl, mp, as[j], sl, ds, rfl, h.mo, hal, hlen.symm, hnd, fun y hy => ⟨y, rfl, hy, rfl⟩⟩ fun f s4 q4 g4 => ?_
    cases f with
    | ret v => obtain ⟨_, _, _, _, _, z⟩ := q4; exact z.elim
    | brk => obtain ⟨_, _, _, z⟩ := q4; exact z.elim
    | cont => obtain ⟨_, _, _, z⟩ := q4; exact z.elim
    | next =>
    obtain ⟨σ4, H4, I4, y, e4, hy, e4'⟩ := q4
    subst e4 e4'
    have ex4 : Ex (allH HT pn L s₀.heap) (upd H3 y (obD (sl.zip ds))) := h.ex.trans (Ex.new hy)
    have exn : Ex H3 (upd H3 y (obD (sl.zip ds))) := Ex.new hy
    have cal4 := h.cal.ex exn
    obtain ⟨dx, m', c', ha4, hm4, hc4⟩ := id cal4
    -- if found in calendar
    have gt : GT (gx P w K mg base A outer L cd s₀ (allH HT pn L s₀.heap)) s₀.gens (ifTest adS1) (tB (tInO (He.ga K "Calendar") (spHas K) (tVar 7) (tVar 0))) := (gc_inO (t.m_Calendar_contains) (okg_CaHas (P := P) (w := w) (base := base) t) hr (gv 7) (gv 0)).gt rfl
    refine sg_execs_cons (sg_If ?_)
    rw [hov]
    refine gt.go (Q := fun b H' => b = Ld.keeps cs (sl.zip ds) ∧ Ex (upd H3 y (obD (sl.zip ds))) H') I4 g4 ?_ fun b s5 H5 I5 g5 ⟨eb, e5⟩ => ?_
    · refine ⟨_, rfl, _, rfl, a, dx, _, rfl, ha4, a, y, sl, cs, sl.zip ds, rfl, cal4, hw, upd_same, List.map_fst_zip (by omega), fun H' e' => ⟨_, rfl, _, rfl, rfl, e'⟩⟩
    have ex5 : Ex H3 H5 := exn.trans e5
    have hy5 : H5 y = some (obD (sl.zip ds)) := e5 _ _ upd_same
    have it5 : ∀ o, s2.heap.get? it = some o → s5.heap.get? it = some o ∧ H5 it = none := fun o eo =>
      have z := I5.pin (it, o) (List.mem_append_right _ (List.mem_append_right _ (mem_pinsAt (List.mem_singleton.mpr rfl) eo)))
      ⟨z.1, z.2.1⟩
    obtain ⟨oi, hoi, hoc⟩ := T.t.obj _ _ st2 it (List.mem_singleton.mpr rfl)
    have hit5 := (it5 oi hoi).2
    have st5 : s5.heap.IsListIter it p (j + 1) := T.t.keep _ _ _ st2 fun b hb o eo => by rw [List.mem_singleton.mp hb] at eo ⊢; exact (it5 o eo).1
    subst eb
    cases hk : Ld.keeps cs (sl.zip ds) with
    | false =>
      rw [if_neg Bool.false_ne_true]; refine sg_execs_nil (sg_execs_nil (sg_again rfl ?_))
      rw [outs_next hds, hk, if_neg Bool.false_ne_true]
      exact ih (j + 1) (by omega) pn HT s₀ _ H5 s5 ft gh ⟨I5.unpinned, h.ex.trans ex5, g5, st5, ⟨hit5, h.fp.2⟩, h.itn, h.pnl, h.cal.ex ex5, ex5 _ _ h.mo, ex5 _ _ h.ds, h.al.ex ex5, _, _, _, _, rfl⟩
    | true =>
      rw [if_pos rfl]
      refine sg_execs_cons (sg_yield hsp rfl hgu ?_ rfl rfl)
      rw [hov]
      have gy : GE (gx P w K mg base A outer L cd s₀ (allH HT pn L s₀.heap)) s₀.gens adY (tVar 7) := gv 7
      refine gy.go (Q := fun v H' => v = .ref y ∧ H' = H5) I5 g5 ⟨_, rfl, rfl, rfl⟩ fun v s6 x6 H6 I6 g6 r6 ⟨ev, eH6⟩ e0 hqz hres hwk => ?_
      subst ev eH6
      cases r6
      rw [outs_next hds, hk, if_pos rfl]
      have exH := h.ex.trans ex5
      have htH : Ex HT H6 := allH_ht.trans exH
      have hyT : HT y = none := by
        cases eT : HT y with
        | none => rfl
        | some u =>
          have := (allH_ht.trans h.ex) y u eT
          rw [hy] at this
          cases this
      have hLn : H6 L = none := I6.free
      have hyL : y ≠ L := fun z => by rw [z, hLn] at hy5; cases hy5
      have hyi : y ≠ it := fun z => by rw [z, hit5] at hy5; cases hy5
      have hiL : it ≠ L := h.fp.2.1
      obtain ⟨mL, ⟨oL, es, ep, hoL, hdL, _⟩, _⟩ := id I6.loc
      have hoL : s6.heap.get? L = some oL := hoL
      have hoi6 : s6.heap.get? it = some oi := (I6.pin (it, oi) (List.mem_append_right _ (List.mem_append_right _ (mem_pinsAt (List.mem_singleton.mpr rfl) hoi)))).1
      have subT : ∀ b u, flt (rm H6 [y]) b = some u → b ≠ y ∧ H6 b = some u := fun b u eb => by
        have e1 := flt_sub eb
        unfold rm at e1
        split at e1
        · cases e1
        · rename_i hm
          exact ⟨fun z => hm (List.mem_singleton.mpr z), e1⟩
      have nonT : ∀ b, H6 b = none → flt (rm H6 [y]) b = none := fun b hb => by
        cases eb : flt (rm H6 [y]) b with
        | none => rfl
        | some u => rw [(subT b u eb).2] at hb; cases hb
      have hLT := nonT L hLn
      have hiT := nonT it hit5
      have hyT' : flt (rm H6 [y]) y = none := by
        cases eb : flt (rm H6 [y]) y with
        | none => rfl
        | some u => exact absurd rfl (subT y u eb).1
      obtain ⟨oL0, hL0⟩ := id gh.l
      have pnH : ∀ q ∈ pn, H6 q.1 = none := fun q hqz => by
        rcases h.pnl q hqz with z | z
        · rw [z]; exact hLn
        · rw [z]; exact hit5
      have pnH' : ∀ b u, H6 b = some u → b ∉ pn.map (·.1) := fun b u hb hm => by
        obtain ⟨q, hqz, e1⟩ := List.mem_map.mp hm
        rw [← e1, pnH q hqz] at hb
        cases hb
      have I6' := I6.unpinned (pins := [])
      have exT : Ex HT (flt (rm H6 [y])) := flt_sup gh.own gh.kd fun b u eb => by
        unfold rm
        rw [if_neg fun m => by rw [List.mem_singleton.mp m, hyT] at eb; cases eb]
        exact htH b u eb
      have lt0 : L ≤ s₀.heap.objs.size := Nat.le_of_lt (Heap.lt_size (ft.pin _ hL0))
      have hLi : L ≤ it := by
        rcases h.fp.2.2.2.1 with z | z
        · exact nomatch z
        · have z : (cut s₀.heap L).objs.size ≤ it := z
          rw [cut_size lt0] at z
          exact z
      have pT : ∀ q ∈ [(L, oL), (it, oi)], L ≤ q.1 ∧ q.1 ≠ y ∧ flt (rm H6 [y]) q.1 = none ∧ s6.heap.get? q.1 = some q.2 ∧ (∀ v, q.2.data ≠ .cell v) ∧ (q.1 ∈ pn.map (·.1) ∨ s₀.heap.get? q.1 = none) := fun q hqz => by
        rcases List.mem_cons.mp hqz with e1 | hqz
        · subst e1
          exact ⟨Nat.le_refl _, Ne.symm hyL, hLT, hoL, (fun v z => by rw [hdL] at z; cases z), .inl (List.mem_map.mpr ⟨_, hL0, rfl⟩)⟩
        · rw [List.mem_singleton.mp hqz]
          exact ⟨hLi, Ne.symm hyi, hiT, hoi6, hoc, h.itn⟩
      have gh' : GHt base outer L [(L, oL), (it, oi)] (flt (rm H6 [y])) := ⟨fun b o eb => nonT b (I6.bs b o eb).2, fun b hb => nonT b (I6.stkFree b (by
          show b ∈ frs (gEnv K L cd :: outer)
          unfold frs at hb ⊢
          rw [List.filterMap_cons]
          exact List.mem_cons_of_mem _ hb)), fun q hqz => (pT q hqz).2.2.1, ⟨oL, List.mem_cons_self⟩, flt_own _, flt_kd _⟩
      refine ⟨hqz, y, [(L, oL), (it, oi)], flt (rm H6 [y]), hres, gx_post pl ft gh I6' exH g6, flt_hok (rm_hok I6.hok fun b hb => .inr (.inl ⟨kvD (sl.zip ds), by rw [List.mem_singleton.mp hb]; exact hy5⟩)), ?_, gx_new gh I6' exH hy5 (fun _ z => nomatch z) (pnH' y _ hy5) hyT, hyT', pT, exT, fun b u eb => ?_, flt_own _, flt_kd _, slept_of fun s'' ft'' => hwk _ s'' (sg_execs_nil (sg_execs_nil (sg_again rfl ?_)))⟩
      · exact stay2 (H := H6) (I6.hok y _ hy5) (.inr (.inr (.inl ⟨_, rfl⟩))) (fun _ z => z) fun _ _ _ z => nomatch z
      · cases eT : HT b with
        | some u' => exact .inl (by rw [← exT b u' eT, eb])
        | none =>
          obtain ⟨_, hb⟩ := subT b u eb
          refine .inr (gx_new gh I6' exH hb (fun φ z => ?_) (pnH' b _ hb) eT)
          subst z
          rcases flt_kd _ b _ eb with ⟨_, z⟩ | ⟨_, z⟩ | ⟨_, z⟩ | ⟨_, _, _, z⟩ | ⟨_, z⟩ <;> cases z
      · have eL'' := ft''.pin (L, oL) List.mem_cons_self
        have ei'' := ft''.pin (it, oi) (List.mem_cons_of_mem _ (List.mem_singleton.mpr rfl))
        have lo := (gx_loc I6').at (h' := s''.heap) fun o eo => by rw [hoL] at eo; cases eo; exact eL''
        have lt2 : L ≤ s''.heap.objs.size := Nat.le_of_lt (Heap.lt_size eL'')
        have mi : it ∈ [(L, oL), (it, oi)].map (·.1) := List.mem_cons_of_mem _ (List.mem_singleton.mpr rfl)
        have ny : ∀ b u, H6 b = some u → ((∃ xs, u = .lst xs) ∨ (∃ xs, u = .tup xs) ∨ ∃ C dx fs, u = .ins C dx fs) → b ∉ [y] := fun b u hb hu => not_y hb hy5 fun z => by
          subst z
          rcases hu with ⟨_, z⟩ | ⟨_, z⟩ | ⟨_, _, _, z⟩ <;> cases z
        have getT : ∀ b xs, H6 b = some (.lst xs) → allH (flt (rm H6 [y])) [(L, oL), (it, oi)] L s''.heap b = some (.lst xs) := fun b xs hb => allH_ht _ _ (flt_get hb (ny _ _ hb (.inl ⟨_, rfl⟩)) (.inl ⟨_, rfl⟩))
        refine ih (j + 1) (by omega) _ _ s'' _ _ s'' ft'' gh' ⟨gx_inv pl ft'' gh' lo rfl, Ex.refl _, rfl, T.t.keep _ _ _ st2 fun b hb o eo => ?_, ⟨allH_pn mi hiT, hiL, h.fp.2.2.1, .inr ?_, (fun x c ec => by rw [gEnv_cells] at ec; cases ec), (fun q hqz => (nomatch hqz))⟩, .inl mi, fun q hqz => ?_, (CalAt.flt (h.cal.ex ex5) ny).ex allH_ht, getT _ _ (ex5 _ _ h.mo), getT _ _ (ex5 _ _ h.ds), Paired.mapP (h.al.ex ex5) fun b x hb => getT _ _ hb, _, _, _, _, rfl⟩
        · rw [List.mem_singleton.mp hb] at eo ⊢
          rw [hoi] at eo
          cases eo
          exact ei''
        · show (cut s''.heap L).objs.size ≤ it
          rw [cut_size lt2]
          exact hLi
        · rcases List.mem_cons.mp hqz with e1 | hqz
          · exact .inl (by rw [e1])
          · exact .inr (by rw [List.mem_singleton.mp hqz])
end
end LdP
/-! # LdN6 -/
/-! all_dates: from its start. -/
namespace LdP
open PySem PySem.Spec PyProof.Rows L2 Evl
theorem execs_app_wrap {env : Env} {K : Flow → Sem PySem.Fin} {J : Value → Sem PySem.Fin} {gd : Bool → Bool} {lv : List Value → List Value} (rest : List Stmt) : ∀ pre : List Stmt,
    (execs (pre ++ rest) env).wrap K J gd lv = (execs pre env).wrap (fun f => match f with | .next => (execs rest env).wrap K J gd lv | f => K f) J gd lv
  | [] => rfl
  | st :: pre => by
    rw [List.cons_append, execs_cons_wrap, execs_cons_wrap, execs_app_wrap rest pre]
    exact Sem.wrap_congr _ _ _ (fun f => by cases f <;> rfl) fun _ => rfl
section
variable {X : Cx} {G : Array GenState}
theorem gs_par {i j : Nat} {x y : Str} {a b : Expr} {ta : TA} {px py pt pos : Pos} {kt k2 pt2} (hc : X.calm = true) (hN : X.N.Nodup) (hi : X.N[i]? = some x) (hj : X.N[j]? = some y) (hij : i ≠ j)
    (hx : X.env.scope.names.lookup x = some .local) (hy : X.env.scope.names.lookup y = some .local) (ha : GA X G [a, b] ta)
    (hw : swappedStores [.Tuple [.Name x px, .Name y py] kt pt] (.Tuple [a, b] k2 pt2) X.env = pure (some [x, y])) (hs : swapsWithSole [.Tuple [.Name x px, .Name y py] kt pt] (.Tuple [a, b] k2 pt2) pos.line X.env = pure false := by rfl) :
    GSt X G (.Assign [.Tuple [.Name x px, .Name y py] kt pt] (.Tuple [a, b] k2 pt2) pos) (tPar i j ta) := by
  refine ⟨ps_par hc hN hi hj hij hx hy ha.p hw hs, fun pinsz s σz H D Iz hg h => ?_⟩
  rw [exec_Assign_arm]
  refine wpAny_bind (wpAny_standAt ?_); rw [hs]
  refine wpAny_bind (wpAny_pure ?_); rw [if_neg (by decide)]
  refine wpAny_bind (Tuple_ (ha.go Iz hg h fun us s1z vs H1z I1z g1 r1 ⟨vz, w, e1, _⟩ => ?_))
  subst e1
  obtain ⟨u1z, u2z, rfl, rv, rw'⟩ := vals2 r1
  refine wpAny_newObj_type ?_ (by show 2 ≤ sizeLine; decide); rw [hw]
  refine wpAny_bind (wpAny_pure ?_); show wpAny (model X.prog X.w) X.A (do rule "assign.swapped-stores"; let items ← unpackItems (.ref s1z.heap.objs.size) 2 none; assignInOrder [fun vz => bindName X.env y vz, fun vz => bindName X.env x vz] items.reverse; pure Flow.next) _ _ _
  have I2z : Inv X pinsz σz H1z { s1z with heap := s1z.heap.push { cls := .type "tuple", data := .seq [u1z, u2z].toArray } } := I1z.kept (t' := s1z.toks) fun b oz ez => Heap.get?_push_of_some _ ez
  refine wpAny_bind (wpAny_rule (wpAny_bind (unpackItems_tuple (items := #[u1z, u2z]) (Iz.ok.hd hc) (IsTup.new s1z.heap _) fun h'z hx'z => ?_)))
  have I3z := I2z.kept (h' := h'z) (t' := s1z.toks) fun b oz ez => hx'z b oz (Nat.ne_of_lt (Heap.lt_size ez)) ez
  have g3 : ({ s1z with heap := h'z } : Shared).gens = G := g1
  show wpAny _ _ (assignInOrder [fun vz => bindName X.env y vz, fun vz => bindName X.env x vz] [u2z, u1z] >>= fun _ => pure Flow.next) _ _ _
  refine wpAny_bind (assignInOrder_cons (wpAny_bindName ?_))
  have st := both (store_ok (M := model X.prog X.w) (A := X.A) (E := TT0) (Q := fun _ s' => Inv X pinsz (σz.set j (some w)) H1z s') I3z hN hj (.inl hy) rw' (fun s2 I4 => I4) (.inr hy)) (st_gens (M := model X.prog X.w) (A := X.A) (v := w) (u := u2z) I3z g3 hj (.inl hy))
  refine wpAny_mono st (fun _ s2 ⟨I4, g4⟩ => ?_) fun _ _ z => z.2
  exact assignInOrder_cons (wpAny_bindName (wpAny_mono (st_gens (v := vz) (u := u1z) I4 g4 hi (.inl hx)) (fun _ s3 g5 => assignInOrder_nil (wpAny_pure g5)) fun _ _ z => z))
end
theorem q_par {i j : Nat} {ta : TA} {tz : TS} {D : Ends} {σ : L2.St} {H : Hp} {R : List V → Hp → Prop} (h : EvAR ta σ H R) (k : ∀ vs H1, Ex H H1 → R vs H1 → ∃ v w, vs = [v, w] ∧ tz D ((σ.set i (some v)).set j (some w)) H1) : tSeq (tPar i j ta) tz D σ H := h H (Ex.refl H) _ k
theorem pow_step {d : Int} {k : Nat} {n : Nat} (h0 : 0 ≤ d) (hd : d.toNat = n) (h : n ^ (k + 1) ≤ 4096) : d ^ k * d = d ^ (k + 1) ∧ d ^ (k + 1) ≤ 4096 ∧ 0 ≤ d ^ (k + 1) := by
  have e : d = (n : Nat) := by omega
  refine ⟨(Int.pow_succ d k).symm, ?_, ?_⟩
  · rw [e, ← Int.natCast_pow]
    exact Int.ofNat_le.mpr h
  · exact Int.pow_nonneg h0
abbrev adIt : Expr := forIt (adSt 4)
abbrev adBd : List Stmt := defBody s_alldates
section
variable {P : Program} {w : World} {K : PySem.W.Frag} {mg : Str → Option Value} {base : Heap} {A : Around} {outer : List Env} {L : Addr} {cd : Value}
theorem fresh_slept (t : Tx K mg) (pl : GPl K mg base A outer L) (hr : Room 2 (A.deeper (gEnv K L cd))) {a : Addr} {e l : Int} {sl : List Str} {cs : List Cl} {oL : Obj} {HT : Hp} (hw : CalW sl cs) (hb : -1000 ≤ e ∧ e ≤ l ∧ l ≤ 1000) (hz : ∀ k, k ≤ sl.length → (l + 1 - e).toNat ^ k ≤ 4096)
    (cal : CalAt K HT a sl cs) (gh : GHt base outer L [(L, oL)] HT) (lo : ∀ h : Heap, h.get? L = some oL → LocO K L cd (start n_alldates [.ref a, .int e, .int l]) h) :
    Slept P w base outer L A ((Ld.allD e l sl).filter (Ld.keeps cs)) (.fresh (.func adBd (gEnv K L cd))) [(L, oL)] HT := by
  have eo : (Ld.allD e l sl).filter (Ld.keeps cs) = outs e l sl cs 0 := by
    unfold outs
    rw [Ld.allD_zip e l sl.length sl rfl, List.drop_zero]
  rw [eo]
  refine slept_of fun s ft => ?_
  show Sg (model P w) A _ (.func adBd (gEnv K L cd)) ((model P w).den (.func adBd (gEnv K L cd))) [] s
  have eL := ft.pin _ List.mem_cons_self
  have lt0 : L < s.heap.objs.size := Heap.lt_size eL
  have I := gx_inv (P := P) (w := w) (cd := cd) pl ft gh (lo _ eL) rfl
  have hov0 : ∀ body, A.over (.func body (gEnv K L cd)) [] = A.deeper (gEnv K L cd) := fun _ => GenW.over_func
  obtain ⟨uM, hMD⟩ := t.k_MOSTDATES
  have G1 : OkG P w K mg base 2 _ _ _ := (okg_isinteger (P := P) (w := w) (base := base) t).mono (by decide)
  have G2 : OkG P w K mg base 2 _ _ _ := (okg_Camoments (P := P) (w := w) (base := base) t).mono (by decide)
  have G3 : OkG P w K mg base 2 _ _ _ := (okg_daylists (P := P) (w := w) (base := base) t).mono (by decide)
  refine sg_func fun J => ?_
  rw [show adBd = adBd.take 4 ++ [adSt 4] from by rfl]
  rw [execs_app_wrap]
  refine sg_wrap ?_
  rw [hov0]
  generalize hH0 : allH HT [(L, oL)] L s.heap = H0 at I
  have pre : ∃ tt, GSt' (gx P w K mg base A outer L cd s H0) s.gens (adBd.take 4) tt ∧ tt { nx := fun σ' H' => Ex H0 H' ∧ ∃ (mp : Addr) (x4 x5 : Option V), σ' = [some (.ref a), some (.int e), some (.int l), some (.ref mp), x4, x5, none, none] ∧ H' mp = some (.lst (sl.map V.str)), rt := fun _ _ => False } (start n_alldates [.ref a, .int e, .int l]) H0 := by
    refine ⟨_, gss_cons' (gs_if (gt_not (gt_val (g_fn G1 hr t.g_isinteger (ga_cons (gv 1) ga_nil)))) gss_nev gss_nil')
      (gss_cons' (gs_if (GW.gt (gw_or (gt_not (gt_val (g_fn G1 hr t.g_isinteger (ga_cons (gv 2) ga_nil)))) (gw_or1 (gt_cmpR op_lt og_lt (gv 2) (gv 1) (nomark _))))) gss_nev gss_nil')
      (gss_cons' (gs_par (i := 3) (j := 4) rfl ad_nd rfl rfl (by decide) rfl rfl (ga_cons (g_md0 (gv 0) t.c_Calendar t.m_Calendar_moments G2 hr) (ga_cons g_int ga_nil)) (by rfl))
      (gss_one (gs_for PassesOwn.never rfl (gi_list (gv 3)) (gg_name (i := 5) ad_nd rfl (Or.inl rfl))
        (gss_cons' (gs_set (i := 4) ad_nd rfl (Or.inl rfl) (g_op op_mul og_mul (gv 4) (g_op op_add og_add (g_op op_sub og_sub (gv 2) (gv 1)) g_int)))
          (gss_one (gs_if (gt_cmpR op_gt og_gt (gv 4) (g_glob (v := .int 4096) rfl hMD ⟨_, rfl⟩) (nomark _)) gss_nev gss_nil'))))))), ?_⟩
    have cal0 : CalAt K H0 a sl cs := cal.ex (by rw [← hH0]; exact allH_ht)
    obtain ⟨dx, m, c, ha, hm, hc⟩ := id cal0
    refine q_when (b := false) (et_is (et_not (et_B (ev_call (ea_cons (ev_var rfl) ea_nil) sv_isinteger))) rfl) (fun e => nomatch e) (fun _ H1 e1 => ?_)
    refine q_when (b := false) (et_is (et_or (et_not (et_B (ev_call (ea_cons (ev_var rfl) ea_nil) sv_isinteger))) fun _ => et_test (ev_op (ev_var rfl) (ev_var rfl) (rv_I0 (g := fun i j => .bl (decide (i < j)))))) ?_) (fun e => nomatch e) (fun _ H2 e2 => ?_)
    · show (!true || decide (l < e)) = false
      rw [Bool.not_true, Bool.false_or]; exact decide_eq_false (by omega)
    have key : EvAR (tCons (tMeth (He.ga K "Calendar") "moments" (spMoments K) [] E0 (tVar 0) tNil) (tCons (tC (.int 1)) tNil)) (start n_alldates [.ref a, .int e, .int l]) H2 (fun vs H' => ∃ mp : Addr, vs = [.ref mp, .int 1] ∧ H' mp = some (.lst (sl.map V.str))) :=
      ear_consN (en_L (el_meth (ev_var rfl) ((e1.trans e2) _ _ ha) (caF_no _ _ (by decide +kernel) (by decide +kernel)) ea_nil (sl_moments (cal0.ex (e1.trans e2))))) fun mp H3 e3 hmp =>
        ear_cons ev_c fun H4 e4 => ear_nil fun H5 e5 => ⟨mp, rfl, (e4.trans e5) _ _ hmp⟩
    refine q_par key fun vs H3 e3 ⟨mp, ev, hmp⟩ => ?_
    subst ev
    refine ⟨_, _, rfl, s_forL (ev_var rfl) (sq_of hmp) (fun i σ' H' => Ex H3 H' ∧ ∃ x5 : Option V, σ' = [some (.ref a), some (.int e), some (.int l), some (.ref mp), some (.int ((l - e + 1) ^ i)), x5, none, none]) (fun H4 e4 => ⟨e4, none, by rw [Int.pow_zero]; rfl⟩) (fun i σ' H' _ h => sq_of (h.1 _ _ hmp)) ?_ ?_⟩
    · rintro i x σ' H' hx ⟨e4, x5, rfl⟩
      have hi : i < sl.length := by
        obtain ⟨h1, _⟩ := List.getElem?_eq_some_iff.mp hx
        rw [List.length_map] at h1
        exact h1
      obtain ⟨p1, p2, p3⟩ := pow_step (d := l - e + 1) (k := i) (n := (l + 1 - e).toNat) (by omega) (by omega) (hz (i + 1) (by omega))
      have p0 : 0 ≤ (l - e + 1) ^ i := Int.pow_nonneg (by omega)
      refine q_asg (ev_op (ev_var rfl) (ev_op (ev_op (ev_var rfl) (ev_var rfl) (rv_I0 (g := fun i j => .int (i - j)))) ev_c (rv_I0 (g := fun i j => .int (i + j)))) (rv_I (g := fun i j => .int (i * j)) (.inr ⟨by omega, by omega⟩))) fun H5 e5 => ?_
      rw [p1]
      refine s_when (b := false) (et_is (et_test (ev_op (ev_var rfl) ev_c (rv_I0 (g := fun i j => .bl (decide (j < i)))))) (decide_eq_false (by omega))) (fun e => nomatch e) fun _ H6 e6 => ⟨e4.trans (e5.trans e6), _, rfl⟩
    · rintro σ' H' ⟨e4, x5, rfl⟩
      exact ⟨(e1.trans e2).trans (e3.trans e4), mp, _, x5, rfl, e4 _ _ hmp⟩
  obtain ⟨tt, hp, hq⟩ := pre
  refine hp.go I rfl hq fun f s1 q1 g1 => ?_
  cases f with
  | ret v => obtain ⟨_, _, _, _, _, z⟩ := q1; exact z.elim
  | brk => obtain ⟨_, _, _, z⟩ := q1; exact z.elim
  | cont => obtain ⟨_, _, _, z⟩ := q1; exact z.elim
  | next =>
  obtain ⟨σ1, H1, I1, e1, mp, x4, x5, hσ, hmp⟩ := q1
  subst hσ
  have ge : GE (gx P w K mg base A outer L cd s H0) s.gens adIt (tCall spDayL [] E0 (tCons (tCB (fun xs H Q => ∃ p ys, xs = [V.ref p] ∧ (SqL K H p ys ∨ SqT K H p ys) ∧ Q (.int ys.length) H) (tCons (tVar 3) tNil)) (tCons (tVar 1) (tCons (tVar 2) tNil)))) :=
    g_fn G3 hr t.g_daylists (ga_cons (g_callB call_len_seq cg_len (by rfl) t.f_len boot_len' (ga_cons (gv 3) ga_nil)) (ga_cons (gv 1) (ga_cons (gv 2) ga_nil)))
  refine sg_execs_cons (st := adSt 4) (rest := []) (sg_For (tg := adTg) (iter := adIt) (body := adBody) (by intro _; rfl) ?_)
  rw [hov0]
  refine ge.go (Q := fun v H' => ∃ p, v = .ref p ∧ Ex H1 H' ∧ ListO obI H' p (Ld.dayLs e l sl.length)) I1 g1 ?_ fun v s2 x H2 I2 g2 r2 ⟨p, ex, e2, as, hp2, hal⟩ => ?_
  · have ka : EvA (tCons (tCB (fun xs H Q => ∃ p ys, xs = [V.ref p] ∧ (SqL K H p ys ∨ SqT K H p ys) ∧ Q (.int ys.length) H) (tCons (tVar 3) tNil)) (tCons (tVar 1) (tCons (tVar 2) tNil))) [some (.ref a), some (.int e), some (.int l), some (.ref mp), x4, x5, none, none] H1 [.int (sl.map V.str).length, .int e, .int l] :=
      ea_cons (ev_len (ev_var rfl) (sq_of hmp)) (ea_cons (ev_var rfl) (ea_cons (ev_var rfl) ea_nil))
    refine ka H1 (Ex.refl H1) _ fun H' e' => ?_
    rw [List.length_map]
    exact ⟨sl.length, e, l, rfl, hw.len, ⟨by omega, by omega, by omega, by omega⟩, fun k hk => Nat.lt_of_le_of_lt (hz k hk) (by decide), fun p H'' hp' ex' hL => ⟨p, rfl, e'.trans ex', hL⟩⟩
  subst ex
  cases r2
  obtain ⟨its, rv, pL, hz'⟩ := I2.list (sq_of hp2)
  refine wpAny_pyIter_list pL.isList fun p' => ?_
  have I3 : Inv (gx P w K mg base A outer L cd s H0) [] _ H2 { s2 with heap := s2.heap.push { cls := .type "list_iterator", data := .fields #[.ref p, .int 0 0] } } := I2.kept (t' := s2.toks) fun b o e => Heap.get?_push_of_some _ e
  have hH2 : H2 s2.heap.objs.size = none := I2.hok.fresh (Nat.le_refl _)
  have exA : Ex (allH HT [(L, oL)] L s.heap) H2 := by rw [hH0]; exact e1.trans e2
  have ltL : L < s2.heap.objs.size := I2.lt
  rw [← hH0] at I3
  refine loop_sg t pl hr hw (mp := mp) (p := p) (it := s2.heap.objs.size) (a := a) (as := as) ((GenW.over_loop rfl rfl).trans (hov0 _)) rfl rfl (fun Φ s' h => sg_leaf (.ok .next) (sg_end (.ok (.ret .none)) h)) as.length 0 (by omega) _ _ s _ H2 _ ft gh ⟨I3, exA, g2, ⟨_, Heap.get?_push_size _ rfl, rfl, rfl⟩, ?_, .inr ?_, fun q hq => .inl (by rw [List.mem_singleton.mp hq]), ((cal.ex allH_ht).ex exA), e2 _ _ hmp, hp2, hal, _, _, _, _, rfl⟩
  · rw [hH0]
    exact I2.fpOk (Nat.le_refl _) hH2
  · have hA : allH HT [(L, oL)] L s.heap s2.heap.objs.size = none := by
      cases eA : allH HT [(L, oL)] L s.heap s2.heap.objs.size with
      | none => rfl
      | some u => rw [exA _ _ eA] at hH2; cases hH2
    cases eo : s.heap.get? s2.heap.objs.size with
    | none => rfl
    | some o =>
      have hT : HT s2.heap.objs.size = none := by
        cases eT : HT s2.heap.objs.size with
        | none => rfl
        | some u => rw [allH_ht _ _ eT] at hA; cases hA
      rw [allH_new (Nat.le_of_lt ltL) (fun m => by
        have : s2.heap.objs.size = L := by simpa using m
        exact absurd this (Nat.ne_of_gt ltL)) hT eo] at hA
      cases hA
end
end LdP
/-! # LdN7 -/
/-! Who wakes a generator: its own state behind a stretch. -/
namespace LdP
open PySem PySem.Spec PyProof.Rows L2 Evl
theorem objok_there {P : Program} {w : World} {H : Hp} {h : Heap} {a : Addr} : ∀ {o : HO}, ObjOk P w H h a o → ∃ ob, h.get? a = some ob
  | .lst _, x => let ⟨_, _, _, _, e⟩ := x; ⟨_, e⟩
  | .tup _, x => let ⟨_, _, _, o, e, _⟩ := x; ⟨o, e⟩
  | .dK _, x => let ⟨_, _, _, _, o, _, _, e, _⟩ := x; ⟨o, e⟩
  | .dT _, x => let ⟨_, _, _, _, o, _, _, e, _⟩ := x; ⟨o, e⟩
  | .set _ _, x => let ⟨o, _, _, _, e, _⟩ := x; ⟨o, e⟩
  | .ins _ _ _, x => let ⟨_, _, _, e, _⟩ := x; ⟨_, e⟩
  | .own _, x => x
  | .xd _, x => let ⟨_, ⟨o, _, _, e, _⟩, _⟩ := x; ⟨o, e⟩
  | .rng _ _, x => let ⟨_, _, _, e⟩ := x; ⟨_, e⟩
  | .frz o _, x => ⟨o, x.1⟩
  | .tbl _, x => ⟨_, x⟩
  | .met _ _, x => ⟨_, x⟩
  | .ext _, x => x.2.1
/-- what the generator tells, over what its consumer told -/
def mergeT (HT H : Hp) : Hp := fun b => match HT b with | some u => some u | none => H b
theorem mergeT_l {HT H : Hp} : Ex HT (mergeT HT H) := fun b u e => by unfold mergeT; rw [e]
theorem mergeT_r {HT H : Hp} {b : Addr} (e : HT b = none) : mergeT HT H b = H b := by unfold mergeT; rw [e]
section
variable {X : Cx} {pins pn pn' : List (Addr × Obj)} {σ : L2.St} {H H0 HT HT' : Hp} {s s' : Shared}
/-- behind a stretch: what was told stays true, what the generator tells comes to it -/
theorem merge_hok {outer : List Env} {P : Program} {w : World} (hok : HOk P w H s.heap) (hf : ∀ b ∈ frs outer, H b = none) (hpn : ∀ p ∈ pn, H p.1 = none) (po : Post outer pn HT s s') (eT : Ex HT H) (own : Own HT) (ok' : HOk P w HT' s'.heap) (kd' : Kd HT') (eTT : Ex HT HT')
    (e0 : Ex H H0) (h0 : ∀ b u, H0 b = some u → H b = some u ∨ ((∃ k, u = .dK k) ∧ ObjOk P w HT' s'.heap b u)) (new : ∀ b u, HT' b = some u → HT b = some u ∨ s.heap.get? b = none) : HOk P w (mergeT HT' H0) s'.heap ∧ Ex H (mergeT HT' H0) := by
  have ex : Ex H (mergeT HT' H0) := fun b u e => by
    cases eb : HT' b with
    | none => rw [mergeT_r eb]; exact e0 b u e
    | some v =>
      rw [mergeT_l b v eb]
      rcases new b v eb with z | z
      · rw [← eT b v z]; exact e
      · obtain ⟨o, eo⟩ := objok_there (hok b u e)
        rw [z] at eo
        cases eo
  refine ⟨fun b u e => ?_, ex⟩
  cases eb : HT' b with
  | some v =>
    rw [mergeT_l b v eb] at e
    cases e
    refine stay2 (ok' b _ eb) (kd' b _ eb) (fun _ z => z) fun C dx fs eu => ⟨?_, fun _ z => z⟩
    subst eu
    exact mergeT_l _ _ (show ObjOk P w HT' s'.heap b (.ins C dx fs) from ok' b _ eb).1
  | none =>
    rw [mergeT_r eb] at e
    have hT : HT b = none := by
      cases z : HT b with
      | none => rfl
      | some v => rw [eTT b v z] at eb; cases eb
    rcases h0 b u e with hb | ⟨⟨k, eu⟩, hb⟩
    · have np : ∀ c v, H c = some v → c ∉ pn.map (·.1) := fun c v hc hm => by
        obtain ⟨p, hp, e1⟩ := List.mem_map.mp hm
        rw [← e1, hpn p hp] at hc
        cases hc
      have nf : ∀ c v, H c = some v → c ∉ frs outer := fun c v hc hm => by rw [hf c hm] at hc; cases hc
      refine (hok b u hb).stay (fun c v hc q => ?_) (fun c hc => ex _ _ hc) fun c xs hc => ex _ _ hc
      rcases hc with e1 | hc
      · subst e1
        exact po.keep _ _ q (np _ _ hb) hT (nf _ _ hb)
      · refine po.keep _ _ q (np _ _ hc) ?_ (nf _ _ hc)
        cases z : HT c with
        | none => rfl
        | some v =>
          have := eT c v z
          rw [hc] at this
          cases this
          obtain ⟨C, fs, h1⟩ := own c b z
          rw [hT] at h1
          cases h1
    · subst eu
      exact stay2 hb (.inr (.inr (.inl ⟨_, rfl⟩))) (fun _ z => z) fun _ _ _ z => nomatch z
/-- the consumer's state behind a stretch -/
theorem step_inv {G' : Array GenState} {H' : Hp} (I : Inv X (pins ++ pn) σ H s) (low : ∀ p ∈ pn, X.s_0.heap.objs.size ≤ p.1) (dis : ∀ q ∈ X.pn ++ pins, ∀ p ∈ pn, q.1 ≠ p.1) (po : Post X.stack pn HT s s') (eT : Ex HT H)
    (there : ∀ b u, HT b = some u → ∃ o, s'.heap.get? b = some o) (ok' : HOk X.prog X.w H' s'.heap) (e' : Ex H H') (new : ∀ b o, s.heap.get? b = some o → H b = none → H' b = none) (hG : AllBare G') : Inv X pins σ H' { s' with gens := G' } := by
  have I0 : Inv X pins σ H s := I.unpinned
  have hpin : ∀ p ∈ pn, s.heap.get? p.1 = some p.2 ∧ H p.1 = none ∧ p.1 ≠ X.env.locals ∧ p.1 ∉ X.fs ∧ ∀ v, p.2.data ≠ .cell v := fun p hp => I.pin p (List.mem_append_right _ (List.mem_append_right _ hp))
  have hT : ∀ b, H b = none → HT b = none := fun b hb => by
    cases z : HT b with
    | none => rfl
    | some v => rw [eT b v z] at hb; cases hb
  refine I0.call' (s' := { s' with gens := G' }) (ch := pn.map (·.1)) po.os ⟨fun b o eb hb hf hp => po.keep b o eb hp (hT b hb) hf, fun b o eb hb hf hp => po.slot b o eb hf, fun b o eb hb hp => new b o eb hb, fun b o eb hp => ?_, fun b xs e => e' _ _ e, fun b o u e => e' _ _ e, fun b ps e => ⟨#[], by rw [e' _ _ e]; simp⟩⟩ ok' hG fun b hb => ?_
  · by_cases hf : b ∈ frs X.stack
    · obtain ⟨sl, e1⟩ := po.slot b o eb hf
      exact ⟨_, e1⟩
    · cases z : HT b with
      | none => exact ⟨o, po.keep b o eb hp z hf⟩
      | some u => exact there b u z
  · obtain ⟨p, hp, e1⟩ := List.mem_map.mp hb
    subst e1
    obtain ⟨h1, h2, h3, h4, h5⟩ := hpin p hp
    refine ⟨.inr (low p hp), h3, fun x c ec eq => ?_, fun q hq => dis q hq p hp⟩
    obtain ⟨v, o, ho, hd⟩ := I.cell x c ec
    rw [eq, h1] at ho
    cases ho
    exact h5 _ hd
end
end LdP
/-! # LdN8 -/
/-! all_dates called: a generator that has not begun. -/
namespace LdP
open PySem PySem.Spec PyProof.Rows L2 Evl
theorem gscope_ad : GScope n_alldates p_alldates gsc := ⟨by decide +kernel, by decide +kernel, by decide +kernel, by decide +kernel, by decide +kernel, by decide +kernel, by decide +kernel⟩
/-- what a call of it gives: oL its frame's names, go its own object -/
structure AMade (K : PySem.W.Frag) (a : Addr) (e l : Int) (cd : Value) (s s' : Shared) (oL go : Obj) (ga : Addr) : Prop where
  lt : s.heap.objs.size < ga
  fr : s'.heap.get? s.heap.objs.size = some oL
  ob : s'.heap.get? ga = some go
  frc : ∀ v, oL.data ≠ .cell v
  obc : ∀ v, go.data ≠ .cell v
  isg : ∀ h : Heap, h.get? ga = some go → h.IsGen ga s.gens.size
  gens : s'.gens = s.gens.push (.fresh (.func adBd (gEnv K s.heap.objs.size cd)))
  os : s'.os = s.os
  keep : ∀ b o, s.heap.get? b = some o → s'.heap.get? b = some o
  loc : ∀ h : Heap, h.get? s.heap.objs.size = some oL → LocO K s.heap.objs.size cd (start n_alldates [.ref a, .int e, .int l]) h
/-- the keywords in the law's order -/
theorem ad_kw {K : PySem.W.Frag} {fd : FuncData} (F : FunD K d_alldates.name d_alldates.qual d_alldates.params d_alldates.body d_alldates.scope [] [] (He.ga K "all_dates") fd) (s : Shared) (x y z : Value) :
    BindsTo s fd ⟨[], (["last", "first", "calendar"] : List Str).zip [z, y, x]⟩ (p_alldates.zip [x, y, z]) := by
  obtain ⟨ocz, odz, dVz, kVz, docz, pmz, anz, cdvz, ctz, oslz, rfl, lkz, hcdz, hDz, hKz⟩ := F.ex
  rcases hDz with ⟨_, rfl⟩ | ⟨ez, _⟩
  · exact .of_eq rfl
  · exact absurd rfl ez
theorem ad_pos {K : PySem.W.Frag} {fd : FuncData} (F : FunD K d_alldates.name d_alldates.qual d_alldates.params d_alldates.body d_alldates.scope [] [] (He.ga K "all_dates") fd) (s : Shared) (x y z : Value) :
    BindsTo s fd ⟨[x, y, z], []⟩ (p_alldates.zip [x, y, z]) :=
  F.bindsA (fun _ _ _ _ _ _ us hl => match us, hl with | [_, _, _], _ => rfl) s [x, y, z] rfl
section
variable {P : Program} {w : World} {K : PySem.W.Frag} {mg : Str → Option Value} {base : Heap} {A : Around} {outer : List Env} {s : Shared} {H : Hp} {a : Addr} {e l : Int} {args : Args} {us : List Value}
theorem call_ad (hr : Room 1 A) (e0 : Env0 P w K mg base A outer s H) {fd : FuncData} (F : FunD K d_alldates.name d_alldates.qual d_alldates.params d_alldates.body d_alldates.scope [] [] (He.ga K "all_dates") fd)
    (hb : BindsTo s fd args (p_alldates.zip us)) (r : Vals [.ref a, .int e, .int l] us) :
    codeAny (model P w) A (.call (.ref (He.ga K "all_dates")) args) (fun r s' => ∃ ga cd oL go, r = .ok (.ret (.ref ga)) ∧ AMade K a e l cd s s' oL go ga) s := by
  obtain ⟨ocz, odz, dVz, kVz, docz, pmz, anz, cdvz, ctz, oslz, rfl, lkz, hcdz, _, _⟩ := F.ex
  have KXz : K.In s.heap := e0.mod.kin.keeps fun bz oz e => (e0.bs bz oz e).1
  have limz : s.heap.NoLimit := e0.mod.nolimit.keeps fun bz oz e => (e0.bs bz oz e).1
  have hkind : ∀ y ∈ p_alldates.zip us, gsc.names.lookup y.1 = some .local ∨ (gsc.names.lookup y.1 = some .cell ∧ ((cellsFrom (s.heap.objs.size + 1) gsc.names []).lookup y.1).isSome = true) := fun ⟨n, v⟩ hy => by
    rcases gscope_ad.par n (List.of_mem_zip hy).1 with qz | qz
    · exact .inl qz
    · exact .inr ⟨qz, PySem.W.cellsFrom_some _ _ _ (.inl qz)⟩
  refine codeAny_call_generator (body := adBd) hr.depth (KXz _ _ lkz) rfl gscope_ad.co gscope_ad.gen rfl (PySem.W.codeRec_of KXz hcdz) (hb _ _ _ _ ?_)
  refine wpAny_newFunctionEnv_cells gscope_ad.kind hkind fun env he s1z xz => ?_
  subst he
  refine ⟨limz.keeps xz.toInCall.keep, ?_⟩
  have I1 := inv_startG (E := E0) gscope_ad hr.hd e0 rfl r xz
  obtain ⟨h1z, tkz, es1z, hk1z⟩ := xz.done
  have os1z : s1z.os = s.os := by rw [es1z]
  have gen1z : s1z.gens = s.gens := by rw [es1z]
  obtain ⟨m, hn, hq⟩ := I1.loc
  obtain ⟨oL, fes, ep, eL, hd⟩ := id hn
  have hL : s1z.heap.get? s.heap.objs.size = some oL := eL
  refine ⟨s1z.heap.objs.size, cdvz, oL, { cls := .type "generator", data := .fields #[.int s1z.gens.size 0, .str d_alldates.name s1z.toks, .str d_alldates.qual (s1z.toks + 1)] }, rfl, ?_⟩
  refine { lt := xz.toInCall.ns.lt, fr := Heap.get?_push_of_some _ hL, ob := Heap.get?_push_size _ rfl, frc := fun v qz => ?_, obc := fun v qz => (by cases qz), isg := fun h e => ⟨_, .str d_alldates.name s1z.toks, .str d_alldates.qual (s1z.toks + 1), e, rfl, ?_, rfl⟩, gens := ?_, os := os1z, keep := fun bz oz e => Heap.get?_push_of_some _ (xz.toInCall.keep bz oz e), loc := fun h e => ?_ }
  · rw [hd.1] at qz
    cases qz
  · show Data.fields #[.int s1z.gens.size 0, _, _] = _
    rw [gen1z]
  · show s1z.gens.push _ = _
    rw [gen1z]
    rfl
  · refine ⟨m, ⟨oL, fes, ep, e, hd⟩, fun i y v h1z h2 h3 => ?_⟩
    obtain ⟨u, r1, h⟩ := hq i y v h1z h2 h3
    have hl := gsc_loc h3
    rcases h with ⟨_, hm⟩ | ⟨hk | hk, _⟩
    · exact ⟨u, r1, hl, hm⟩
    · have hk : gsc.names.lookup y = _ := hk
      rw [hl] at hk
      cases hk
    · have hk : gsc.names.lookup y = _ := hk
      rw [hl] at hk
      cases hk
end
end LdP
/-! # LdN9 -/
/-! One step of all_dates, seen from outside. -/
namespace LdP
open PySem PySem.Spec PyProof.Rows L2 Evl
theorem Sg.imp' {M : Model} {A : Around} {Φ Φ' : End → Shared → Prop} {gs : GenState} {s : Shared} (h : Wk M A Φ gs s) (hi : ∀ e s, Φ e s → Φ' e s) : Wk M A Φ' gs s := by
  cases gs with
  | fresh c => exact Sg.imp h hi
  | suspended k l c p fs cl => exact Sg.imp h hi
  | running => exact h
  | finished => exact h
section
variable (P : Program) (w : World) (base : Heap) (outer : List Env) (L : Addr) (A : Around)
/-- an item came out -/
def Itm (r : List (Ld.Dt Str)) (d : Ld.Dt Str) (pn : List (Addr × Obj)) (HT : Hp) (g : Nat) (s : Shared) (v : Value) (s2 : Shared) : Prop :=
  ∃ (y : Addr) (pn' : List (Addr × Obj)) (HT' : Hp) (gs' : GenState), v = .ref y ∧ Post outer pn HT s { s2 with gens := s.gens } ∧ s2.gens = s.gens.setIfInBounds g gs' ∧ gs'.bare = true ∧ HOk P w HT' s2.heap ∧ ObjOk P w HT' s2.heap y (obD d) ∧ s.heap.get? y = none ∧ HT' y = none ∧
    (∀ p ∈ pn', L ≤ p.1 ∧ p.1 ≠ y ∧ HT' p.1 = none ∧ s2.heap.get? p.1 = some p.2 ∧ (∀ v, p.2.data ≠ .cell v) ∧ (p.1 ∈ pn.map (·.1) ∨ s.heap.get? p.1 = none)) ∧
    Ex HT HT' ∧ (∀ b u, HT' b = some u → HT b = some u ∨ s.heap.get? b = none) ∧ Own HT' ∧ Kd HT' ∧ Slept P w base outer L A r gs' pn' HT'
/-- it is at its end: e the StopIteration -/
def Stp (pn : List (Addr × Obj)) (HT : Hp) (g : Nat) (s : Shared) (s2 : Shared) : Prop :=
  ∃ gs' : GenState, Post outer pn HT s { s2 with gens := s.gens } ∧ s2.gens = s.gens.setIfInBounds g gs' ∧ gs'.bare = true ∧ HOk P w HT s2.heap
end
section
variable {P : Program} {w : World} {base : Heap} {outer : List Env} {L : Addr} {A : Around} {E : Value → Shared → Prop} {s : Shared} {a : Addr} {g : Nat} {gs : GenState} {pn : List (Addr × Obj)} {HT : Hp} {d : Ld.Dt Str} {r : List (Ld.Dt Str)}
theorem Fit.run (ft : Fit P w base outer pn HT s) : Fit P w base outer pn HT (s.setGen g .running) := ⟨ft.hok, ft.pin, ft.bs, ft.funs, allBare_setGen ft.bare rfl⟩
theorem setGen_twice {s s' : Shared} {g : Nat} {x y : GenState} (h : s'.gens = (s.setGen g x).gens) : (s'.setGen g y).gens = s.gens.setIfInBounds g y := by
  show s'.gens.setIfInBounds g y = _
  rw [h]
  show (s.gens.setIfInBounds g x).setIfInBounds g y = _
  exact Array.setIfInBounds_setIfInBounds ..
theorem gen_item {Q : Option Value → Shared → Prop} (hh : A.handled = none) (hroom : A.depth < recursionLimit) (hl : s.heap.NoLimit) (hg : s.heap.IsGen a g) (hgs : s.gens[g]? = some gs)
    (sl : Slept P w base outer L A.in1 (d :: r) gs pn HT) (ft : Fit P w base outer pn HT s) (hi : ∀ v s2, Itm P w base outer L A.in1 r d pn HT g s v s2 → Q (some v) s2) : wpAny (model P w) A (callSpecial? (.ref a) "__next__") Q E s := by
  refine special_gen (Qi := Itm P w base outer L A.in1 r d pn HT g s) (Qe := fun _ => False) hh hl hroom hg hgs (Sg.imp' (sl _ ft.run) fun e s' ⟨hq, y, pn', HT', h1, po, h3⟩ => ⟨hq, .inl ⟨_, h1, y, pn', HT', e.genState, rfl, ⟨po.os, rfl, po.keep, po.slot⟩, setGen_twice po.gens, End.bare_of_quiet hq, h3⟩⟩) (fun v s1 h => hi v s1 h) fun s1 h => h.elim
theorem gen_end {Q : Option Value → Shared → Prop} (hh : A.handled = none) (hroom : A.depth < recursionLimit) (hl : s.heap.NoLimit) (hg : s.heap.IsGen a g) (hgs : s.gens[g]? = some gs)
    (sl : Slept P w base outer L A.in1 [] gs pn HT) (ft : Fit P w base outer pn HT s) (he : ∀ e s2, Stp P w outer pn HT g s s2 → (∃ o, s2.heap.get? e = some o ∧ o.cls = .type "StopIteration") → E (.ref e) s2) : wpAny (model P w) A (callSpecial? (.ref a) "__next__") Q E s := by
  refine special_gen (Qi := fun _ _ => False) (Qe := fun s1 => Stp P w outer pn HT g s s1) hh hl hroom hg hgs (Sg.imp' (sl _ ft.run) fun e s' ⟨hq, h1, po, h3⟩ => ⟨hq, .inr ⟨h1, e.genState, ⟨po.os, rfl, po.keep, po.slot⟩, setGen_twice po.gens, End.bare_of_quiet hq, h3⟩⟩) (fun v s1 h => h.elim) fun s1 ⟨gs', po, hg2, hb, hok⟩ h' e k ho => ?_
  refine he e _ ⟨gs', ⟨po.os, rfl, fun b o e1 e2 e3 e4 => k _ _ (po.keep b o e1 e2 e3 e4), fun b o e1 e2 => ?_⟩, hg2, hb, hok.kept k⟩ ho
  obtain ⟨sl, e3⟩ := po.slot b o e1 e2
  exact ⟨sl, k _ _ e3⟩
theorem next_item {Q : Option Value → Shared → Prop} (hh : A.handled = none) (hroom : A.depth < recursionLimit) (hl : s.heap.NoLimit) (hg : s.heap.IsGen a g) (hgs : s.gens[g]? = some gs)
    (sl : Slept P w base outer L A.in1 (d :: r) gs pn HT) (ft : Fit P w base outer pn HT s) (hi : ∀ v s2, Itm P w base outer L A.in1 r d pn HT g s v s2 → Q (some v) s2) : wpAny (model P w) A (pyNext (.ref a)) Q E s := by
  unfold pyNext
  exact wpAny_bind (wpAny_attempt (gen_item hh hroom hl hg hgs sl ft fun v s2 h => wpAny_pure (hi v s2 h)))
theorem next_end {Q : Option Value → Shared → Prop} (hh : A.handled = none) (hroom : A.depth < recursionLimit) (hl : s.heap.NoLimit) (hg : s.heap.IsGen a g) (hgs : s.gens[g]? = some gs)
    (sl : Slept P w base outer L A.in1 [] gs pn HT) (ft : Fit P w base outer pn HT s) (he : ∀ s2, Stp P w outer pn HT g s s2 → Q none s2) : wpAny (model P w) A (pyNext (.ref a)) Q E s := by
  unfold pyNext
  refine wpAny_bind (wpAny_attempt (gen_end hh hroom hl hg hgs sl ft fun e s2 h ⟨oz, hoz, hcz⟩ => ?_))
  refine wpAny_bind (wpAny_isInstance (T := "StopIteration") (b := true) ⟨oz, hoz, hcz⟩ isSubtype_stop ?_)
  exact wpAny_pure (he s2 h)
end
/-! ### part of what is told -/
def InsO (H : Hp) : Prop := ∀ b C dx fs, H b = some (.ins C dx fs) → H dx = some (.own b)
theorem insO_of {P : Program} {w : World} {H : Hp} {h : Heap} (x : HOk P w H h) : InsO H := fun b C dx fs e => (show ObjOk P w H h b (.ins C dx fs) from x b _ e).1
theorem sub_hok {P : Program} {w : World} {HT H : Hp} {h : Heap} (x : HOk P w H h) (e : Ex HT H) (kd : Kd HT) (io : InsO HT) : HOk P w HT h := fun b u eb =>
  stay2 (x b u (e b u eb)) (kd b u eb) (fun _ z => z) fun C dx fs eu => ⟨io b C dx fs (by rw [eb, eu]), fun _ z => z⟩
/-- behind a stretch, counted from the consumer's start -/
theorem un_step {outer : List Env} {H0 H H' HT : Hp} {h0 : Heap} {s s' : Shared} {pn : List (Addr × Obj)} (u : Un (frs outer) [] H0 H h0 s.heap) (po : Post outer pn HT s s') (young : ∀ p ∈ pn, h0.objs.size ≤ p.1) (eT : Ex HT H)
    (ex : Ex H H') (new : ∀ b o, s.heap.get? b = some o → H b = none → H' b = none) (there : ∀ b u, HT b = some u → ∃ o, s'.heap.get? b = some o) : Un (frs outer) [] H0 H' h0 s'.heap := by
  have hp : ∀ b o, h0.get? b = some o → b ∉ pn.map (·.1) := fun b o e hm => by
    obtain ⟨p, h1, h2⟩ := List.mem_map.mp hm
    have := Heap.lt_size e
    rw [← h2] at this
    exact absurd (Nat.lt_of_lt_of_le this (young p h1)) (Nat.lt_irrefl _)
  have hT : ∀ b, H b = none → HT b = none := fun b hb => by
    cases z : HT b with
    | none => rfl
    | some v => rw [eT b v z] at hb; cases hb
  refine ⟨fun b o e n hb hx => po.keep b o (u.keep b o e n hb hx) (hp b o e) (hT b (u.free b o e n hx)) hb, fun b o e n hb hx => ?_, fun b o e n hx => ?_, fun b o e hx => ?_, fun b xs e => ex _ _ (u.tups b xs e), fun b o v e => ex _ _ (u.frzs b o v e), fun b ps e => ?_⟩
  · obtain ⟨sl, e1⟩ := u.slot b o e n hb hx
    obtain ⟨sl2, e2⟩ := po.slot b _ e1 hb
    exact ⟨sl2, e2⟩
  · obtain ⟨o', e1⟩ := u.there b o e hx
    exact new b o' e1 (u.free b o e n hx)
  · obtain ⟨o', e1⟩ := u.there b o e hx
    by_cases hf : b ∈ frs outer
    · obtain ⟨sl, e2⟩ := po.slot b o' e1 hf
      exact ⟨_, e2⟩
    · cases z : HT b with
      | none => exact ⟨o', po.keep b o' e1 (hp b o e) z hf⟩
      | some v => exact there b v z
  · obtain ⟨more, e1⟩ := u.tbls b ps e
    exact ⟨more, ex _ _ e1⟩
theorem un_funs {base h0 h : Heap} {H0 H : Hp} {fs : List Addr} (u : Un fs [] H0 H h0 h) (hf : ∀ b ∈ fs, H0 b = none) : ∀ {l : List Env}, (∀ b ∈ frs l, b ∈ fs) → h0.FunFrames base l → h.FunFrames base l
  | [], _, _ => trivial
  | env :: r, hs, ⟨hk, ⟨L, o, hfr, hn, ho, hd⟩, hr⟩ => by
    have hL : L ∈ fs := hs L (by unfold frs; rw [List.filterMap_cons, hfr]; exact List.mem_cons_self)
    obtain ⟨sl, e⟩ := u.slot L o ho (hf L hL) hL (by simp)
    exact ⟨hk, ⟨L, _, hfr, hn, e, hd⟩, un_funs u hf (fun b hb => hs b (by unfold frs; rw [List.filterMap_cons, hfr]; exact List.mem_cons_of_mem _ hb)) hr⟩
end LdP
/-! # LdN10 -/
/-! list(all_dates(..)): the list draws all of them. -/
namespace LdP
open PySem PySem.Spec PyProof.Rows L2 Evl GenW
theorem mergeT_self {HT H : Hp} (e : Ex HT H) : mergeT HT H = H := funext fun b => by
  unfold mergeT
  cases z : HT b with
  | none => rfl
  | some u => exact (e b u z).symm
theorem refs_vals : ∀ as : List Addr, Vals (as.map V.ref) (as.map Value.ref)
  | [] => .nil
  | a :: r => .cons rfl (refs_vals r)
/-- such an object lies apart from what is told -/
theorem hok_apart {P : Program} {w : World} {H : Hp} {h h' : Heap} {S : Addr} (x : HOk P w H h) (hS : H S = none) (k : ∀ b o, b ≠ S → h.get? b = some o → h'.get? b = some o) : HOk P w H h' := fun b u e =>
  (x b u e).stay (fun c v hc q => k c v (fun z => by
    subst z
    rcases hc with z | z
    · rw [z, e] at hS; cases hS
    · rw [hS] at z; cases z) q) (fun _ z => z) fun _ _ z => z
/-- a list that lies apart is told -/
theorem hok_tell {P : Program} {w : World} {H : Hp} {h : Heap} {S : Addr} {xs : List V} (x : HOk P w H h) (hS : H S = none) (new : ObjOk P w (upd H S (.lst xs)) h S (.lst xs)) : HOk P w (upd H S (.lst xs)) h := fun b u ez => by
  by_cases hb : b = S
  · subst hb; rw [upd_same] at ez; cases ez; exact new
  · rw [upd_ne hb] at ez
    exact (x b u ez).stay (fun _ _ _ z => z) (fun c q => by rw [upd_ne (ne_of_none q hS)]; exact q) fun c xs q => by rw [upd_ne (ne_of_none q hS)]; exact q
section
variable (P : Program) (w : World) (base : Heap) (outer : List Env) (L : Addr) (A : Around) (sc : Shared) (H0 : Hp) (S ga : Addr) (g : Nat)
/-- the list so far -/
structure Drn (ds done : List (Ld.Dt Str)) (s : Shared) : Prop where
  os : s.os = sc.os
  bare : AllBare s.gens
  isg : s.heap.IsGen ga g
  st : ∃ (gs : GenState) (pn : List (Addr × Obj)) (HT Hc : Hp) (acc : Array Value) (c : Nat) (as : List Addr), s.gens[g]? = some gs ∧ Slept P w base outer L A ds gs pn HT ∧ Un (frs outer) [] H0 Hc sc.heap s.heap ∧ HOk P w Hc s.heap ∧ Ex H0 Hc ∧ Ex HT Hc ∧ Own HT ∧ Kd HT ∧ InsO HT ∧
    (∀ p ∈ pn, sc.heap.objs.size ≤ p.1 ∧ p.1 ≠ S ∧ p.1 ≠ ga ∧ Hc p.1 = none ∧ s.heap.get? p.1 = some p.2) ∧ s.heap.get? S = some (lstObj acc c) ∧ acc.toList = as.map Value.ref ∧ AllO obD Hc as done ∧ Hc S = none ∧ Hc ga = none
end
section
variable {P : Program} {w : World} {K : PySem.W.Frag} {mg : Str → Option Value} {base : Heap} {outer : List Env} {L : Addr} {A : Around} {sc : Shared} {H0 : Hp} {S ga : Addr} {g : Nat} {ds done : List (Ld.Dt Str)} {s : Shared}
theorem nf_of (e0 : Env0 P w K mg base A outer sc H0) {b : Addr} (h : sc.heap.objs.size ≤ b) : b ∉ frs outer := fun m => by
  obtain ⟨_, o, ho, _⟩ := e0.funs.mem m
  exact absurd (Nat.lt_of_lt_of_le (Heap.lt_size ho) h) (Nat.lt_irrefl _)
theorem un_lim (e0 : Env0 P w K mg base A outer sc H0) {Hc : Hp} {h : Heap} (un : Un (frs outer) [] H0 Hc sc.heap h) : ∀ b o, base.get? b = some o → h.get? b = some o := fun b o e => by
  obtain ⟨e1, e2⟩ := e0.bs b o e
  refine un.keep b o e1 e2 (fun m => ?_) (by simp)
  obtain ⟨hn, _⟩ := e0.funs.mem m
  rw [e] at hn
  cases hn
theorem notT {HT H : Hp} (eT : Ex HT H) {b : Addr} (hb : H b = none) : HT b = none := by
  cases z : HT b with
  | none => rfl
  | some v => rw [eT b v z] at hb; cases hb
theorem un_tell {fs : List Addr} {H H' : Hp} {h h' : Heap} {o : HO} (u : Un fs [] H H' h h') (hS : h.objs.size ≤ S) (hn : H' S = none) : Un fs [] H (upd H' S o) h h' :=
  ⟨u.keep, u.slot, fun b ob e n hx => (by rw [upd_ne (Nat.ne_of_lt (Nat.lt_of_lt_of_le (Heap.lt_size e) hS))]; exact u.free b ob e n hx), u.there, fun b xs e => (by rw [upd_ne (ne_of_none (u.tups b xs e) hn)]; exact u.tups b xs e), fun b o v e => (by rw [upd_ne (ne_of_none (u.frzs b o v e) hn)]; exact u.frzs b o v e), fun b ps e => (by
    obtain ⟨more, e1⟩ := u.tbls b ps e
    exact ⟨more, by rw [upd_ne (ne_of_none e1 hn)]; exact e1⟩)⟩
theorem drain_ad (e0 : Env0 P w K mg base A outer sc H0) (hh : A.handled = none) (hd : A.depth < recursionLimit) (hL : sc.heap.objs.size ≤ L) (hSa : S ≠ ga) (hS : sc.heap.objs.size ≤ S) (hga : sc.heap.objs.size ≤ ga) {R : Result → Shared → Prop} {res : Value} {all : List (Ld.Dt Str)} (hz : all.length ≤ sizeLine)
    (hend : ∀ s' Hc, s'.os = sc.os → AllBare s'.gens → Un (frs outer) [] H0 Hc sc.heap s'.heap → HOk P w Hc s'.heap → Ex H0 Hc → ListO obD Hc S all → R (.ok (.ret res)) s') :
    ∀ (ds done : List (Ld.Dt Str)) (s : Shared), done ++ ds = all → Drn P w base outer L A.in1.in1 sc H0 S ga g ds done s → codeAny (model P w) A (.builtin "list.extend.loop" ⟨[.ref S, .ref ga, res], []⟩) R s := by
  have bk : ∀ {Hc : Hp} {h : Heap}, Un (frs outer) [] H0 Hc sc.heap h → ∀ b o, base.get? b = some o → h.get? b = some o ∧ Hc b = none := fun {Hc h} un b o e => by
    obtain ⟨e1, e2⟩ := e0.bs b o e
    have nf : b ∉ frs outer := fun m => by
      obtain ⟨hn, _⟩ := e0.funs.mem m
      rw [e] at hn
      cases hn
    exact ⟨un.keep b o e1 e2 nf (by simp), un.free b o e1 e2 (by simp)⟩
  have frn : ∀ {Hc : Hp} {h : Heap}, Un (frs outer) [] H0 Hc sc.heap h → ∀ b ∈ frs outer, Hc b = none := fun {Hc h} un b m => by
    obtain ⟨_, o, ho, _⟩ := e0.funs.mem m
    exact un.free b o ho (e0.frf b m) (by simp)
  have fit : ∀ {pn : List (Addr × Obj)} {HT Hc : Hp} {s : Shared}, AllBare s.gens → Un (frs outer) [] H0 Hc sc.heap s.heap → HOk P w Hc s.heap → Ex HT Hc → Kd HT → InsO HT → (∀ p ∈ pn, s.heap.get? p.1 = some p.2) → Fit P w base outer pn HT s := fun {pn HT Hc s} hb un hok eT kd io hp =>
    ⟨sub_hok hok eT kd io, hp, fun b o e => (bk un b o e).1, un_funs un e0.frf (fun _ h => h) e0.funs, hb⟩
  intro ds
  induction ds with
  | nil =>
    intro done s hdn D
    obtain ⟨gs, pn, HT, Hc, acc, c, as, hgs, sl, un, hok, ex0, eT, own, kd, io, hp, hSo, ha, hall, hSn, hgn⟩ := D.st
    rw [List.append_nil] at hdn
    refine codeAny_builtin F.entry_extend_loop ?_; rw [Around.under_plainId F.plain_extend_loop _]
    show wpAny _ A.in1 (pyNext (.ref ga) >>= _) _ _ s
    refine wpAny_bind (next_end (A := A.in1) hh hd (e0.mod.nolimit.keeps (un_lim e0 un)) D.isg hgs sl (fit D.bare un hok eT kd io fun p h => (hp p h).2.2.2.2) fun s2 ⟨gs', po, hg2, hb, ok2⟩ => ?_)
    · obtain ⟨hok2, _⟩ := merge_hok (H0 := Hc) hok (frn un) (fun p h => (hp p h).2.2.2.1) po eT own ok2 kd (Ex.refl _) (Ex.refl _) (fun b u e => .inl e) fun b u e => .inl e
      rw [mergeT_self eT] at hok2
      have un2 : Un (frs outer) [] H0 Hc sc.heap s2.heap := un_step (s' := { s2 with gens := s.gens }) un po (fun p h => (hp p h).1) eT (Ex.refl _) (fun b o _ h => h) fun b u e => objok_there (ok2 b u e)
      have hT : HT S = none := notT eT hSn
      have hS2 : s2.heap.get? S = some (lstObj acc c) := po.keep S _ hSo (fun m => by
        obtain ⟨p, h1z, h2⟩ := List.mem_map.mp m
        exact (hp p h1z).2.1 h2) hT (nf_of e0 hS)
      refine wpAny_pure (hend s2 (upd Hc S (.lst (as.map V.ref))) (po.os.trans D.os) ?_ (un_tell un2 hS hSn) (hok_tell hok2 hSn ?_) (ex0.trans (Ex.new hSn)) ⟨as, upd_same, ?_⟩)
      · rw [hg2]
        exact allBare_setGen D.bare hb
      · refine ⟨?_, as.map Value.ref, c, refs_vals as, ?_⟩
        · rw [List.length_map, hall.length, hdn]
          exact hz
        · rw [hS2, ← ha]
      · rw [← hdn]
        exact AllO.upd hall (AllO.ne (H := Hc) hSn hall)
  | cons d r ih =>
    intro done s hdn D
    obtain ⟨gs, pn, HT, Hc, acc, c, as, hgs, sl, un, hok, ex0, eT, own, kd, io, hp, hSo, ha, hall, hSn, hgn⟩ := D.st
    refine codeAny_builtin F.entry_extend_loop ?_; rw [Around.under_plainId F.plain_extend_loop _]
    show wpAny _ A.in1 (pyNext (.ref ga) >>= _) _ _ s
    refine wpAny_bind (next_item (A := A.in1) hh hd (e0.mod.nolimit.keeps (un_lim e0 un)) D.isg hgs sl (fit D.bare un hok eT kd io fun p h => (hp p h).2.2.2.2) fun v s2 ⟨y, pn', HT', gs', ev, po, hg2, hb, ok2, oky, hy, hyT, hp', eTT, new, own', kd', sl'⟩ => ?_)
    subst ev
    have hTS : HT S = none := notT eT hSn
    have hTg : HT ga = none := notT eT hgn
    have npS : S ∉ pn.map (·.1) := fun m => by
      obtain ⟨p, h1z, h2⟩ := List.mem_map.mp m
      exact (hp p h1z).2.1 h2
    have npg : ga ∉ pn.map (·.1) := fun m => by
      obtain ⟨p, h1z, h2⟩ := List.mem_map.mp m
      exact (hp p h1z).2.2.1 h2
    have hyn : Hc y = none := by
      cases z : Hc y with
      | none => rfl
      | some u =>
        obtain ⟨o, e⟩ := objok_there (hok y u z)
        rw [hy] at e
        cases e
    have hyS : y ≠ S := fun z => by rw [z, hSo] at hy; cases hy
    obtain ⟨og, nm, qn, hgo, hgr⟩ := D.isg
    have hyg : y ≠ ga := fun z => by rw [z, hgo] at hy; cases hy
    have there' : ∀ {b : Addr} {u : HO}, HT' b = some u → (∃ o, s.heap.get? b = some o) → HT b = some u := fun {b u} e ⟨o, eo⟩ => by
      rcases new b u e with z | z
      · exact z
      · rw [eo] at z; cases z
    have hTS' : HT' S = none := by
      cases z : HT' S with
      | none => rfl
      | some u => rw [there' z ⟨_, hSo⟩] at hTS; cases hTS
    have hTg' : HT' ga = none := by
      cases z : HT' ga with
      | none => rfl
      | some u => rw [there' z ⟨_, hgo⟩] at hTg; cases hTg
    have hS2 : s2.heap.get? S = some (lstObj acc c) := po.keep S _ hSo npS hTS (nf_of e0 hS)
    have hg2o : s2.heap.get? ga = some og := po.keep ga _ hgo npg hTg (nf_of e0 hga)
    have mrg := merge_hok (H0 := upd Hc y (obD d)) hok (frn un) (fun p h => (hp p h).2.2.2.1) po eT own ok2 kd' eTT (Ex.new hyn) (fun b u e => by
      by_cases hb : b = y
      · subst hb
        rw [upd_same] at e
        cases e
        exact .inr ⟨⟨_, rfl⟩, oky⟩
      · rw [upd_ne hb] at e
        exact .inl e) new
    generalize hH' : mergeT HT' (upd Hc y (obD d)) = H' at mrg
    obtain ⟨okH, exH⟩ := mrg
    have atH : ∀ b, b ≠ y → HT' b = none → Hc b = none → H' b = none := fun b h1z h2 h3 => by rw [← hH', mergeT_r h2, upd_ne h1z]; exact h3
    have hH'y : H' y = some (obD d) := by rw [← hH', mergeT_r hyT, upd_same]
    have hSn' : H' S = none := atH S (Ne.symm hyS) hTS' hSn
    have hlen : done.length < sizeLine := by
      have := congrArg List.length hdn
      rw [List.length_append, List.length_cons] at this
      omega
    have hac : acc.size < sizeLine := by
      have h1z : acc.toList.length = as.length := by rw [ha, List.length_map]
      rw [hall.length] at h1z
      rw [Array.length_toList] at h1z
      omega
    show wpAny _ A.in1 (updateSeq S (·.push (.ref y)) >>= _) _ _ _
    refine wpAny_bind ?_
    refine wpAny_updateSeq hS2 rfl (wpAny_pure ⟨plainId_quiet F.plain_extend_loop _, ?_⟩) (Nat.le_of_lt hac) (by show (acc.push (.ref y)).size ≤ sizeLine + 1; rw [Array.size_push]; omega)
    have keep3 : ∀ b o, b ≠ S → s2.heap.get? b = some o → (s2.heap.update S (Obj.mapSeq (·.push (.ref y)))).get? b = some o := fun b o hbS e => (Heap.get?_update_other _ _ (Ne.symm hbS)).trans e
    obtain ⟨c3, hS3⟩ : ∃ c3, (s2.heap.update S (Obj.mapSeq (·.push (.ref y)))).get? S = some (lstObj (acc.push (.ref y)) c3) := ⟨_, Heap.get?_update_self (Obj.mapSeq (·.push (.ref y))) hS2 rfl⟩
    generalize s2.heap.update S (Obj.mapSeq (·.push (.ref y))) = h3 at keep3 hS3
    have ok3 : HOk P w H' h3 := hok_apart okH hSn' keep3
    have po3 : Post outer ((S, lstObj acc c) :: pn) HT s { s2 with gens := s.gens, heap := h3 } := ⟨po.os, rfl, fun b o e1 e2 e3 e4 => keep3 b o (fun z => e2 (by rw [z]; exact List.mem_cons_self)) (po.keep b o e1 (fun m => e2 (List.mem_cons_of_mem _ m)) e3 e4), fun b o e1 e2 => by
      obtain ⟨sl, e3⟩ := po.slot b o e1 e2
      exact ⟨sl, keep3 b _ (fun z => nf_of e0 hS (by rw [← z]; exact e2)) e3⟩⟩
    refine ih (done ++ [d]) { s2 with heap := h3 } (by rw [List.append_assoc]; exact hdn) ⟨po.os.trans D.os, ?_, ⟨og, nm, qn, keep3 ga og (Ne.symm hSa) hg2o, hgr⟩, gs', pn', HT', H', acc.push (.ref y), c3, as ++ [y], ?_, sl', ?_, ok3, ex0.trans exH, ?_, own', kd', insO_of ok2, fun p hpp => ?_, hS3, ?_, ?_, hSn', atH ga (Ne.symm hyg) hTg' hgn⟩
    · show AllBare s2.gens
      rw [hg2]
      exact allBare_setGen D.bare hb
    · show s2.gens[g]? = some gs'
      rw [hg2]
      exact setGen_at (Array.getElem?_eq_some_iff.mp hgs).1
    · refine un_step (s' := { s2 with gens := s.gens, heap := h3 }) un po3 (fun p h => ?_) eT exH (fun b o e hn => ?_) fun b u e => objok_there (ok3 b u (exH b u (eT b u e)))
      · rcases List.mem_cons.mp h with z | z
        · rw [z]; exact hS
        · exact (hp p z).1
      · refine atH b (fun z => ?_) ?_ hn
        · rw [z, hy] at e; cases e
        · cases z : HT' b with
          | none => rfl
          | some u => rw [eT b u (there' z ⟨_, e⟩)] at hn; cases hn
    · rw [← hH']
      exact mergeT_l
    · obtain ⟨q1, q2, q3, q4, q5, q6⟩ := hp' p hpp
      have hps : p.1 ≠ S := fun z => by
        rcases q6 with q6 | q6
        · exact npS (by rw [← z]; exact q6)
        · rw [z, hSo] at q6; cases q6
      refine ⟨Nat.le_trans hL q1, hps, fun z => ?_, atH p.1 q2 q3 ?_, keep3 _ _ hps q4⟩
      · rcases q6 with q6 | q6
        · exact npg (by rw [← z]; exact q6)
        · rw [z, hgo] at q6; cases q6
      · rcases q6 with q6 | q6
        · obtain ⟨q, h1z, h2⟩ := List.mem_map.mp q6
          rw [← h2]
          exact (hp q h1z).2.2.2.1
        · cases z : Hc p.1 with
          | none => rfl
          | some u =>
            obtain ⟨o, e⟩ := objok_there (hok _ u z)
            rw [q6] at e
            cases e
    · rw [Array.toList_push, ha, List.map_append]
      rfl
    · exact paired_app (hall.ex exH) (.cons hH'y .nil)
end
end LdP
/-! # LdN11 -/
/-! list(g) of such a generator. -/
namespace LdP
open PySem PySem.Spec PyProof.Rows L2 Evl GenW
section
variable {P : Program} {w : World} {K : PySem.W.Frag} {mg : Str → Option Value} {base : Heap} {outer : List Env} {A A' : Around} {sc s : Shared} {H0 : Hp} {a ga : Addr} {e l : Int} {sl : List Str} {cs : List Cl} {cd : Value} {oL go : Obj}
/-- it sleeps, as its maker sees it -/
theorem made_slept (t : Tx K mg) (e0 : Env0 P w K mg base A outer sc H0) (hr : Room 3 A') (hfr : A'.frames = some outer) (hw : CalW sl cs) (hb : -1000 ≤ e ∧ e ≤ l ∧ l ≤ 1000) (hz : ∀ k, k ≤ sl.length → (l + 1 - e).toNat ^ k ≤ 4096) (m : AMade K a e l cd sc s oL go ga) (Mt : List Addr) (hM : CalAt K (flt (rm H0 Mt)) a sl cs) :
    Slept P w base outer sc.heap.objs.size A' ((Ld.allD e l sl).filter (Ld.keeps cs)) (.fresh (.func adBd (gEnv K sc.heap.objs.size cd))) [(sc.heap.objs.size, oL)] (flt (rm H0 Mt)) := by
  have no : ∀ b, H0 b = none → flt (rm H0 Mt) b = none := fun b hb => notT (H := rm H0 Mt) (fun _ _ h => flt_sub h) (by unfold rm; split; rfl; exact hb)
  refine fresh_slept t ⟨hr.hd, hfr, e0.mod, e0.bsz, fun b hb => ?_⟩ (hr.deeper _) hw hb hz hM ⟨fun b o e => no _ (e0.bs b o e).2, fun b hb => no _ (e0.frf b hb), fun p hpz => ?_, ⟨oL, List.mem_cons_self⟩, flt_own _, flt_kd _⟩ m.loc
  · obtain ⟨_, o, ho, _⟩ := e0.funs.mem hb
    exact Heap.lt_size ho
  · rw [List.mem_singleton.mp hpz]
    exact no _ (e0.hok.fresh (Nat.le_refl _))
theorem list_ad (t : Tx K mg) (e0 : Env0 P w K mg base A outer sc H0) (hr : Room 4 A) (hw : CalW sl cs) (hb : -1000 ≤ e ∧ e ≤ l ∧ l ≤ 1000) (hz : ∀ k, k ≤ sl.length → (l + 1 - e).toNat ^ k ≤ 4096) (cal : CalAt K H0 a sl cs) (m : AMade K a e l cd sc s oL go ga)
    (hlen : ((Ld.allD e l sl).filter (Ld.keeps cs)).length ≤ sizeLine) {Q : Value → Shared → Prop} {E : Value → Shared → Prop}
    (hQ : ∀ S s' Hc, H0 S = none → s'.os = sc.os → AllBare s'.gens → Un (frs outer) [] H0 Hc sc.heap s'.heap → HOk P w Hc s'.heap → Ex H0 Hc → ListO obD Hc S ((Ld.allD e l sl).filter (Ld.keeps cs)) → Q (.ref S) s') :
    wpAny (model P w) A (call (.type "list") [.ref ga]) Q E s := by
  have ha2 : ga < s.heap.objs.size := Heap.lt_size m.ob
  have sz : sc.heap.objs.size ≤ s.heap.objs.size := Nat.le_of_lt (Nat.lt_trans m.lt ha2)
  have hSa : s.heap.objs.size ≠ ga := Nat.ne_of_gt ha2
  refine callType_codes (Q₁ := fun objz s₁z => objz = .ref s.heap.objs.size ∧ s₁z = { s with heap := s.heap.push { cls := .type "list", data := .seq #[] } }) F.called_list (F.typeCall_list_1 _) F.entry_list_init
    (code_list_new _ ⟨rfl, rfl⟩) fun objz s₁z h₁z => ?_
  obtain ⟨rfl, rfl⟩ := h₁z
  have hSz : (s.heap.push { cls := .type "list", data := .seq #[] }).get? s.heap.objs.size = some { cls := .type "list", data := .seq #[] } := Heap.get?_push_size _ rfl
  refine ⟨⟨_, hSz, rfl⟩, F.args_list_init_2 _ _, ?_⟩
  show wpAny _ A.in1.in1 (do let old ← Builtin.List.listItems (.ref s.heap.objs.size); Builtin.List.listUpdate (.ref s.heap.objs.size) (fun _ => #[]); letGo old.toList.reverse; Builtin.List.listExtendWith (.ref s.heap.objs.size) (.ref ga) .none) _ _ _
  refine wpAny_bind ?_
  unfold Builtin.List.listItems
  refine wpAny_bind (wpAny_seqItems hSz rfl (wpAny_pure ?_))
  show wpAny _ A.in1.in1 (updateSeq s.heap.objs.size (fun _ => #[]) >>= fun _ => letGo (#[] : Array Value).toList.reverse >>= fun _ => Builtin.List.listExtendWith (.ref s.heap.objs.size) (.ref ga) .none) _ _ _
  refine wpAny_bind (wpAny_updateSeq hSz rfl ?_)
  have hS2z := Heap.get?_update_self (Obj.mapSeq (fun _ => (#[] : Array Value))) hSz rfl
  refine wpAny_bind (wpAny_letGo ?_); unfold Builtin.List.listExtendWith
  have upz : ∀ (hzz : Heap) (fz : Obj → Obj), (∀ bz oz, s.heap.get? bz = some oz → hzz.get? bz = some oz) → ∀ bz oz, s.heap.get? bz = some oz → (hzz.update s.heap.objs.size fz).get? bz = some oz := fun hzz fz qz bz oz e =>
    (Heap.get?_update_other _ _ (Ne.symm (Nat.ne_of_lt (Heap.lt_size e)))).trans (qz bz oz e)
  have k1z : ∀ bz oz, s.heap.get? bz = some oz → (s.heap.push { cls := .type "list", data := .seq #[] }).get? bz = some oz := fun bz oz e => Heap.get?_push_of_some _ e
  have k2z := upz _ (Obj.mapSeq (fun _ => (#[] : Array Value))) k1z
  have gtyz : ∀ {hzz : Heap}, (∀ bz oz, s.heap.get? bz = some oz → hzz.get? bz = some oz) → hzz.IsGen ga sc.gens.size := fun {hzz} qz => m.isg hzz (qz _ _ m.ob)
  refine wpAny_bind (wpAny_typeOf (Heap.IsGen.typeIs (s := { s with heap := _ }) (gtyz k2z)) ?_)
  have h1z : Builtin.List.listSameRef (.ref s.heap.objs.size) (.ref ga) = false := by simp [Builtin.List.listSameRef, hSa]
  have h2z : (Value.type "generator" == Value.type "list") = false := by decide
  have h3z : (Value.type "generator" == Value.type "tuple") = false := by decide
  simp only [h1z, h2z, h3z, Bool.or_false, Bool.false_eq_true, if_false]
  refine wpAny_bind (wpAny_pyIter_gen (s := { s with heap := _ }) (gtyz k2z) ?_)
  refine wpAny_bind (wpAny_holding ?_); unfold Builtin.List.listLengthHint
  refine wpAny_bind (wpAny_specialOf (Heap.IsGen.typeIs (s := { s with heap := _ }) (gtyz k2z)) F.gen_no_len ?_)
  show wpAny _ A.in1.in1 (specialOf (Value.ref ga) (Str.ofString "__length_hint__") >>= _) _ _ _
  refine wpAny_bind (wpAny_specialOf (Heap.IsGen.typeIs (s := { s with heap := _ }) (gtyz k2z)) F.gen_no_hint ?_)
  refine wpAny_pure ?_
  show wpAny _ A.in1.in1 (rule "list.extend.makes-room" >>= fun _ => Builtin.List.listTouch (.ref s.heap.objs.size) >>= fun _ => again (.builtin "list.extend.loop" ⟨[.ref s.heap.objs.size, .ref ga, .none], []⟩)) _ _ _
  refine wpAny_bind (wpAny_rule ?_); refine wpAny_bind ?_
  show wpAny _ A.in1.in1 (updateSeq s.heap.objs.size (·.push .none) >>= fun _ => updateSeq s.heap.objs.size (·.pop)) _ _ _; refine wpAny_bind (wpAny_updateSeq hS2z rfl ?_)
  have hS3z := Heap.get?_update_self (Obj.mapSeq (·.push Value.none)) hS2z rfl
  refine wpAny_updateSeq (hz := by seq_fits) hS3z rfl ?_
  have hS4z := Heap.get?_update_self (Obj.mapSeq (·.pop)) hS3z rfl
  have k4z := upz _ (Obj.mapSeq (·.pop)) (upz _ (Obj.mapSeq (·.push Value.none)) k2z)
  refine wpAny_pure ⟨plainId_quiet F.plain_extend_loop _, ?_⟩; have e1 : Env0 P w K mg base A.in1 outer sc H0 := e0.in1
  have dp := hr.dp
  have un := hr.un
  have hr3 : Room 3 A.in1.in1.in1 := ⟨hr.hd, (by show A.depth + 3 * 3 + 5 < _; omega), (by show A.units + 1 + 1 + 1 + 16 * 3 + 200 < _; omega)⟩
  have erm : rm H0 [] = H0 := funext fun bz => if_neg (by simp)
  have hmain := made_slept (A' := A.in1.in1.in1) t e0 hr3 e0.frames hw hb hz m [] (cal.flt fun bz u _ _ => by simp)
  rw [erm] at hmain
  have hSn : H0 s.heap.objs.size = none := e0.hok.fresh sz
  refine drain_ad (A := A.in1) (L := sc.heap.objs.size) (g := sc.gens.size) e1 hr.hd (by show A.depth < _; omega) (Nat.le_refl _) hSa sz (Nat.le_of_lt m.lt) hlen (fun s' Hc q1 q2 q3 q4 q5 q6 => ⟨rfl, hQ _ s' Hc hSn q1 q2 q3 q4 q5 q6⟩) _ [] _ (List.nil_append _) ⟨m.os, ?_, gtyz k4z, _, _, flt H0, H0, _, _, [], ?_, hmain, Un.kept fun bz oz e => k4z bz oz (m.keep bz oz e), e0.hok.kept fun bz oz e => k4z bz oz (m.keep bz oz e), Ex.refl _, fun _ _ hzz => flt_sub hzz, flt_own _, flt_kd _, insO_of (flt_hok e0.hok), fun p hpz => ?_, hS4z, rfl, .nil, hSn, e0.hok.fresh (Nat.le_of_lt m.lt)⟩
  · show AllBare s.gens
    rw [m.gens]
    exact AllBare.push e0.bare rfl
  · show s.gens[sc.gens.size]? = _
    rw [m.gens]
    exact Array.getElem?_push_size ..
  · rw [List.mem_singleton.mp hpz]
    exact ⟨Nat.le_refl _, Nat.ne_of_lt (Nat.lt_trans m.lt ha2), Nat.ne_of_lt m.lt, e0.hok.fresh (Nat.le_refl _), k4z _ _ m.fr⟩
end
end LdP
/-! # LdN12 -/
/-! The expressions all_dates(..) and list(all_dates(..)). -/
namespace LdP
open PySem PySem.Spec PyProof.Rows L2 Evl GenW
/-- what its arguments must be -/
structure AdArg (K : PySem.W.Frag) (H : Hp) (a : Addr) (e l : Int) (sl : List Str) (cs : List Cl) : Prop where
  cal : CalAt K H a sl cs
  w : CalW sl cs
  b : -1000 ≤ e ∧ e ≤ l ∧ l ≤ 1000
  z : ∀ k, k ≤ sl.length → (l + 1 - e).toNat ^ k ≤ 4096
theorem AdArg.len {K : PySem.W.Frag} {H : Hp} {a : Addr} {e l : Int} {sl : List Str} {cs : List Cl} (h : AdArg K H a e l sl cs) : ((Ld.allD e l sl).filter (Ld.keeps cs)).length ≤ 4096 := by
  refine Nat.le_trans (List.length_filter_le ..) ?_
  rw [Ld.allD_len e l sl.length sl rfl]
  exact h.z _ (Nat.le_refl _)
def tLAd (K : PySem.W.Frag) (t : TA) : TE := fun σ H Q => t σ H fun vs H1 => ∃ a e l sl cs, vs = [V.ref a, .int e, .int l] ∧ AdArg K H1 a e l sl cs ∧ ∀ S H2, H1 S = none → Ex H1 H2 → ListO obD H2 S ((Ld.allD e l sl).filter (Ld.keeps cs)) → Q (.ref S) H2
def tLAdK (K : PySem.W.Frag) (t : TA) : TE := fun σ H Q => t σ H fun vs H1 => ∃ a e l sl cs, vs = [.int l, .int e, V.ref a] ∧ AdArg K H1 a e l sl cs ∧ ∀ S H2, H1 S = none → Ex H1 H2 → ListO obD H2 S ((Ld.allD e l sl).filter (Ld.keeps cs)) → Q (.ref S) H2
section
variable {X : Cx} {G : Array GenState} {pins : List (Addr × Obj)} {s : Shared} {σ : L2.St} {H : Hp} {x : Expr} {es : List Expr} {ta : TA} {p pos p' pos' : Pos}
theorem ad_eval (t : Tx X.K X.mg) (hr : Room 1 X.A) (ha : GA X G (x :: es) ta) (I : Inv X pins σ H s) (hs : s.gens = G) {Ψ : List V → Hp → Prop} {E : Value → Shared → Prop} (h : ta σ H Ψ) (hΨ : ∀ vs H1, Ψ vs H1 → ∃ a e l, vs = [V.ref a, .int e, .int l])
    (hg : Gl X "all_dates" := by rfl) (he : starEach (x :: es) X.env = (false, eval x X.env) :: starEach es X.env := by rfl) (hpl : (backTo pos (starEach es X.env)).any (·.1) = false := by rfl) :
    wpAny (model X.prog X.w) X.A (eval (.Call (.Name "all_dates" p) (x :: es) [] pos) X.env) (fun u s' => ∃ ga cd oL go sc H1 a e l, u = .ref ga ∧ Inv X pins σ H1 sc ∧ sc.gens = G ∧ AMade X.K a e l cd sc s' oL go ga ∧ Ψ [.ref a, .int e, .int l] H1) E s := by
  obtain ⟨fd, F⟩ := t.def_alldates
  refine wpAny_Call_Name_kw (ld_glob I hg t.g_alldates (PySem.W.callWith_K (h₀ := X.base) I.ok.mod.kin F.kp (ha.go I hs h fun us s1 vs H1 I1 g1 r q => ⟨I1.kIn, ?_⟩) he hpl) (by decide))
  obtain ⟨a, e, l, ev⟩ := hΨ _ _ q
  subst ev
  have hb : BindsTo s1 fd ⟨us, []⟩ (p_alldates.zip us) := by
    match us, r with
    | [_, _, _], _ => exact ad_pos F s1 _ _ _
  refine wpAny_call (codeAny_mono (call_ad hr I1.env0 F hb r) fun r' s' ⟨ga, cd, oL, go, er, m⟩ => ?_)
  subst er
  exact ⟨ga, cd, oL, go, s1, H1, a, e, l, rfl, I1, g1, m, q⟩
theorem listAd_end (t : Tx X.K X.mg) (hr : Room 4 X.A) {ga : Addr} {cd : Value} {oL go : Obj} {sc : Shared} {H1 : Hp} {a : Addr} {e l : Int} {sl : List Str} {cs : List Cl} {s' : Shared} {Q : VK} (I : Inv X pins σ H1 sc) (m : AMade X.K a e l cd sc s' oL go ga) (h : AdArg X.K H1 a e l sl cs)
    (q : ∀ S H2, H1 S = none → Ex H1 H2 → ListO obD H2 S ((Ld.allD e l sl).filter (Ld.keeps cs)) → Q (.ref S) H2) : wpAny (model X.prog X.w) X.A (call (.type "list") [.ref ga]) (EP X pins σ Q) X.xe s' := by
  refine list_ad t I.env0 hr h.w h.b h.z h.cal m (Nat.le_trans h.len (by rw [sizeLine_eq]; omega)) fun S s2 Hc hS os bare un hok ex li => ?_
  have I2 := I.call' (ch := []) os un hok bare fun b hb => absurd hb List.not_mem_nil
  have q2 := q S Hc hS ex li
  refine ⟨V.ref S, Hc, I2, rfl, q2⟩
theorem list_eval {inner : Expr} {R : Value → Shared → Prop} {E : Value → Shared → Prop} (I : Inv X pins σ H s) (hm : X.mg "list" = none) (hgl : Gl X "list") (he1 : starEach [inner] X.env = [(false, eval inner X.env)])
    (h : wpAny (model X.prog X.w) X.A (eval inner X.env) (fun u s1 => wpAny (model X.prog X.w) X.A (call (.type "list") [u]) R E s1) E s) : wpAny (model X.prog X.w) X.A (eval (.Call (.Name "list" p') [inner] [] pos') X.env) R E s := by
  refine wpAny_Call_Name_kw (ld_blt I hgl hm boot_list' (PyProof.Rows.callWith_type1 ?_ he1 rfl))
  rw [he1]
  show wpAny _ _ (spliced ((false, eval inner X.env) :: [])) _ _ s
  exact Calls.spliced_cons (wpAny_mono h (fun u s2 h2 => Calls.spliced_nil h2) fun _ _ x => x)
theorem pe_listAd (t : Tx X.K X.mg) (hr : Room 4 X.A) (ha : ∀ G, GA X G (x :: es) ta) (hgl : Gl X "list" := by rfl) (hg : Gl X "all_dates" := by rfl)
    (he : starEach (x :: es) X.env = (false, eval x X.env) :: starEach es X.env := by rfl) (hpl : (backTo pos (starEach es X.env)).any (·.1) = false := by rfl)
    (he1 : starEach [.Call (.Name "all_dates" p) (x :: es) [] pos] X.env = [(false, eval (.Call (.Name "all_dates" p) (x :: es) [] pos) X.env)] := by rfl) :
    PE X (.Call (.Name "list" p') [.Call (.Name "all_dates" p) (x :: es) [] pos] [] pos') (tLAd X.K ta) := by
  refine ⟨fun pins s σ H Q I h => list_eval I t.f_list hgl he1 ?_⟩
  refine wpAny_mono (ad_eval (E := X.xe) t (hr.mono (by decide)) (ha s.gens) I rfl h (fun vs H1 ⟨a, e, l, sl, cs, ev, _⟩ => ⟨a, e, l, ev⟩) hg he hpl) (fun u s1 ⟨ga, cd, oL, go, sc, H1, a, e, l, eu, I1, _, m, q⟩ => ?_) fun _ _ z => z
  obtain ⟨a', e', l', sl, cs, ev, h1, q⟩ := q
  cases ev
  subst eu
  exact listAd_end t hr I1 m h1 q
end
end LdP
/-! # LdN13 -/
/-! list(all_dates(k = ..)). -/
namespace LdP
open PySem PySem.Spec PyProof.Rows L2 Evl GenW
section
variable {X : Cx} {G : Array GenState} {pins : List (Addr × Obj)} {s : Shared} {σ : L2.St} {H : Hp} {x : Expr} {es : List Expr} {ta : TA} {p pos p' pos' : Pos}
theorem ad_evalK (t : Tx X.K X.mg) (hr : Room 1 X.A) {kws : List Keyword} (ha : PK X kws ta) (I : Inv X pins σ H s) {Ψ : List V → Hp → Prop} (h : ta σ H Ψ) (hΨ : ∀ vs H1, Ψ vs H1 → ∃ a e l, vs = [.int l, .int e, V.ref a])
    (hg : Gl X "all_dates" := by rfl) (hall : (backToKw pos (keywordEach kws X.env)).all (·.1.isSome) = true := by rfl) (hks : (backToKw pos (keywordEach kws X.env)).filterMap (·.1) = (["last", "first", "calendar"] : List Str) := by rfl) (hpl : ((backTo pos (starEach [] X.env)).any (·.1) || (backToKw pos (keywordEach kws X.env)).any (·.1.isNone)) = false := by rfl) :
    wpAny (model X.prog X.w) X.A (eval (.Call (.Name "all_dates" p) [] kws pos) X.env) (fun u s' => ∃ ga cd oL go sc H1 a e l, u = .ref ga ∧ Inv X pins σ H1 sc ∧ AMade X.K a e l cd sc s' oL go ga ∧ Ψ [.int l, .int e, .ref a] H1) X.xe s := by
  obtain ⟨fd, F⟩ := t.def_alldates
  refine wpAny_Call_Name_kw (ld_glob I hg t.g_alldates (PySem.W.callWith_KW0 (h₀ := X.base) I.ok.mod.kin F.kp hall (thn (ha.run pos pins s σ H _ I h) fun ws s1 ⟨vs, H1, I1, r, q⟩ => ⟨I1.kIn, ?_⟩) hpl) (by decide))
  obtain ⟨a, e, l, ev⟩ := hΨ _ _ q
  subst ev
  rw [hks]
  obtain ⟨u1, u2, u3, ew, r'⟩ : ∃ u1 u2 u3, ws = [u1, u2, u3] ∧ Vals [.ref a, .int e, .int l] [u3, u2, u1] := by
    cases r with
    | cons r1 r =>
    cases r with
    | cons r2 r =>
    cases r with
    | cons r3 r =>
    cases r with
    | nil => exact ⟨_, _, _, rfl, .cons r3 (.cons r2 (.cons r1 .nil))⟩
  subst ew
  have hb := ad_kw F s1 u3 u2 u1
  have hc := call_ad hr I1.env0 F hb r'
  refine wpAny_call (codeAny_mono hc fun r' s' ⟨ga, cd, oL, go, er, m⟩ => ?_)
  subst er
  exact ⟨ga, cd, oL, go, s1, H1, a, e, l, rfl, I1, m, q⟩
theorem pe_listAdK (t : Tx X.K X.mg) (hr : Room 4 X.A) {kws : List Keyword} (ha : PK X kws ta) (hgl : Gl X "list" := by rfl) (hg : Gl X "all_dates" := by rfl)
    (hall : (backToKw pos (keywordEach kws X.env)).all (·.1.isSome) = true := by rfl) (hks : (backToKw pos (keywordEach kws X.env)).filterMap (·.1) = (["last", "first", "calendar"] : List Str) := by rfl)
    (hpl : ((backTo pos (starEach [] X.env)).any (·.1) || (backToKw pos (keywordEach kws X.env)).any (·.1.isNone)) = false := by rfl)
    (he1 : starEach [.Call (.Name "all_dates" p) [] kws pos] X.env = [(false, eval (.Call (.Name "all_dates" p) [] kws pos) X.env)] := by rfl) :
    PE X (.Call (.Name "list" p') [.Call (.Name "all_dates" p) [] kws pos] [] pos') (tLAdK X.K ta) := by
  refine ⟨fun pins s σ H Q I h => list_eval I t.f_list hgl he1 ?_⟩
  refine wpAny_mono (ad_evalK t (hr.mono (by decide)) ha I h (fun vs H1 ⟨a, e, l, sl, cs, ev, _⟩ => ⟨a, e, l, ev⟩) hg hall hks hpl) (fun u s1 ⟨ga, cd, oL, go, sc, H1, a, e, l, eu, I1, m, q⟩ => ?_) fun _ _ z => z
  obtain ⟨a', e', l', sl, cs, ev, h1, q⟩ := q
  cases ev
  subst eu
  exact listAd_end t hr I1 m h1 q
end
end LdP
/-! # LdO1 -/
/-! dict(list(d.items()) + [(k, v)]): d with one day more. -/
namespace LdP
open PySem PySem.Spec PyProof.Rows L2 Evl LiI
abbrev rDP (K : PySem.W.Frag) : List V → Hp → VK → Prop := fun xs H Q => ∃ (a : Addr) (ps : List Addr) (kvs : List (Key × V)), xs = [.ref a] ∧ SqL K H a (ps.map V.ref) ∧ Paired (fun p kv => SqT K H p [kV kv.1, kv.2]) ps kvs ∧ ∀ p, H p = none → Q (.ref p) (upd H p (.dK (mergeK [] kvs)))
abbrev tPlus (K : PySem.W.Frag) (td tk tv : TE) : TE := tCB (rDP K) (tCons (tOp rCat (tListItems td) (tLst (tCons (tTup (tCons tk (tCons tv tNil))) tNil))) tNil)
theorem paired_imp {α β : Type} {F F' : α → β → Prop} (h : ∀ a b, F a b → F' a b) : ∀ {xs : List α} {ys : List β}, Paired F xs ys → Paired F' xs ys
  | _, _, .nil => .nil
  | _, _, .cons r t => .cons (h _ _ r) (paired_imp h t)
theorem ed_plus {K : PySem.W.Frag} {σ : L2.St} {H : Hp} {td tk tv : TE} {a : Addr} {d : Ld.Dt Str} {k : Str} {v : Int} (hd : Ev td σ H (.ref a)) (ha : H a = some (obD d)) (hk : ∀ H1, Ex H H1 → Ev tk σ H1 (.str k)) (hv : ∀ H1, Ex H H1 → Ev tv σ H1 (.int v))
    (nd : ((d ++ [(k, v)]).map (·.1)).Nodup) (hl : d.length < 1000) : EvD (tPlus K td tk tv) σ H (kvD (d ++ [(k, v)])) := fun H1 e Q q => by
  refine hd H1 e _ fun H2 e2 => ⟨a, kvD d, rfl, e2 _ _ (e _ _ ha), fun H3 p ts e3 hp hts hpt hL pr => ?_⟩
  have x3 : Ex H H3 := (e.trans e2).trans e3
  have key : EvN (tLst (tCons (tTup (tCons tk (tCons tv tNil))) tNil)) σ H3 (fun p H2 => ∃ vs, H2 p = some (.lst vs) ∧ ∃ t, vs = [.ref t] ∧ H2 t = some (.tup [.str k, .int v])) :=
    en_lst (ear_consN (en_U (eu_tup (ea_cons (hk H3 x3) (ea_cons (hv H3 x3) ea_nil)) (by show 2 ≤ 100000; decide))) fun t H4 e4 ht => ear_nil fun H5 e5 => ⟨t, rfl, e5 _ _ ht⟩) (fun vs H4 H5 e5 ⟨t, h1, h2⟩ => ⟨t, h1, e5 _ _ h2⟩) fun vs H4 ⟨t, h1, _⟩ => by rw [h1]; show 1 ≤ 100000; decide
  refine key H3 (Ex.refl _) _ fun p2 H4 hp2 e4 ⟨vs, h1, t, ev, ht⟩ => ?_
  subst ev
  have hlen : ts.length = d.length := by rw [Paired.length pr]; exact List.length_map _
  refine ⟨p, p2, ts.map V.ref, [.ref t], rfl, rfl, e4 _ _ hL, h1, sz_of (by rw [List.length_map]; show ts.length + 1 ≤ 100000; omega), fun r hr => ?_⟩
  have x4 : Ex H3 (upd H4 r (.lst (ts.map V.ref ++ [.ref t]))) := e4.trans (Ex.new hr)
  refine ⟨r, ts ++ [t], kvD (d ++ [(k, v)]), rfl, sq_of (by rw [upd_same, List.map_append]; rfl), ?_, fun p5 hp5 => ?_⟩
  · rw [kvD_app]
    exact paired_app (paired_imp (fun b kv hb => st_of (x4 _ _ hb)) pr) (.cons (st_of (Ex.new hr _ _ ht)) .nil)
  · rw [merge_nil (kvD_nodup nd)]
    have x5 : Ex H1 (upd H4 r (.lst (ts.map V.ref ++ [.ref t]))) := fun b u hb => x4 _ _ (e3 _ _ (e2 _ _ hb))
    exact q p5 _ (fresh_back x5 hp5) (x5.trans (Ex.new hp5)) upd_same
end LdP
/-! # LdO2 -/
/-! The law's defs: _law_keeps, _law_between. -/
namespace LdP
open PySem PySem.Spec PyProof.Rows L2 Evl LiI
section
variable {P : Program} {w : World} {K : PySem.W.Frag} {mg : Str → Option Value} {base : Heap} {X : Cx}
/-- dict(list(e.items()) + [(k, v)]) -/
theorem pe_plus {e ek ev : Expr} {td tk tv : TE} {p1 p2 p3 p4 p5 p6 p7 p8 x1} {op : Operator} (hop : op = .Add) (t : Tx X.K X.mg) (hc : X.calm = true) (he : PE X e td) (hk : PE X ek tk) (hv : PE X ev tv) (gd : Gl X "dict" := by rfl) (gl : Gl X "list" := by rfl)
    (hbase : attributeBase e "items" X.env (eval e X.env) = eval e X.env := by rfl) (hline : (p4.endLine == p5.line) = true := by rfl)
    (hs : starEach [.Call (.Attribute e "items" p4) [] [] p5] X.env = (false, eval (.Call (.Attribute e "items" p4) [] [] p5) X.env) :: starEach [] X.env := by rfl)
    (h1 : starEach [.Tuple [ek, ev] x1 p8] X.env = (false, eval (.Tuple [ek, ev] x1 p8) X.env) :: starEach [] X.env := by rfl) (h2 : starEach [ek, ev] X.env = (false, eval ek X.env) :: starEach [ev] X.env := by rfl) (h3 : starEach [ev] X.env = (false, eval ev X.env) :: starEach [] X.env := by rfl)
    (h4 : starEach [.BinOp (.Call (.Name "list" p3) [.Call (.Attribute e "items" p4) [] [] p5] [] p6) op (.List [.Tuple [ek, ev] x1 p8] p7) p2] X.env = (false, eval (.BinOp (.Call (.Name "list" p3) [.Call (.Attribute e "items" p4) [] [] p5] [] p6) op (.List [.Tuple [ek, ev] x1 p8] p7) p2) X.env) :: starEach [] X.env := by rfl) {p0 : Pos} :
    PE X (.Call (.Name "dict" p1) [.BinOp (.Call (.Name "list" p3) [.Call (.Attribute e "items" p4) [] [] p5] [] p6) op (.List [.Tuple [ek, ev] x1 p8] p7) p2] [] p0) (tPlus X.K td tk tv) := by
  subst hop
  exact pe_callTy (call_dictP hc) gd t.f_dict boot_dict' (pa_cons (pe_op op_cat (pe_listItems hc he gl t.f_list boot_list' hbase hline hs) (pe_lst (pa_cons (pe_tup (pa_cons hk (pa_cons hv pa_nil h3) h2)) pa_nil h1))) pa_nil h4) (he := h4)
def spLkeeps (K : PySem.W.Frag) : Sp := fun vs H Q _ => ∃ (d c : Addr) (dt : Ld.Dt Str) (cs : List Cl), vs = [.ref d, .ref c] ∧ H d = some (obD dt) ∧ ClsAt H c cs ∧ (dt.map (·.1) ++ [day]).Nodup ∧ dt.length ≤ 8 ∧ cs.length ≤ 100 ∧ (∀ x ∈ cs, x.one ∈ dt.map (·.1) ++ [day] ∧ x.other ∈ dt.map (·.1) ++ [day]) ∧
  ∀ H', Ex H H' → Q (.bl (Ld.keeps cs dt)) H'
theorem ok_Lkeeps (t : Tx K mg) : Ok P w K mg base 1 (He.ga K "_law_keeps") p_Lkeeps (spLkeeps K) := by
  obtain ⟨fd, F⟩ := t.def_Lkeeps
  refine ok_of F sc_Lkeeps (fun _ _ _ _ _ _ us hl => match us, hl with | [_, _], _ => rfl) (fun vs H Q E h => ?_) (fun cdv A outer s H vs Q E hr h => ?_)
  · obtain ⟨d, c, dt, cs, rfl, _⟩ := h
    rfl
  · obtain ⟨d, c, dt, cs, rfl, hd, ⟨ts, hc1, hc2⟩, hn, h8, h100, hm, q⟩ := h
    have hu := hu_of hr
    refine ⟨_, pss_cons (ps_set (i := 2) sc_Lkeeps.nd rfl (Or.inr rfl) (pe_plus rfl t rfl (pv 0) pe_str pe_int))
      (pss_one (ps_ret (pe_callB (cr_all rfl) (by rfl) t.f_all boot_all' (pa_cons (pe_lc (own := [("_law_fore", 3), ("_law_aft", 4), ("_law_many", 5)]) (g := gTup K 3 (gCons (gName 3) (gCons (gName 4) (gCons (gName 5) gNil))))
          (te := tOp (rI0 fun i j => .bl (decide (i ≤ j))) (tDGet (tVar 2) (tVar 3)) (tOp (rI0 fun i j => .int (i + j)) (tDGet (tVar 2) (tVar 4)) (tVar 5))) rfl sc_Lkeeps.nd (pi_list (pv 1)) (blkOk_by (own := [("_law_fore", 3), ("_law_aft", 4), ("_law_many", 5)]) (N := n_Lkeeps) (sc := defScope s_Lkeeps) (by decide +kernel))
          (fun _ _ _ _ _ => pg_tup rfl (pgs_cons (pg_name (i := 3) sc_Lkeeps.nd rfl (Or.inl rfl)) (pgs_cons (pg_name (i := 4) sc_Lkeeps.nd rfl (Or.inl rfl)) (pgs_cons (pg_name (i := 5) sc_Lkeeps.nd rfl (Or.inl rfl)) pgs_nil))))
          (fun _ _ _ _ _ => pts_nil)
          (fun _ _ _ _ _ => pe_cmpR op_le (pe_dget (by exact hu) (pv 2) (pv 3) (fun _ _ => rfl)) (pe_op op_add (pe_dget (by exact hu) (pv 2) (pv 4) (fun _ _ => rfl)) (pv 5)) (nomark _))) pa_nil)))), ?_⟩
    have hday : day ∉ dt.map (·.1) := fun h => by
      rw [List.nodup_append] at hn
      exact hn.2.2 _ h _ (List.mem_singleton.mpr rfl) rfl
    refine q_asgD (ed_plus (d := dt) (k := day) (v := 0) (ev_var rfl) hd (fun _ _ => ev_c) (fun _ _ => ev_c) (by rw [List.map_append]; exact hn) (by omega)) fun p H1 hp e1 hD => ?_
    have key := el_lcC (K := K) (σ := [some (.ref d), some (.ref c), some (.ref p), none, none, none]) (H := H1) (a := c) (ts := ts) (cs := cs) (i0 := 3) (i1 := 4) (i2 := 5) (vs := [3, 4, 5]) (tl := tVar 1)
      (te := tOp (rI0 fun i j => .bl (decide (i ≤ j))) (tDGet (tVar 2) (tVar 3)) (tOp (rI0 fun i j => .int (i + j)) (tDGet (tVar 2) (tVar 4)) (tVar 5))) (fun c => V.bl (decide (Ld.dv dt c.one ≤ Ld.dv dt c.other + c.num)))
      (ev_var rfl) (e1 _ _ hc1) (hc2.ex e1) (by omega) (fun _ _ _ => rfl) (fun cl H5 e5 hcl => by
        obtain ⟨h1, h2⟩ := hm cl hcl
        exact ev_op (ev_dget (k := Sum.inr cl.one) (ev_var rfl) (ev_var rfl) (e5 _ _ hD) (dayed_val rfl hday h1)) (ev_op (ev_dget (k := Sum.inr cl.other) (ev_var rfl) (ev_var rfl) (e5 _ _ hD) (dayed_val rfl hday h2)) (ev_var rfl) rv_I0) (rv_I0 (g := fun i j => .bl (decide (i ≤ j)))))
    have ek : cs.map (fun c => V.bl (decide (Ld.dv dt c.one ≤ Ld.dv dt c.other + c.num))) = (cs.map fun c => decide (Ld.dv dt c.one ≤ Ld.dv dt c.other + c.num)).map V.bl := by rw [List.map_map]; rfl
    rw [ek] at key
    refine s_ret (ev_allN key) fun H5 e5 => ?_
    have := q H5 (e1.trans e5)
    have e : (cs.map fun c => decide (Ld.dv dt c.one ≤ Ld.dv dt c.other + c.num)).all id = Ld.keeps cs dt := by
      unfold Ld.keeps
      rw [List.all_map]
      rfl
    rw [e]
    exact this
end
end LdP
/-! # LdO3 -/
/-! The law's defs: _law_between. -/
namespace LdP
open PySem PySem.Spec PyProof.Rows L2 Evl LiI
section
variable {base : Heap} {mg : Str → Option Value} {K : PySem.W.Frag} {w : World} {P : Program}
def btw (dt : Ld.Dt Str) (f g : Str) (i j : Int) : Int := Ld.dv dt f + i - Ld.dv dt g - j
def spLbetween (K : PySem.W.Frag) : Sp := fun vs H Q _ => ∃ (d p1 p2 : Addr) (dt : Ld.Dt Str) (f g : Str) (i j : Int), vs = [.ref d, .ref p1, .ref p2] ∧ H d = some (obD dt) ∧ H p1 = some (.tup [.str f, .int i]) ∧ H p2 = some (.tup [.str g, .int j]) ∧ (dt.map (·.1) ++ [day]).Nodup ∧ dt.length ≤ 8 ∧ f ∈ dt.map (·.1) ++ [day] ∧ g ∈ dt.map (·.1) ++ [day] ∧
  ∀ H', Ex H H' → Q (.int (btw dt f g i j)) H'
theorem ok_Lbetween (t : Tx K mg) : Ok P w K mg base 1 (He.ga K "_law_between") p_Lbetween (spLbetween K) := by
  obtain ⟨fd, F⟩ := t.def_Lbetween
  refine ok_of F sc_Lbetween (fun _ _ _ _ _ _ us hl => match us, hl with | [_, _, _], _ => rfl) (fun vs H Q E h => ?_) (fun cdv A outer s H vs Q E hr h => ?_)
  · obtain ⟨d, p1, p2, dt, f, g, i, j, rfl, _⟩ := h
    rfl
  · obtain ⟨d, p1, p2, dt, f, g, i, j, rfl, hd, h1, h2, hn, h8, hf, hg, q⟩ := h
    have hu := hu_of hr
    refine ⟨_, pss_cons (ps_set (i := 3) sc_Lbetween.nd rfl (Or.inl rfl) (pe_plus rfl t rfl (pv 0) pe_str pe_int))
      (pss_one (ps_ret (pe_op op_sub (pe_op op_sub (pe_op op_add (pe_dget (by exact hu) (pv 3) (pe_ix ix_tup (pv 1) pe_int (fun _ _ => rfl)) (fun _ _ => rfl)) (pe_ix ix_tup (pv 1) pe_int (fun _ _ => rfl)))
        (pe_dget (by exact hu) (pv 3) (pe_ix ix_tup (pv 2) pe_int (fun _ _ => rfl)) (fun _ _ => rfl))) (pe_ix ix_tup (pv 2) pe_int (fun _ _ => rfl))))), ?_⟩
    have hday : day ∉ dt.map (·.1) := fun h => by
      rw [List.nodup_append] at hn
      exact hn.2.2 _ h _ (List.mem_singleton.mpr rfl) rfl
    refine q_asgD (ed_plus (d := dt) (k := day) (v := 0) (ev_var rfl) hd (fun _ _ => ev_c) (fun _ _ => ev_c) (by rw [List.map_append]; exact hn) (by omega)) fun p H1 hp e1 hD => ?_
    refine s_ret (v := .int (btw dt f g i j)) ?_ fun H5 e5 => q H5 (e1.trans e5)
    exact ev_op (ev_op (ev_op (ev_dget (k := Sum.inr f) (ev_var rfl) (ev_op (ev_var rfl) ev_c (rv_ixT (st_of (e1 _ _ h1)) rfl)) hD (dayed_val rfl hday hf)) (ev_op (ev_var rfl) ev_c (rv_ixT (st_of (e1 _ _ h1)) rfl)) (rv_I0 (g := fun i j => .int (i + j))))
      (ev_dget (k := Sum.inr g) (ev_var rfl) (ev_op (ev_var rfl) ev_c (rv_ixT (st_of (e1 _ _ h2)) rfl)) hD (dayed_val rfl hday hg)) (rv_I0 (g := fun i j => .int (i - j)))) (ev_op (ev_var rfl) ev_c (rv_ixT (st_of (e1 _ _ h2)) rfl)) (rv_I0 (g := fun i j => .int (i - j)))
end
end LdP
/-! # LdO4 -/
/-! The pot: told as bounded only. -/
namespace LdP
open PySem PySem.Spec PyProof.Rows L2 Evl
/-- two ints at p -/
def PotAt (p : Addr) (x y : Int) (h : Heap) : Prop := ∃ (its : List Value) (n : Nat), Vals [.int x, .int y] its ∧ h.get? p = some { cls := .type "list", data := .seq its.toArray n }
def PotB (x y : Int) : Prop := 0 ≤ x ∧ 0 ≤ y ∧ y < 2147483650
def potO (p : Addr) : HO := .ext fun h => ∃ x y, PotB x y ∧ PotAt p x y h
section
variable {P : Program} {w : World}
/-- another telling of the object at p -/
theorem hok_re {H : Hp} {h : Heap} {p : Addr} {o o' : HO} (x : HOk P w H h) (hp : H p = some o) (no : (∀ b, o ≠ .own b) ∧ (∀ xs, o ≠ .tup xs)) (new : ObjOk P w (upd H p o') h p o') : HOk P w (upd H p o') h := fun b u ez => by
  by_cases hb : b = p
  · subst hb; rw [upd_same] at ez; cases ez; exact new
  · rw [upd_ne hb] at ez
    have np : ∀ c v, H c = some v → c = p → v = o := fun c v hc z => by subst z; rw [hp] at hc; exact (Option.some.inj hc).symm
    refine (x b u ez).stay (fun _ _ _ z => z) (fun c q => ?_) fun c xs q => ?_
    · rw [upd_ne fun z => no.1 _ (np _ _ q z).symm]; exact q
    · rw [upd_ne fun z => no.2 _ (np _ _ q z).symm]; exact q
theorem pot_tell {H : Hp} {h : Heap} {p : Addr} (x : HOk P w H h) (hp : H p = some (potO p)) : ∃ x y, PotB x y ∧ HOk P w (upd H p (.lst [.int x, .int y])) h := by
  obtain ⟨⟨a, b, hb, its, n, r, e⟩, _, _⟩ := (show ObjOk P w H h p (potO p) from x p _ hp)
  exact ⟨a, b, hb, hok_re x hp ⟨fun _ => by unfold potO; nofun, fun _ => by unfold potO; nofun⟩ ⟨by show 2 ≤ sizeLine; rw [sizeLine_eq]; decide, its, n, r, e⟩⟩
theorem pot_back {H : Hp} {h : Heap} {p : Addr} {a b : Int} (x : HOk P w H h) (hp : H p = some (.lst [.int a, .int b])) (hb : PotB a b) : HOk P w (upd H p (potO p)) h := by
  obtain ⟨_, its, n, r, e⟩ := (show ObjOk P w H h p (.lst [.int a, .int b]) from x p _ hp)
  exact hok_re x hp ⟨nofun, nofun⟩ ⟨⟨a, b, hb, its, n, r, e⟩, ⟨_, e⟩, fun h1 h2 ⟨a1, b1, hb1, its1, n1, r1, e1⟩ k => ⟨a1, b1, hb1, its1, n1, r1, k _ e1⟩⟩
end
end LdP
/-! # LdO5 -/
/-! A def that draws: its promise, the pot told as bounded. -/
namespace LdP
open PySem PySem.Spec PyProof.Rows L2 Evl
section
variable {P : Program} {w : World} {K : PySem.W.Frag} {mg : Str → Option Value} {base : Heap} {k : Nat} {f : Addr} {fd : FuncData} {ps : List Str} {sp sp2 : Sp}
theorem fnok_pot (F : FnOk P w K mg base CX0 k f fd ps sp2) (h : ∀ vs H Q E, sp vs H Q E → ∃ p, H p = some (potO p) ∧ ∀ x y, PotB x y → sp2 vs (upd H p (.lst [.int x, .int y])) (fun v H' => ∃ x' y', PotB x' y' ∧ H' p = some (.lst [.int x', .int y']) ∧ Q v (upd H' p (potO p))) E)
    (len : ∀ vs H Q E, sp vs H Q E → vs.length = ps.length) : FnOk P w K mg base CX0 k f fd ps sp := by
  refine ⟨len, fun Az outerz sz H argsz usz vs Q E hrz e0z hbz rz hspz => ?_⟩
  obtain ⟨p, hp, q⟩ := h vs H Q E hspz
  obtain ⟨x, y, hxy, hok⟩ := pot_tell e0z.hok hp
  have nH : ∀ b, H b = none → upd H p (.lst [.int x, .int y]) b = none := fun b e => by rw [upd_ne (fun z => by rw [z, hp] at e; cases e)]; exact e
  have ne : ∀ b o, H b = some o → o ≠ potO p → b ≠ p := fun b o e n z => by subst z; rw [hp] at e; exact n (Option.some.inj e).symm
  have e1 : Env0 P w K mg base Az outerz sz (upd H p (.lst [.int x, .int y])) := ⟨e0z.frames, e0z.mod, fun b o e => ⟨(e0z.bs b o e).1, nH b (e0z.bs b o e).2⟩, e0z.bsz, e0z.funs, fun b m => nH b (e0z.frf b m), hok, e0z.bare⟩
  refine codeAny_mono (F.run Az outerz sz _ argsz usz vs _ E hrz e1 hbz rz (q x y hxy)) fun res s' hq => ?_
  cases res with
  | error e => exact hq
  | ok fl =>
    cases fl with
    | ret u =>
      obtain ⟨v, H', os, bare, un, hok', rv, x', y', hb', hp', hQ⟩ := hq
      refine ⟨v, upd H' p (potO p), os, bare, ⟨fun b o e n => un.keep b o e (nH b n), fun b o e n => un.slot b o e (nH b n), fun b o e n hx => ?_, fun b o e hx => un.there b o e hx, fun b xs e => ?_, fun b o u e => ?_, fun b pz e => ?_⟩, pot_back hok' hp' hb', rv, hQ⟩
      · rw [upd_ne (fun z => by rw [z, hp] at n; cases n)]
        exact un.free b o e (nH b n) hx
      · have hbz := ne b _ e (by unfold potO; nofun)
        rw [upd_ne hbz]
        exact un.tups b xs (by rw [upd_ne hbz]; exact e)
      · have hbz := ne b _ e (by unfold potO; nofun)
        rw [upd_ne hbz]
        exact un.frzs b o u (by rw [upd_ne hbz]; exact e)
      · have hbz := ne b _ e (by unfold potO; nofun)
        obtain ⟨more, h1⟩ := un.tbls b pz (by rw [upd_ne hbz]; exact e)
        exact ⟨more, by rw [upd_ne hbz]; exact h1⟩
    | next => exact hq
    | brk => exact hq
    | cont => exact hq
theorem Ok.pot (F : Ok P w K mg base k f ps sp2) (h : ∀ vs H Q E, sp vs H Q E → ∃ p, H p = some (potO p) ∧ ∀ x y, PotB x y → sp2 vs (upd H p (.lst [.int x, .int y])) (fun v H' => ∃ x' y', PotB x' y' ∧ H' p = some (.lst [.int x', .int y']) ∧ Q v (upd H' p (potO p))) E)
    (len : ∀ vs H Q E, sp vs H Q E → vs.length = ps.length) : Ok P w K mg base k f ps sp := ⟨let ⟨fd, F1, F2⟩ := F.ex; ⟨fd, fnok_pot F1 h len, F2⟩, F.kp⟩
end
end LdP
/-! # LdR1 -/
/-! repr of dates, of a list of dates. -/
namespace LdP
open PySem PySem.Spec PyProof.Rows L2 Evl
def dD (d : Ld.Dt Str) : PyData := .dict (d.map fun p => (.str p.1, .int p.2))
def dLs (ds : List (Ld.Dt Str)) : PyData := .list (ds.map dD)
/-- few labels, short ones; days near 0 -/
structure SmD (d : Ld.Dt Str) : Prop where
  len : d.length ≤ 8
  str : ∀ p ∈ d, (∀ c ∈ p.1.cps.toList, c < 16 ^ 8) ∧ p.1.cps.size ≤ 10
  day : ∀ p ∈ d, -4 ≤ p.2 ∧ p.2 ≤ 6
theorem int_small {i : Int} (h : -4 ≤ i ∧ i ≤ 6) : (PyData.shown (.int i)).length ≤ 8 ∧ i.natAbs.log2 < 1920 := by
  have : i = -4 ∨ i = -3 ∨ i = -2 ∨ i = -1 ∨ i = 0 ∨ i = 1 ∨ i = 2 ∨ i = 3 ∨ i = 4 ∨ i = 5 ∨ i = 6 := by omega
  rcases this with rfl | rfl | rfl | rfl | rfl | rfl | rfl | rfl | rfl | rfl | rfl <;> exact ⟨by decide +kernel, by decide +kernel⟩
def kvP (d : Ld.Dt Str) : List (PyData × PyData) := d.map fun p => (.str p.1, .int p.2)
theorem kvP_ok : ∀ (d : Ld.Dt Str), (∀ p ∈ d, (∀ c ∈ p.1.cps.toList, c < 16 ^ 8) ∧ p.1.cps.size ≤ 10) → (∀ p ∈ d, -4 ≤ p.2 ∧ p.2 ≤ 6) →
    PyData.leavesShortKv 8 (kvP d) = true ∧ PyData.showableKv (kvP d) = true ∧ PyData.bulkKv (kvP d) ≤ 12 * d.length ∧ PyData.depthKv (kvP d) = 0
  | [], _, _ => ⟨rfl, rfl, by show 0 ≤ _; omega, rfl⟩
  | (k, v) :: r, h1, h2 => by
    obtain ⟨a, b, c, e⟩ := kvP_ok r (fun p hp => h1 p (by simp [hp])) fun p hp => h2 p (by simp [hp])
    obtain ⟨s1, s2⟩ := h1 (k, v) (by simp)
    obtain ⟨i1, i2⟩ := int_small (h2 (k, v) (by simp))
    have hk : kvP ((k, v) :: r) = (PyData.str k, PyData.int v) :: kvP r := rfl
    rw [hk]
    have e1 : PyData.leavesShort 8 (.str k) = true := by
      simp only [PyData.leavesShort, List.all_eq_true, decide_eq_true_eq]
      exact s1
    have e2 : PyData.leavesShort 8 (.int v) = true := by
      simp only [PyData.leavesShort, decide_eq_true_eq]
      exact i1
    have e3 : PyData.showable (.int v) = true := by
      simp only [PyData.showable, decide_eq_true_eq]; exact i2
    refine ⟨by simp only [PyData.leavesShortKv, e1, e2, a, Bool.and_self], by simp only [PyData.showableKv, e3, b, Bool.and_true]; simp only [PyData.showable], ?_, ?_⟩
    · simp only [PyData.bulkKv, PyData.bulk, List.length_cons]
      have : k.cps.size ≤ 10 := s2
      omega
    · simp only [PyData.depthKv, PyData.depth, e]
      rfl
theorem dD_ok {d : Ld.Dt Str} (h : SmD d) : PyData.leavesShort 8 (dD d) = true ∧ PyData.showable (dD d) = true ∧ PyData.bulk (dD d) ≤ 96 ∧ PyData.depth (dD d) = 1 := by
  obtain ⟨a, b, c, e⟩ := kvP_ok d h.str h.day
  have hd : dD d = .dict (kvP d) := rfl
  have := h.len
  rw [hd]
  refine ⟨by simp only [PyData.leavesShort]; exact a, by simp only [PyData.showable]; exact b, by simp only [PyData.bulk]; omega, by simp only [PyData.depth, e]⟩
theorem dD_len {d : Ld.Dt Str} (h : SmD d) : (dD d).shown.length ≤ sizeLine := by
  obtain ⟨a, _, c, _⟩ := dD_ok h
  have := PyData.shown_le_bulk 8 (Nat.le_refl _) (dD d) a
  rw [sizeLine_eq]
  omega
theorem dAll_ok : ∀ (ds : List (Ld.Dt Str)), (∀ d ∈ ds, SmD d) → PyData.leavesShortAll 8 (ds.map dD) = true ∧ PyData.showableAll (ds.map dD) = true ∧ PyData.bulkAll (ds.map dD) ≤ 97 * ds.length ∧ PyData.depthAll (ds.map dD) ≤ 1
  | [], _ => ⟨rfl, rfl, by show 0 ≤ _; omega, by show 0 ≤ 1; omega⟩
  | d :: r, h => by
    obtain ⟨a, b, c, e⟩ := dAll_ok r fun x hx => h x (by simp [hx])
    obtain ⟨a1, b1, c1, e1⟩ := dD_ok (h d (by simp))
    rw [List.map_cons]
    refine ⟨by simp only [PyData.leavesShortAll, a, a1, Bool.and_self], by simp only [PyData.showableAll, b, b1, Bool.and_self], ?_, ?_⟩
    · simp only [PyData.bulkAll, List.length_cons]
      omega
    · simp only [PyData.depthAll, e1]
      omega
theorem dLs_len {ds : List (Ld.Dt Str)} (h : ∀ d ∈ ds, SmD d) (hz : ds.length ≤ 4096) : (dLs ds).shown.length ≤ sizeLine := by
  obtain ⟨a, _, c, _⟩ := dAll_ok ds h
  have := PyData.shown_le_bulk 8 (Nat.le_refl _) (dLs ds) (by unfold dLs; simp only [PyData.leavesShort]; exact a)
  have e : PyData.bulk (dLs ds) = PyData.bulkAll (ds.map dD) := by unfold dLs; simp only [PyData.bulk]
  rw [e] at this
  rw [sizeLine_eq]
  omega
/-! ### read off the heap -/
section
variable {P : Program} {w : World} {H : Hp} {h : Heap}
theorem reads_kv : ∀ {d : Ld.Dt Str} {vs : List (Key × Value)} {es : List DictEntry}, KV (kvD d) vs → Pairs (mixKind P w) es vs → ReadsAll h (es.map (·.key)) ((kvP d).map (·.1)) [] ∧ ReadsAll h (es.map (·.val)) ((kvP d).map (·.2)) []
  | [], _, _, .nil, .nil => ⟨.nil, .nil⟩
  | (k, v) :: r, _, _, .cons hq t, .cons h1 h2 t2 => by
    obtain ⟨a, b⟩ := reads_kv t t2
    obtain ⟨q1, q2⟩ := hq
    have q1 : Sum.inr k = _ := q1
    rw [← q1] at h1
    rcases keyIs_shape (show keyIs (Sum.inr k) _ = true from h1) with ⟨_, _, z, _⟩ | ⟨x, tk, z, e1⟩
    · cases z
    · cases z
      obtain ⟨tv, e2⟩ : ∃ tv, _ = Value.int v tv := relV_int q2
      refine ⟨?_, ?_⟩
      · rw [List.map_cons, e1]
        exact ReadsAll.cons (as := []) (bs := []) (.str k tk) a
      · rw [List.map_cons, h2, e2]
        exact ReadsAll.cons (as := []) (bs := []) (.int v tv) b
where
  relV_int {v : Int} {u : Value} (r : RelV (.int v) u) : ∃ tv, u = Value.int v tv := by
    exact r
theorem reads_D {a : Addr} {d : Ld.Dt Str} (x : HOk P w H h) (ha : H a = some (obD d)) : Reads h (.ref a) (dD d) [a] ∧ a ≠ sysModules := by
  obtain ⟨z, ys, vs, r, o, es, ep, e, c, dt, _, ps, _⟩ := (show ObjOk P w H h a (.dK (kvD d)) from x a _ ha)
  obtain ⟨r1, r2⟩ := reads_kv (h := h) r ps
  exact ⟨Reads.dict (as := []) (bs := []) e c.1 dt r1 r2, fun q => by rw [q] at ys; exact absurd ys (by decide)⟩
theorem reads_Ls (x : HOk P w H h) : ∀ {as : List Addr} {ds : List (Ld.Dt Str)} {its : List Value}, AllO obD H as ds → Vals (as.map V.ref) its → ∃ bs, ReadsAll h its (ds.map dD) bs ∧ sysModules ∉ bs
  | _, _, _, .nil, .nil => ⟨[], .nil, List.not_mem_nil⟩
  | a :: as, d :: ds, _, .cons h1 t, .cons r1 rr => by
    obtain ⟨bs, q1, q2⟩ := reads_Ls x t rr
    obtain ⟨p1, p2⟩ := reads_D x h1
    cases r1
    exact ⟨[a] ++ bs, .cons p1 q1, fun m => by
      rcases List.mem_append.mp m with m | m
      · exact p2 (List.mem_singleton.mp m).symm
      · exact q2 m⟩
variable {s : Shared} {A : Around} {Q : Value → Shared → Prop} {E : Value → Shared → Prop}
/-- repr of a list, the list wherever it lies -/
theorem repr_lst {p : Addr} {o : Obj} {vs : Array Value} {n : Nat} {xs : List PyData} {as : List Addr} (h1 : s.heap.get? p = some o) (h2 : o.cls = .type "list") (h3 : o.data = .seq vs n) (h4 : ReadsAll s.heap vs.toList xs as) (hs : PyData.showableAll xs = true) (hsm : sysModules ∉ as)
    (hg : A.guards = some []) (hu : A.units + ((PyData.list xs).depth + 1) < cLine) (hz : (PyData.list xs).shown.length ≤ sizeLine)
    (hQ : ∀ h' u tk, (∀ b o, s.heap.get? b = some o → h'.get? b = some o) → Q (.str (PyData.list xs).shown u) { s with heap := h', toks := tk }) : wpAny (model P w) A (call (.builtin "repr") [.ref p]) Q E s := by
  have hz2 : (listText (PyData.shownAll xs)).length ≤ sizeLine := by simpa only [PyData.shown] using hz
  obtain ⟨bs, hb, hk⟩ := ReprAllK.of_readsAll (prog := P) (w := w) h4 hs (fun _ => hsm) fun t ht => Nat.le_trans (listText_mem_le ht) hz2
  have far : p ∉ bs := not_mem_of_deeper (.list h1 h2 h3 h4) (by simp only [PyData.depth]; omega) hb
  refine call_repr_slot (T := "list") (idr := "list.__repr__") (by omega) ⟨o, h1, h2⟩ F.slot_list_repr.toG ?_
  simp only [PyData.depth] at hu; simp only [PyData.shown] at hQ
  obtain ⟨l⟩ := vs
  cases l with
  | nil =>
    cases (show ReadsAll s.heap [] xs _ from h4)
    simp only [PyData.shownAll, listText_nil] at hQ; exact call_list_repr_empty ⟨o, h1, h2⟩ h1 h3 ⟨_, _, rfl, hQ s.heap _ _ fun _ _ e => e⟩
  | cons x l =>
    exact call_list_reprK h1 h2 h3 far (by simpa using hk.length_eq) (fun i y e => hk.item i y (by simpa using e)) (A := A.in1) hg (fun b _ => Clear.nil b) (by show A.units + 1 + (_ + 1) < cLine; omega) (fun _ _ e => e) (fun h' u tk k => ⟨_, _, rfl, hQ h' u tk k⟩) hz2
end
/-- repr(x), x dates or a list of dates -/
def rRep : List V → Hp → VK → Prop := fun xs H Q => ∃ p, xs = [.ref p] ∧ ((∃ d, SmD d ∧ H p = some (obD d) ∧ Q (.str (dD d).shown) H) ∨ ∃ ds, ds.length ≤ 4096 ∧ (∀ d ∈ ds, SmD d) ∧ ListO obD H p ds ∧ Q (.str (dLs ds).shown) H)
section
variable {X : Cx} {G : Array GenState}
theorem rep_run (hg : X.A.guards = some []) (hu : X.A.units + 10 < cLine) {pins : List (Addr × Obj)} {s : Shared} {σ : L2.St} {H : Hp} {xs : List V} {us : List Value} {Q : VK} {E : Value → Shared → Prop} (I : Inv X pins σ H s) (hs : s.gens = G) (r : Vals xs us) (h : rRep xs H Q) :
    wpAny (model X.prog X.w) X.A (call (.builtin "repr") us) (fun u s' => EP X pins σ Q u s' ∧ s'.gens = G) E s := by
  obtain ⟨p, rfl, h⟩ := h
  obtain ⟨u, rfl, ruz⟩ := vals1 r
  cases ruz
  rcases h with ⟨d, sm, hp, q⟩ | ⟨ds, hz, sm, ⟨as, hp, hal⟩, q⟩
  · obtain ⟨r1, r2⟩ := reads_D I.hok hp
    obtain ⟨_, b, _, e⟩ := dD_ok sm
    exact repr_of_reads' r1 b (fun _ m => r2 (List.mem_singleton.mp m).symm) hg (by rw [e]; omega) (fun _ _ z => z) (fun h' u tk k => ⟨⟨.str (dD d).shown, H, I.kept k, ⟨_, rfl⟩, q⟩, hs⟩) (dD_len sm)
  · obtain ⟨hz2, its, n, rv, e⟩ := (show ObjOk X.prog X.w H s.heap p (.lst (as.map V.ref)) from I.hok p _ hp)
    obtain ⟨bs, r1, r2⟩ := reads_Ls I.hok hal rv
    obtain ⟨_, b, _, c⟩ := dAll_ok ds sm
    refine repr_lst (xs := ds.map dD) e rfl rfl (by simpa using r1) b r2 hg ?_ (dLs_len sm hz) fun h' u tk k => ⟨⟨.str (dLs ds).shown, H, I.kept k, ⟨_, rfl⟩, q⟩, hs⟩
    simp only [PyData.depth]
    omega
theorem call_rep (hg : X.A.guards = some []) (hu : X.A.units + 10 < cLine) : CallR X (.builtin "repr") rRep := fun pins s σ H xs us Q I r h => wpAny_mono (rep_run hg hu I rfl r h) (fun _ _ z => z.1) fun _ _ z => z
theorem cg_rep (hg : X.A.guards = some []) (hu : X.A.units + 10 < cLine) : CallG X G (.builtin "repr") rRep := fun pins s σ H xs us Q I hs r h => wpAny_mono (rep_run hg hu I hs r h) (fun _ _ z => z.2) fun _ _ z => z
end
end LdP
/-! # LdQ1 -/
/-! Defs that call repr: their promise where no repr runs around them. -/
namespace LdP
open PySem PySem.Spec PyProof.Rows L2 Evl
/-- the def at f keeps the promise sp, where no repr runs around it -/
structure OkQ (P : Program) (w : World) (K : PySem.W.Frag) (mg : Str → Option Value) (base : Heap) (k : Nat) (f : Addr) (ps : List Str) (sp : Sp) : Prop where
  ex : ∃ fd, (∀ vs H Q E, sp vs H Q E → vs.length = ps.length) ∧ (∀ (A : Around) (outer : List Env) (s : Shared) (H : Hp) (args : Args) (us : List Value) (vs : List V) (Q : VK) (E : XK), A.guards = some [] → Room k A → Env0 P w K mg base A outer s H →
    BindsTo s fd args (ps.zip us) → Vals vs us → sp vs H Q E → codeAny (model P w) A (.call (.ref f) args) (CR CX0 outer P w H s Q E) s) ∧ Binds K fd ps []
  kp : (PySem.W.keepIn K (.ref f)) = true
section
variable {P : Program} {w : World} {K : PySem.W.Frag} {mg : Str → Option Value} {base : Heap} {k : Nat} {f : Addr} {ps N : List Str} {sp : Sp}
theorem OkQ.mono {j : Nat} (F : OkQ P w K mg base j f ps sp) (h : j ≤ k) : OkQ P w K mg base k f ps sp :=
  ⟨let ⟨fd, F1, F2, F3⟩ := F.ex; ⟨fd, F1, fun A outer s H args us vs Q E g r => F2 A outer s H args us vs Q E g (r.mono h), F3⟩, F.kp⟩
/-- from the body -/
theorem okq_of {x qual : Str} {params : Arguments} {body : List Stmt} {scope : Scope} {fd : FuncData} (F : FunD K x qual params body scope [] [] f fd) (S : FnScope N ps scope)
    (hb : ∀ (kV doc pm : Value) (an : Option Addr) (cdv ct : Value) (us : List Value), us.length = ps.length → bindArgs (PySem.W.fnOf x qual params body scope .none kV doc pm an cdv ct) ⟨us, []⟩ = pure (ps.zip us))
    (len : ∀ vs H Q E, sp vs H Q E → vs.length = ps.length) (run : ∀ (cdv : Value) (A : Around) (outer : List Env) (s : Shared) (H : Hp) (vs : List V) (Q : VK) (E : XK), A.guards = some [] → Room k (A.deeper (envOfC qual scope s.heap.objs.size f cdv)) → sp vs H Q E →
      ∃ t, PSs (cx P w K mg base N qual scope f cdv A outer s H E) body t ∧ t (wish Q) (start N vs) H) : OkQ P w K mg base (k + 1) f ps sp := by
  have hbd := F.bindsN hb
  obtain ⟨ocz, odz, dVz, kV, doc, pm, an, cdv, ct, oslz, rfl, lkz, hcdz, _, _⟩ := F.ex
  refine ⟨⟨_, len, fun A outer s H args us vs Q E hg hr e0 hb r hsp => ?_, hbd⟩, F.kp⟩
  have kp : ∀ b o, base.get? b = some o → s.heap.get? b = some o := fun b o e => (e0.bs b o e).1
  have hkind : ∀ y ∈ ps.zip us, scope.names.lookup y.1 = some .local ∨ (scope.names.lookup y.1 = some .cell ∧ ((cellsFrom (s.heap.objs.size + 1) scope.names []).lookup y.1).isSome = true) := fun ⟨n, v⟩ hy =>
    (S.par n (List.of_mem_zip hy).1).elim .inl fun q => .inr ⟨q, PySem.W.cellsFrom_some _ _ _ (.inl q)⟩
  have hcr := PySem.W.codeRec_of (e0.mod.kin.keeps kp) hcdz
  refine codeAny_call_function hr.depth (e0.mod.kin.keeps kp _ _ lkz) rfl S.co S.gen rfl hcr (hb _ _ _ _ (wpAny_newFunctionEnv_cells S.kind hkind fun env he s1 x => ?_))
  subst he
  refine ⟨(e0.mod.nolimit.keeps kp).keeps x.toInCall.keep, codeAny_func ?_⟩
  obtain ⟨t, ht, hq⟩ := run cdv A outer s H vs Q E hg (hr.deeper _) hsp
  have I := inv_start (CX := CX0) (E := E) S hr.hd e0 (len _ _ _ _ hsp) r x
  refine wpAny_mono (ht.nox.run [] s1 (start N vs) H _ I hq) (fun fl s2 hs => ?_) fun e s2 hs => hs
  cases fl with
  | ret u =>
    obtain ⟨v, σ2, H2, J, rv, q⟩ := hs
    exact ⟨v, H2, J.os, J.bare, J.base, J.hok, rv, q⟩
  | next =>
    obtain ⟨σ2, H2, J, q⟩ := hs
    exact ⟨V.non, H2, J.os, J.bare, J.base, J.hok, rfl, q⟩
  | brk => obtain ⟨_, _, _, q⟩ := hs; exact q.elim
  | cont => obtain ⟨_, _, _, q⟩ := hs; exact q.elim
end
section
variable {X : Cx} {k : Nat} {f : Addr} {ps : List Str} {sp : Sp} {x : Str} {p pos : Pos} {e : Expr} {es : List Expr} {t : TA}
/-- f(e, ..) of such a def -/
theorem pe_fq (F : OkQ X.prog X.w X.K X.mg X.base k f ps sp) (hgd : X.A.guards = some []) (hr : Room k X.A) (hm : X.mg x = some (.ref f)) (ha : PA X (e :: es) t) (hg : Gl X x := by rfl) (hdb : (x == ("__debug__" : Str)) = false := by decide)
    (he : starEach (e :: es) X.env = (false, eval e X.env) :: starEach es X.env := by rfl) (hpl : (backTo pos (starEach es X.env)).any (·.1) = false := by rfl) : PE X (.Call (.Name x p) (e :: es) [] pos) (tCall sp [] E0 t) := by
  obtain ⟨fd, F1, F2, F3⟩ := F.ex
  refine ⟨fun pinsz sz σz Hz Qz Iz hz => ?_⟩
  refine wpAny_Call_Name_kw (ld_glob Iz hg hm (PySem.W.callWith_K (h₀ := X.base) Iz.ok.mod.kin F.kp (thn (ha.run pos pinsz sz σz Hz _ Iz hz) fun us s1 ⟨vs, H1, I1, r, q⟩ => ⟨I1.kIn, ?_⟩) he hpl) hdb)
  have q2 : sp (vs ++ []) H1 Qz E0 := q
  rw [List.append_nil] at q2
  have hl : us.length = ps.length := by rw [← r.length, F1 _ _ _ _ q2]
  have hb := F3 s1 us I1.kIn (by rw [List.append_nil]; exact hl)
  rw [List.append_nil] at hb
  refine wpAny_call (codeAny_mono (F2 X.A X.stack s1 H1 ⟨us, []⟩ us vs Qz E0 hgd hr I1.env0 hb r q2) fun res s2 hq => ?_)
  cases res with
  | error er => exact pass0 pinsz σz H1 s1 er s2 I1 hq
  | ok fl =>
    cases fl with
    | ret u => exact I1.after hq
    | next => exact hq.elim
    | brk => exact hq.elim
    | cont => exact hq.elim
end
end LdP
/-! # LdP1 -/
/-! _law_draw. -/
namespace LdP
open PySem PySem.Spec PyProof.Rows L2 Evl LiI
theorem boot_divmod' : bootBuiltins "divmod" = some (.builtin "divmod") := by decide +kernel
theorem boot_repr' : bootBuiltins "repr" = some (.builtin "repr") := by decide +kernel
theorem boot_min' : bootBuiltins "min" = some (.builtin "min") := by decide +kernel
theorem boot_max' : bootBuiltins "max" = some (.builtin "max") := by decide +kernel
theorem boot_abs' : bootBuiltins "abs" = some (.builtin "abs") := by decide +kernel
theorem boot_sorted' : bootBuiltins "sorted" = some (.builtin "sorted") := by decide +kernel
section
variable {base : Heap} {mg : Str → Option Value} {K : PySem.W.Frag} {w : World} {P : Program}
/-- all but p stays -/
def ExB (p : Addr) (H H' : Hp) : Prop := ∀ b u, b ≠ p → H b = some u → H' b = some u
def spLdraw0 : Sp := fun vs H Q _ => ∃ (p : Addr) (n x y : Int), vs = [.ref p, .int n] ∧ H p = some (.lst [.int x, .int y]) ∧ PotB x y ∧ 0 < n ∧ n < 1000 ∧
  ∀ d x' y' H', 0 ≤ d → d < n → PotB x' y' → H' p = some (.lst [.int x', .int y']) → ExB p H H' → Q (.int d) H'
theorem ev_int1 {σ : L2.St} {H : Hp} {te : TE} {i : Int} (h : Ev te σ H (.int i)) : Ev (tCB (fun xs H Q => (∃ i, xs = [.int i] ∧ Q (.int i) H) ∨ ∃ k, xs = [.bl k] ∧ Q (.int (if k then 1 else 0)) H) (tCons te tNil)) σ H (.int i) :=
  ev_cb (ea_cons h ea_nil) fun H1 _ Q q => .inl ⟨i, rfl, q H1 (Ex.refl H1)⟩
theorem q_any {te : TE} {g : TG} {tz : TS} {D : Ends} {σ : L2.St} {H : Hp} (h : te σ H fun v H1 => g v σ H1 fun σ2 H2 => tz D σ2 H2) : tSeq (tAsg te g) tz D σ H := h
theorem cb_any {r : List V → Hp → VK → Prop} {ta : TA} {σ : L2.St} {H : Hp} {Q : VK} {vs : List V} (h : EvA ta σ H vs) (k : ∀ H1, Ex H H1 → r vs H1 Q) : tCB r ta σ H Q := h H (Ex.refl H) _ k
theorem ok_Ldraw0 (t : Tx K mg) : Ok P w K mg base 1 (He.ga K "_law_draw") p_Ldraw spLdraw0 := by
  obtain ⟨fd, F⟩ := t.def_Ldraw
  refine ok_of F sc_Ldraw (fun _ _ _ _ _ _ us hl => match us, hl with | [_, _], _ => rfl) (fun vs H Q E h => ?_) (fun cdv A outer s H vs Q E hr h => ?_)
  · obtain ⟨p, n, x, y, rfl, _⟩ := h
    rfl
  · obtain ⟨p, n, x, y, rfl, hp, hb, n0, n1, q⟩ := h
    refine ⟨_, pss_cons (ps_if (pt_cmpR op_gt (pe_ix ix_list (pv 0) pe_int (fun _ _ => rfl)) pe_int (nomark _))
        (pss_cons (ps_asg (pe_callB call_divmod (by rfl) t.f_divmod boot_divmod' (pa_cons (pe_ix ix_list (pv 0) pe_int (fun _ _ => rfl)) (pa_cons (pv 1) pa_nil)))
          (pg_tup rfl (pgs_cons (pg_sub (pv 0) pe_int set_list) (pgs_cons (pg_name (i := 2) sc_Ldraw.nd rfl (Or.inl rfl)) pgs_nil)))) (pss_one (ps_ret (pv 2)))) pss_nil)
      (pss_cons (ps_asg (pe_op op_mod (pe_callTy call_int1 (by rfl) t.f_int boot_int' (pa_cons (pe_op op_add (pe_op op_mul (pe_ix ix_list (pv 0) pe_int (fun _ _ => rfl)) pe_int) pe_int) pa_nil)) pe_int) (pg_sub (pv 0) pe_int set_list))
      (pss_one (ps_ret (pe_op op_mod (pe_callTy call_int1 (by rfl) t.f_int boot_int' (pa_cons (pe_op op_fdiv (pe_op op_mod (pe_callTy call_int1 (by rfl) t.f_int boot_int' (pa_cons (pe_op op_mul (pe_ix ix_list (pv 0) pe_int (fun _ _ => rfl)) (pe_ix ix_list (pv 0) pe_int (fun _ _ => rfl))) pa_nil)) pe_int) pe_int) pa_nil)) (pv 1))))), ?_⟩
    obtain ⟨bx, by0, by1⟩ := hb
    refine q_when (b := decide (0 < x)) (et_test (ev_op (ev_op (ev_var rfl) ev_c (rv_ixL (sq_of hp) rfl)) ev_c (rv_I0 (g := fun i j => .bl (decide (j < i)))))) (fun e H1 e1 => ?_) (fun e H1 e1 => ?_)
    · have hx := of_decide_eq_true e
      have ka : EvA (tCons (tOp (rIxL K) (tVar 0) (tC (.int 0))) (tCons (tVar 1) tNil)) (start n_Ldraw [.ref p, .int n]) H1 [.int x, .int n] := ea_cons (ev_op (ev_var rfl) ev_c (rv_ixL (sq_of (e1 _ _ hp)) rfl)) (ea_cons (ev_var rfl) ea_nil)
      refine q_any (cb_any ka fun H2 e2 => ⟨x, n, rfl, ⟨n0, by omega⟩, fun T hT => ?_⟩)
      have hp2 : (upd H2 T (.tup [.int (x / n), .int (x % n)])) p = some (.lst [.int x, .int y]) := Ex.new hT _ _ (e2 _ _ (e1 _ _ hp))
      refine ⟨T, _, rfl, st_of upd_same, rfl, _, _, rfl, ⟨_, rfl, p, _, 0, 0, rfl, rfl, hp2, rfl, _, _, rfl, rfl, ?_⟩⟩
      refine ⟨_, rfl, q (x % n) (x / n) y _ (Int.emod_nonneg x (by omega)) (Int.emod_lt_of_pos x n0) ⟨Int.ediv_nonneg bx (by omega), by0, by1⟩ upd_same fun b u hb hu => ?_⟩
      rw [upd_ne hb]
      exact Ex.new hT _ _ (e2 _ _ (e1 _ _ hu))
    · have k1 : Ev (tOp (rI (fun _ j => 0 < j) fun i j => .int (i % j)) (tCB (fun xs H Q => (∃ i, xs = [V.int i] ∧ Q (.int i) H) ∨ ∃ k, xs = [.bl k] ∧ Q (.int (if k then 1 else 0)) H) (tCons (tOp (rI0 fun i j => .int (i + j)) (tOp (rI CMul fun i j => .int (i * j)) (tOp (rIxL K) (tVar 0) (tC (.int 1))) (tC (.int 48271))) (tC (.int 11027))) tNil)) (tC (.int 2147483587))) (start n_Ldraw [.ref p, .int n]) H1 (.int ((y * 48271 + 11027) % 2147483587)) :=
        ev_op (ev_int1 (ev_op (ev_op (ev_op (ev_var rfl) ev_c (rv_ixL (sq_of (e1 _ _ hp)) rfl)) ev_c (rv_I (g := fun i j => .int (i * j)) (.inl ⟨by omega, by omega⟩))) ev_c (rv_I0 (g := fun i j => .int (i + j))))) ev_c (rv_I (C := fun _ j => 0 < j) (g := fun i j => .int (i % j)) (by decide))
      refine q_any (k1 H1 (Ex.refl _) _ fun H2 e2 => ⟨_, rfl, p, _, 1, 1, rfl, rfl, e2 _ _ (e1 _ _ hp), rfl, ?_⟩)
      have b1 : 0 ≤ (y * 48271 + 11027) % 2147483587 := Int.emod_nonneg _ (by decide)
      have b2 : (y * 48271 + 11027) % 2147483587 < 2147483587 := Int.emod_lt_of_pos _ (by decide)
      rw [show ([V.int x, V.int y] : List V).set 1 (.int ((y * 48271 + 11027) % 2147483587)) = [.int x, .int ((y * 48271 + 11027) % 2147483587)] from rfl]
      generalize (y * 48271 + 11027) % 2147483587 = z at b1 b2 ⊢
      have hz : (upd H2 p (.lst [.int x, .int z])) p = some (.lst [.int x, .int z]) := upd_same
      refine s_ret (ev_op (ev_int1 (ev_op (ev_op (ev_int1 (ev_op (ev_op (ev_var rfl) ev_c (rv_ixL (sq_of hz) rfl)) (ev_op (ev_var rfl) ev_c (rv_ixL (sq_of hz) rfl)) (rv_I (g := fun i j => .int (i * j)) (.inl ⟨by omega, by omega⟩)))) ev_c (rv_I (C := fun _ j => 0 < j) (g := fun i j => .int (i % j)) (by decide))) ev_c (rv_I (C := CDiv) (g := fun i j => .int (i / j)) ⟨by decide, by decide⟩)))
        (ev_var rfl) (rv_I (C := fun _ j => 0 < j) (g := fun i j => .int (i % j)) n0)) fun H3 e3 => q _ x z H3 (Int.emod_nonneg _ (by omega)) (Int.emod_lt_of_pos _ n0) ⟨bx, b1, by omega⟩ (e3 _ _ hz) fun b u hb hu => e3 _ _ ?_
      rw [upd_ne hb]
      exact e2 _ _ (e1 _ _ hu)
/-- the pot told as bounded only -/
def spLdraw : Sp := fun vs H Q _ => ∃ (p : Addr) (n : Int), vs = [.ref p, .int n] ∧ H p = some (potO p) ∧ 0 < n ∧ n < 1000 ∧ ∀ d H', 0 ≤ d → d < n → Ex H H' → Q (.int d) H'
theorem ok_Ldraw (t : Tx K mg) : Ok P w K mg base 1 (He.ga K "_law_draw") p_Ldraw spLdraw :=
  (ok_Ldraw0 t).pot (fun vs H Q E ⟨p, n, ev, hp, n0, n1, q⟩ => ⟨p, hp, fun x y hb => ⟨p, n, x, y, ev, upd_same, hb, n0, n1, fun d x' y' H' d0 d1 hb' hp' ex => ⟨x', y', hb', hp', q d _ d0 d1 fun b u hu => by
    by_cases hbp : b = p
    · subst hbp
      rw [upd_same, ← hu, hp]
    · rw [upd_ne hbp]
      exact ex b u hbp (by rw [upd_ne hbp]; exact hu)⟩⟩⟩) fun vs H Q E ⟨p, n, ev, _⟩ => by rw [ev]; rfl
/-- a draw: some d below n -/
theorem evR_draw {σ : L2.St} {H : Hp} {tp tn : TE} {E : XK} {p : Addr} {n : Int} (h : Ev tp σ H (.ref p)) (hp : H p = some (potO p)) (hn : Ev tn σ H (.int n)) (n0 : 0 < n ∧ n < 1000) : EvR (tCall spLdraw [] E (tCons tp (tCons tn tNil))) σ H (fun v _ => ∃ d, v = .int d ∧ 0 ≤ d ∧ d < n) := fun H1 e Q q =>
  (ea_cons h (ea_cons hn ea_nil)) H1 e _ fun H2 e2 => ⟨p, n, rfl, e2 _ _ (e _ _ hp), n0.1, n0.2, fun d H' d0 d1 ex => q _ H' (e2.trans ex) ⟨d, rfl, d0, d1⟩⟩
end
end LdP
/-! # LdP2 -/
/-! _law_pick, _law_pot. -/
namespace LdP
open PySem PySem.Spec PyProof.Rows L2 Evl LiI
section
variable {K : PySem.W.Frag} {σ : L2.St} {H : Hp} {ta tb : TE} {x y : V} {r : R2} {R R' : V → Hp → Prop}
/-- an operator, one side told by a property -/
theorem evR_r (ha : Ev ta σ H x) (hb : EvR tb σ H R) (hr : ∀ v H1, Ex H H1 → R v H1 → ∀ Q : VK, (∀ z H2, Ex H1 H2 → R' z H2 → Q z H2) → r x v H1 Q) : EvR (tOp r ta tb) σ H R' := fun H1 e Q q =>
  ha H1 e _ fun H2 e2 => hb H2 (e.trans e2) _ fun v H3 e3 h => hr v H3 ((e.trans e2).trans e3) h Q fun z H4 e4 => q z H4 ((e2.trans e3).trans e4)
theorem evR_l (ha : EvR ta σ H R) (hb : ∀ H1, Ex H H1 → Ev tb σ H1 y) (hr : ∀ v H1 H2, Ex H H1 → Ex H1 H2 → R v H1 → ∀ Q : VK, (∀ z H3, Ex H2 H3 → R' z H3 → Q z H3) → r v y H2 Q) : EvR (tOp r ta tb) σ H R' := fun H1 e Q q =>
  ha H1 e _ fun v H2 e2 h => hb H2 (e.trans e2) H2 (Ex.refl _) _ fun H3 e3 => hr v H2 H3 (e.trans e2) e3 h Q fun z H4 e4 => q z H4 ((e2.trans e3).trans e4)
theorem EvR.imp (h : EvR ta σ H R) (k : ∀ v H2, Ex H H2 → R v H2 → R' v H2) : EvR ta σ H R' := fun H1 e Q q => h H1 e Q fun v H2 a b => q v H2 a (k v H2 (e.trans a) b)
/-- ints -/
def Btw (lo hi : Int) : V → Hp → Prop := fun v _ => ∃ d, v = .int d ∧ lo ≤ d ∧ d < hi
theorem evR_subI {lo hi k : Int} (ha : EvR ta σ H (Btw lo hi)) (hb : ∀ H1, Ex H H1 → Ev tb σ H1 (.int k)) : EvR (tOp (rI0 fun i j => .int (i - j)) ta tb) σ H (Btw (lo - k) (hi - k)) :=
  evR_l ha hb fun v H1 H2 e1 e2 ⟨d, ev, h1, h2⟩ Q q => ⟨d, k, ev, rfl, q _ H2 (Ex.refl _) ⟨d - k, rfl, by omega, by omega⟩⟩
theorem evR_addI {lo hi k : Int} (ha : Ev ta σ H (.int k)) (hb : EvR tb σ H (Btw lo hi)) : EvR (tOp (rI0 fun i j => .int (i + j)) ta tb) σ H (Btw (k + lo) (k + hi)) :=
  evR_r ha hb fun v H1 e1 ⟨d, ev, h1, h2⟩ Q q => ⟨k, d, rfl, ev, q _ H1 (Ex.refl _) ⟨k + d, rfl, by omega, by omega⟩⟩
end
section
variable {base : Heap} {mg : Str → Option Value} {K : PySem.W.Frag} {w : World} {P : Program}
def spLpick : Sp := fun vs H Q _ => ∃ (p l : Addr) (xs : List V), vs = [.ref p, .ref l] ∧ H p = some (potO p) ∧ H l = some (.lst xs) ∧ 0 < xs.length ∧ xs.length < 1000 ∧ ∀ v H', v ∈ xs → Ex H H' → Q v H'
theorem ok_Lpick (t : Tx K mg) : Ok P w K mg base 2 (He.ga K "_law_pick") p_Lpick spLpick := by
  obtain ⟨fd, F⟩ := t.def_Lpick
  have G1 := ok_Ldraw (P := P) (w := w) (base := base) t
  refine ok_of F sc_Lpick (fun _ _ _ _ _ _ us hl => match us, hl with | [_, _], _ => rfl) (fun vs H Q E h => ?_) (fun cdv A outer s H vs Q E hr h => ?_)
  · obtain ⟨p, l, xs, rfl, _⟩ := h
    rfl
  · obtain ⟨p, l, xs, rfl, hp, hl, h0, h1, q⟩ := h
    refine ⟨_, pss_one (ps_ret (pe_ix ix_list (pv 1) (pe_fn G1 hr t.g_lawdraw (pa_cons (pv 0) (pa_cons (pe_callB call_len_seq (by rfl) t.f_len boot_len' (pa_cons (pv 1) pa_nil)) pa_nil))) (fun _ _ => rfl))), ?_⟩
    refine s_retR (R := fun v _ => v ∈ xs) (evR_r (ev_var rfl) (evR_draw (n := xs.length) (ev_var rfl) hp (ev_len (ev_var rfl) (sq_of hl)) ⟨by omega, by omega⟩) fun v H1 e1 ⟨d, ev, d0, d1⟩ Q q => ?_) fun v H1 e1 hv => q v H1 hv e1
    subst ev
    obtain ⟨i, rfl⟩ : ∃ i : Nat, d = i := ⟨d.toNat, by omega⟩
    have hi : i < xs.length := by omega
    exact ⟨l, xs, i, xs[i], rfl, rfl, sq_of (e1 _ _ hl), atI_nat (List.getElem?_eq_getElem hi), q _ H1 (Ex.refl _) (List.getElem_mem hi)⟩
def spLpot (K : PySem.W.Frag) : Sp := fun vs H Q _ => ∃ (a : Addr) (ns : List Int) (k : Int), vs = [.ref a, .int k] ∧ SqL K H a (ns.map V.int) ∧ 0 ≤ k ∧ k ≤ 3 ∧ ns.length ≤ 1000 ∧ ∀ p x y H', H p = none → Ex H H' → PotB x y → H' p = some (.lst [.int x, .int y]) → Q (.ref p) H'
theorem rI_any {C : Int → Int → Prop} {g : Int → Int → V} {i j : Int} {H : Hp} {Q : VK} (hc : C i j) (q : Q (g i j) H) : rI C g (.int i) (.int j) H Q := ⟨i, j, rfl, rfl, hc, q⟩
theorem ok_Lpot (t : Tx K mg) : Ok P w K mg base 1 (He.ga K "_law_pot") p_Lpot (spLpot K) := by
  obtain ⟨fd, F⟩ := t.def_Lpot
  refine ok_of F sc_Lpot (fun _ _ _ _ _ _ us hl => match us, hl with | [_, _], _ => rfl) (fun vs H Q E hzz => ?_) (fun cdv A outer s H vs Q E hr hzz => ?_)
  · obtain ⟨az, nsz, kz, rfl, _⟩ := hzz
    rfl
  · obtain ⟨az, nsz, kz, rfl, ha, k0, k3, hz, q⟩ := hzz
    refine ⟨_, pss_cons (ps_set (i := 2) sc_Lpot.nd rfl (Or.inl rfl) (pe_op op_add (pe_op op_mul pe_int (pv 1)) pe_int))
      (pss_cut (ps_if (pt_cmpR op_lt (pv 1) (pe_callB call_len_seq (by rfl) t.f_len boot_len' (pa_cons (pv 0) pa_nil)) (nomark _))
        (pss_one (ps_set (i := 2) sc_Lpot.nd rfl (Or.inl rfl) (pe_callB call_abs (by rfl) t.f_abs boot_abs' (pa_cons (pe_ix ix_list (pv 0) (pv 1) (fun _ _ => rfl)) pa_nil)))) pss_nil)
      (pss_one (ps_ret (pe_lst (pa_cons (pe_callB (call_max2 rfl) (by rfl) t.f_max boot_max' (pa_cons pe_int (pa_cons (pe_op op_sub (pv 2) (pe_op op_pow pe_int pe_int)) pa_nil)))
        (pa_cons (pe_op op_add (pe_op op_mod (pe_op op_mul (pe_callTy call_int1 (by rfl) t.f_int boot_int' (pa_cons (pe_op op_add (pe_op op_mod (pe_callTy call_int1 (by rfl) t.f_int boot_int' (pa_cons (pv 2) pa_nil)) pe_int) pe_int) pa_nil))
          (pe_op op_pow (pe_op op_add (pe_op op_mul pe_int (pv 1)) pe_int) pe_int)) pe_int) pe_int) pa_nil)))))), ?_⟩
    refine q_asg (ev_op (ev_op ev_c (ev_var rfl) (rv_I (C := CMul) (g := fun i j => .int (i * j)) (.inl ⟨by decide, by decide⟩))) ev_c (rv_I0 (g := fun i j => .int (i + j)))) fun H1 e1 => ?_
    refine q_cut (M := fun σ' H' => Ex H H' ∧ ∃ c : Int, σ' = [some (.ref az), some (.int kz), some (.int c)]) ?_ ?_
    · refine s_when (b := decide (kz < (nsz.map V.int).length)) (et_test (ev_op (ev_var rfl) (ev_len (ev_var rfl) (ex_l e1 ha)) (rv_I0 (g := fun i j => .bl (decide (i < j)))))) (fun hb H2 e2 => ?_) (fun _ H2 e2 => ⟨e1.trans e2, _, rfl⟩)
      have hk := of_decide_eq_true hb
      rw [List.length_map] at hk
      obtain ⟨i, rfl⟩ : ∃ i : Nat, kz = i := ⟨kz.toNat, by omega⟩
      have hi : i < nsz.length := by omega
      refine s_asg (ev_cb (ea_cons (ev_op (ev_var rfl) (ev_var rfl) (rv_ixL (ex_l (e1.trans e2) ha) (atI_nat (by rw [List.getElem?_map, List.getElem?_eq_getElem hi]; rfl)))) ea_nil) fun H3 e3 Q3 q3 => ⟨_, rfl, q3 H3 (Ex.refl _)⟩) fun H3 e3 => ⟨(e1.trans e2).trans e3, _, rfl⟩
    · rintro σ' H' ⟨e2, c, rfl⟩
      have b1 : 0 ≤ c % 2147483477 := Int.emod_nonneg _ (by decide)
      have b2 : c % 2147483477 < 2147483477 := Int.emod_lt_of_pos _ (by decide)
      refine s_retL (el_lst (ea_cons (ev_max2 ev_c (ev_op (ev_var rfl) (ev_op ev_c ev_c (rv_I (C := CPow) (g := fun i j => .int (i ^ j.toNat)) ⟨by decide, by decide, by decide⟩)) (rv_I0 (g := fun i j => .int (i - j)))))
        (ea_cons (ev_op (ev_op (ev_op (ev_int1 (ev_op (ev_op (ev_int1 (ev_var rfl)) ev_c (rv_I (C := fun _ j => 0 < j) (g := fun i j => .int (i % j)) (by decide))) ev_c (rv_I0 (g := fun i j => .int (i + j)))))
          (ev_op (ev_op (ev_op ev_c (ev_var rfl) (rv_I (C := CMul) (g := fun i j => .int (i * j)) (.inl ⟨by decide, by decide⟩))) ev_c (rv_I0 (g := fun i j => .int (i + j)))) ev_c (rv_I (C := CPow) (g := fun i j => .int (i ^ j.toNat)) ⟨by decide, by decide, by omega⟩))
          (rv_I (C := CMul) (g := fun i j => .int (i * j)) (.inl ⟨by omega, by omega⟩))) ev_c (rv_I (C := fun _ j => 0 < j) (g := fun i j => .int (i % j)) (by decide))) ev_c (rv_I0 (g := fun i j => .int (i + j)))) ea_nil)) (by show 2 ≤ 100000; decide)) fun p H3 hp e3 h3 => ?_
      refine q p _ _ H3 (fresh_back e2 hp) (e2.trans e3) ⟨?_, ?_, ?_⟩ h3
      · split <;> omega
      · have := Int.emod_nonneg ((c % 2147483477 + 13) * (2 * kz + 5) ^ (3 : Int).toNat) (show (2147483549 : Int) ≠ 0 by decide)
        omega
      · have := Int.emod_lt_of_pos ((c % 2147483477 + 13) * (2 * kz + 5) ^ (3 : Int).toNat) (show (0 : Int) < 2147483549 by decide)
        omega
end
end LdP
/-! # LdP3 -/
/-! Comprehensions over ranges and over lists of objects; xs.extend. -/
namespace LdP
open PySem PySem.Spec PyProof.Rows L2 Evl LiI
section
variable {β : Type} {ob : β → HO} {K : PySem.W.Frag} {σ : L2.St} {H : Hp} {ta : TA} {tl te : TE} {tt : TT} {j : Nat} {vs : List Nat}
/-- [e for x in range(lo, hi)], each item a new object -/
theorem en_lcR {lo hi : Int} (bs : Nat → β) (h : EvA ta σ H [.int lo, .int hi]) (hb : -100000 ≤ lo ∧ lo ≤ 100000 ∧ -100000 ≤ hi ∧ hi ≤ 100000) (hn : (hi - lo).toNat ≤ 40000) (hw : ∀ x, wipe ((wipe σ vs).set j (some x)) vs = wipe σ vs)
    (he : ∀ i, i < (hi - lo).toNat → ∀ H1, Ex H H1 → EvN te ((wipe σ vs).set j (some (.int (lo + (i : Nat))))) H1 (fun p H2 => H2 p = some (ob (bs i)))) :
    EvN (tLc (iRng2 ta) (gName j) tYes te vs) σ H (fun p H2 => ListO ob H2 p ((List.range (hi - lo).toNat).map bs)) := fun H1 e Q q => h H1 e _ fun H2 e2 => ⟨lo, hi, rfl, ⟨by omega, by omega, by omega, by omega⟩, fun D hD =>
  lc_range (lo := lo) (n := (hi - lo).toNat) (fun i H' => AtO ob H2 D ((List.range i).map bs) H') (atO_zero hD) (fun i H' hi' a => ⟨hw _, yes_go (by
    refine he i hi' H2 (e.trans e2) H' a.s _ fun p H4 hp e4 hpo => ?_
    have hne : p ≠ D := fun z => by
      obtain ⟨as, h1, _⟩ := a.d
      rw [z, h1] at hp
      cases hp
    have := atO_next hD a e4 hpo hne (by rw [List.length_map, List.length_range]; omega)
    rw [List.range_succ, List.map_append]
    exact this)⟩) fun H' a => q D H' (fresh_back e2 hD) (e2.trans a.s) a.list⟩
/-- [x for x in xs if t] -/
theorem en_lcF {pf : Addr} {as : List Addr} {bs : List β} (f : β → Bool) (h : Ev tl σ H (.ref pf)) (hx : H pf = some (.lst (as.map V.ref))) (hA : AllO ob H as bs) (hz : bs.length ≤ 40000) (hw : ∀ x, wipe ((wipe σ vs).set j (some x)) vs = wipe σ vs)
    (hj : ∀ x, ((wipe σ vs).set j (some x))[j]? = some (some x)) (ht : ∀ a b H1, Ex H H1 → H1 a = some (ob b) → b ∈ bs → EvT tt ((wipe σ vs).set j (some (.ref a))) H1 (f b)) :
    EvN (tLc (iList K tl) (gName j) tt (tVar j) vs) σ H (fun p H2 => ListO ob H2 p (bs.filter f)) := fun H1 e Q q => h H1 e _ fun H2 e2 => ⟨pf, rfl, ⟨_, sq_of (e2 _ _ (e _ _ hx))⟩, fun D hD =>
  lc_list (xs := as.map V.ref) (fun i H' => AtO ob H2 D ((bs.take i).filter f) H') (atO_zero hD) (fun i H' _ a => sq_of (a.s _ _ (e2 _ _ (e _ _ hx)))) (fun i x H' hi a => by
    obtain ⟨b', hb', rfl⟩ : ∃ z, as[i]? = some z ∧ x = .ref z := by
      rw [List.getElem?_map] at hi
      cases h : as[i]? with
      | none => rw [h] at hi; cases hi
      | some z => rw [h] at hi; exact ⟨z, rfl, (Option.some.inj hi).symm⟩
    obtain ⟨b, hb, hob⟩ := paired_get hA hb'
    have x2 := e.trans e2
    have hne : b' ≠ D := ne_of_none (x2 _ _ hob) hD
    have ext : bs.take (i + 1) = bs.take i ++ [b] := by rw [List.take_add_one, hb]; rfl
    refine ⟨hw _, ?_⟩
    refine ht b' b H' (x2.trans a.s) ((x2.trans a.s) _ _ hob) (List.mem_of_getElem? hb) H' (Ex.refl _) _ fun H4 e4 => ?_
    cases hf : f b with
    | true =>
      refine iteT ⟨_, hj _, ?_⟩
      have := atO_next hD a e4 (((x2.trans a.s).trans e4) _ _ hob) hne (Nat.lt_of_le_of_lt (Nat.le_trans (List.length_filter_le ..) (List.length_take_le' ..)) (by omega))
      rw [ext, List.filter_append, List.filter_cons, if_pos hf]
      exact this
    | false =>
      refine iteF ?_
      rw [ext, List.filter_append, List.filter_cons, if_neg (by rw [hf]; decide)]
      show AtO ob H2 D (_ ++ []) H4
      rw [List.append_nil]
      exact a.ex e4) (fun H' a => by
    have hl : (as.map V.ref).length = bs.length := by rw [List.length_map, paired_len hA]
    rw [hl, List.take_length] at a
    exact q D H' (fresh_back e2 hD) (e2.trans a.s) a.list)⟩
end
section
variable {K : PySem.W.Frag} {σ : L2.St} {H H1 : Hp} {ta te : TE} {D : Ends}
/-- xs.extend(ys), ys a new list of dates -/
theorem s_ext {l : Addr} {bs bs2 : List (Ld.Dt Str)} (hD : H1 l = none) (a : AtO obD H1 l bs H) (ha : Ev ta σ H (.ref l)) (h : EvN te σ H (fun p H2 => ListO obD H2 p bs2)) (hz : bs.length + bs2.length ≤ 100000) (k : ∀ H2, AtO obD H1 l (bs ++ bs2) H2 → D.nx σ H2) :
    tDrop (tBM K "list" rExtend ta (tCons te tNil)) D σ H := ha H (Ex.refl H) _ fun H2 e2 => by
  obtain ⟨as, h1, h2, h3⟩ := a.d
  refine ⟨Or.inl ⟨rfl, _, sq_of (e2 _ _ h1)⟩, h H2 e2 _ fun p H3 hp e3 ⟨as2, hp2, hA2⟩ => ?_⟩
  have hl := e3 _ _ (e2 _ _ h1)
  have n2 : ∀ {x : List Addr} {y : List (Ld.Dt Str)}, AllO obD H3 x y → ∀ b ∈ x, b ≠ l := fun {x y} hA => by
    induction hA with
    | nil => intro b hbz; exact absurd hbz List.not_mem_nil
    | cons r t ih =>
      intro b hbz z
      rcases List.mem_cons.mp hbz with rfl | hbz
      · rw [z, hl] at r
        exact nomatch r
      · exact ih b hbz z
  refine ⟨l, p, _, _, rfl, rfl, hl, hp2, sz_of (by rw [List.length_map, List.length_map, paired_len h2, paired_len hA2]; exact hz), k _ ⟨((a.s.trans e2).trans e3).mut hD, as ++ as2, ?_, ?_, ?_⟩⟩
  · rw [upd_same, List.map_append]
  · have hne : ∀ b ∈ as ++ as2, b ≠ l := fun b hbz => by
      rcases List.mem_append.mp hbz with hbz | hbz
      · exact h3 b hbz
      · exact n2 hA2 b hbz
    exact AllO.upd (paired_app ((h2.ex e2).ex e3) hA2) hne
  · intro b hbz
    rcases List.mem_append.mp hbz with hbz | hbz
    · exact h3 b hbz
    · exact n2 hA2 b hbz
end
end LdP
/-! # LdZ1 -/
/-! zip of two generators: made, one step, its end. -/
namespace LdP
open PySem PySem.Spec PyProof.Rows L2 Evl GenW
section
variable {P : Program} {w : World} {A : Around} {E : Value → Shared → Prop} {s : Shared} {z TI TO g1 g2 : Addr} {a1 a2 : Value}
/-- zip made of them -/
theorem meets_zipG (x y : Addr) (n m : Nat) : Meets (Builtin.«zip.__new__» ⟨[.type "zip", .ref x, .ref y], []⟩) (fun _ R s => s.heap.IsGen x n ∧ s.heap.IsGen y m ∧
    R (.ok (.ret (.ref (s.heap.objs.size + 2)))) { s with heap := ((s.heap.push { cls := .type "tuple", data := .seq #[.ref x, .ref y] }).push { cls := .type "tuple", data := .seq #[.none, .none] }).push { cls := .type "zip", data := .fields #[.none, .bool false, .bool false, .ref s.heap.objs.size, .ref (s.heap.objs.size + 1)] } }) :=
  .of_wp fun progz wz Az R s hz => by
    obtain ⟨hpz, gz, dz, tkz, osz⟩ := s
    obtain ⟨hx, hy, hz⟩ := hz
    have hsub := sub_zip
    have hX : Heap.IsGen (Shared.heap ⟨hpz, gz, dz, tkz, osz⟩) x n := hx
    have hY : Heap.IsGen (Shared.heap ⟨hpz, gz, dz, tkz, osz⟩) y m := hy
    wp_walk using wpAny_pyIter_gen hX, wpAny_pyIter_gen hY
    simp only [Heap.size_push] at hz ⊢
    exact ⟨_, rfl, hz⟩
theorem call_zipG {n m : Nat} {Q : Value → Shared → Prop} (h1 : s.heap.IsGen g1 n) (h2 : s.heap.IsGen g2 m)
    (h : ∀ h', IsZip h' (s.heap.objs.size + 2) s.heap.objs.size (s.heap.objs.size + 1) .none → IsTupOf2 h' s.heap.objs.size (.ref g1) (.ref g2) → IsTupOf2 h' (s.heap.objs.size + 1) .none .none → h'.objs.size = s.heap.objs.size + 3 →
      (∀ c o, s.heap.get? c = some o → h'.get? c = some o) → Q (.ref (s.heap.objs.size + 2)) { s with heap := h' }) : wpAny (model P w) A (call (.type "zip") [.ref g1, .ref g2]) Q E s := by
  refine callType_new F.called_zip (by decide) (F.typeCall_zip_2 _ _) (F.newCall_zip_2 _ _) (fun obj => F.args_object_init_3 obj _ _) F.entry_zip_new (meets_zipG g1 g2 n m) ⟨h1, h2, ?_⟩
  have e1 : (s.heap.push { cls := .type "tuple", data := .seq #[.ref g1, .ref g2] }).objs.size = s.heap.objs.size + 1 := Heap.size_push ..
  have e2 : ((s.heap.push { cls := .type "tuple", data := .seq #[.ref g1, .ref g2] }).push { cls := .type "tuple", data := .seq #[.none, .none] }).objs.size = s.heap.objs.size + 2 := by rw [Heap.size_push, e1]
  have gz := Heap.get?_push_size ((s.heap.push { cls := .type "tuple", data := .seq #[.ref g1, .ref g2] }).push { cls := .type "tuple", data := .seq #[.none, .none] }) (o := { cls := .type "zip", data := .fields #[.none, .bool false, .bool false, .ref s.heap.objs.size, .ref (s.heap.objs.size + 1)] }) rfl
  have gO := Heap.get?_push_of_some { cls := .type "zip", data := .fields #[.none, .bool false, .bool false, .ref s.heap.objs.size, .ref (s.heap.objs.size + 1)] } (Heap.get?_push_size (s.heap.push { cls := .type "tuple", data := .seq #[.ref g1, .ref g2] }) (o := { cls := .type "tuple", data := .seq #[.none, .none] }) rfl)
  have gI := Heap.get?_push_of_some { cls := .type "zip", data := .fields #[.none, .bool false, .bool false, .ref s.heap.objs.size, .ref (s.heap.objs.size + 1)] } (Heap.get?_push_of_some { cls := .type "tuple", data := .seq #[.none, .none] } (Heap.get?_push_size s.heap (o := { cls := .type "tuple", data := .seq #[.ref g1, .ref g2] }) rfl))
  rw [e2] at gz
  rw [e1] at gO
  exact ⟨⟨_, gz, rfl⟩, h _ gz gI gO (by rw [Heap.size_push, e2]) fun c o x => Heap.get?_push_of_some _ (Heap.get?_push_of_some _ (Heap.get?_push_of_some _ x))⟩
/-- a step, told by its two draws -/
theorem zipG_item {Q : Option Value → Shared → Prop} (TOz : TO ≠ z) (hz : IsZip s.heap z TI TO .none) (hTI : IsTupOf2 s.heap TI (.ref g1) (.ref g2))
    (k : ∀ h0, IsZip h0 z TI TO .ellipsis → Heap.SameBut z s.heap h0 → wpAny (model P w) A.in1 (callSpecial? (.ref g1) "__next__") (fun r s1 => ∃ x1 a1 a2, r = some x1 ∧ IsTupOf2 s1.heap TO a1 a2 ∧
      ∀ h1, IsTupOf2 h1 TO x1 a2 → Heap.SameBut TO s1.heap h1 → wpAny (model P w) A.in1 (callSpecial? (.ref g2) "__next__") (fun r s2 => ∃ x2, r = some x2 ∧ IsTupOf2 s2.heap TO x1 a2 ∧ IsZip s2.heap z TI TO .ellipsis ∧
        ∀ h2, IsZip h2 z TI TO (rawInt s2.heap.objs.size) → IsTupOf2 h2 TO x1 x2 → IsTupOf2 h2 s2.heap.objs.size x1 x2 → (∀ c o, c ≠ z → c ≠ TO → s2.heap.get? c = some o → h2.get? c = some o) →
          Q (some (.ref s2.heap.objs.size)) { s2 with heap := h2 }) TT0 { s1 with heap := h1 }) TT0 { s with heap := h0 }) : wpAny (model P w) A (pyNext (.ref z)) Q E s := by
  have hTz : s.TypeIs (.ref z) "zip" := ⟨_, hz, rfl⟩
  unfold pyNext
  refine wpAny_bind (wpAny_attempt (wpAny_callSpecial?_slot (name := Str.ofString "__next__") hTz F.slot_zip_next (wpAny_call_entry F.slot_zip_next hTz F.entry_zip_next ?_ (F.args_zip_next_1 _))))
  obtain ⟨hpz, gz, dz, tk0z, osz⟩ := s
  show wpAny _ _ (field (.ref z) 2 >>= _) _ _ _; refine wpAny_bind (wpAny_field hz rfl (x := .bool false) rfl ?_)
  show wpAny _ _ (field (.ref z) 3 >>= _) _ _ _; refine wpAny_bind (wpAny_field hz rfl (x := .ref TI) rfl (wpAny_bind (wpAny_seqItems hTI rfl ?_)))
  show wpAny _ _ (Builtin.SmallTypes.ownedTupleIsFree (.ref z) >>= _) _ _ _; refine wpAny_bind ?_
  unfold Builtin.SmallTypes.ownedTupleIsFree; refine wpAny_bind (wpAny_field hz rfl (x := .none) rfl (wpAny_pure ?_))
  simp only [if_true]
  refine wpAny_bind (wpAny_rule (wpAny_bind (wpAny_field hz rfl (x := .ref TO) rfl (wpAny_bind (wpAny_setField_rec hz (by simp) fun h0 z0 b0 => ?_)))))
  refine wpAny_bind ?_
  simp only [List.zipIdx_cons, List.zipIdx_nil, List.forIn_cons, List.forIn_nil]; refine wpAny_bind (wpAny_bind (wpAny_onRaise ?_))
  show wpAny _ _ (Builtin.SmallTypes.nextOf (.ref g1) >>= _) _ _ ⟨h0, gz, dz, tk0z, osz⟩
  refine wpAny_bind ?_
  unfold Builtin.SmallTypes.nextOf; refine wpAny_bind (wpAny_mono (k h0 z0 b0) (fun r s1 ⟨x1, a1, a2, er, hT1, k1⟩ => ?_) fun _ _ q => q.elim)
  subst er
  obtain ⟨p1, gg1, d1, tk1, os1⟩ := s1
  refine wpAny_pure (wpAny_pure ?_); refine wpAny_bind (wpAny_seqItems (s := ⟨p1, gg1, d1, tk1, os1⟩) hT1 rfl (wpAny_bind (updateSeq_IsTupOf2 (s := ⟨p1, gg1, d1, tk1, os1⟩) hT1 fun h1 t1 b1 => ?_)))
  refine wpAny_bind (wpAny_letGo (wpAny_pure ?_)); refine wpAny_bind (wpAny_bind (wpAny_onRaise ?_))
  show wpAny _ _ (Builtin.SmallTypes.nextOf (.ref g2) >>= _) _ _ ⟨h1, gg1, d1, tk1, os1⟩
  refine wpAny_bind ?_
  unfold Builtin.SmallTypes.nextOf; refine wpAny_bind (wpAny_mono (k1 h1 t1 b1) (fun r s2 ⟨x2, er, hT2, hz2, k2⟩ => ?_) fun _ _ q => q.elim)
  subst er
  obtain ⟨p2, gg2, d2, tk2, os2⟩ := s2
  refine wpAny_pure (wpAny_pure ?_); refine wpAny_bind (wpAny_seqItems (s := ⟨p2, gg2, d2, tk2, os2⟩) hT2 rfl (wpAny_bind (updateSeq_IsTupOf2 (s := ⟨p2, gg2, d2, tk2, os2⟩) hT2 fun h2 t2 b2 => ?_)))
  replace t2 : IsTupOf2 h2 TO x1 x2 := t2
  replace b2 : Heap.SameBut TO p2 h2 := b2
  refine wpAny_bind (wpAny_letGo (wpAny_pure (wpAny_pure ?_))); refine wpAny_bind (wpAny_seqItems (s := ⟨h2, gg2, d2, tk2, os2⟩) t2 rfl (wpAny_bind (wpAny_newTuple ?_)))
  have zz : IsZip h2 z TI TO .ellipsis := b2.extBut _ _ TOz.symm hz2
  have zlt : z < h2.objs.size := Heap.lt_size zz
  have hsz : h2.objs.size = p2.objs.size := b2.1
  show wpAny _ _ (Builtin.SmallTypes.ownedTupleHandOut (.ref z) (.ref h2.objs.size) >>= _) _ _ ⟨h2.push { cls := .type "tuple", data := .seq #[x1, x2] }, gg2, d2, tk2, os2⟩
  refine wpAny_bind ?_
  unfold Builtin.SmallTypes.ownedTupleHandOut; have z6 : IsZip (h2.push { cls := .type "tuple", data := .seq #[x1, x2] }) z TI TO .ellipsis := Heap.get?_push_of_some _ zz
  refine wpAny_bind (wpAny_setField_rec z6 (by simp) fun h7 z7 b7 => ?_)
  replace z7 : IsZip h7 z TI TO (rawInt h2.objs.size) := z7
  refine wpAny_setField_rec z7 (by simp) fun h8 z8 b8 => ?_
  replace z8 : IsZip h8 z TI TO (rawInt h2.objs.size) := z8
  replace b7 : Heap.SameBut z (h2.push { cls := .type "tuple", data := .seq #[x1, x2] }) h7 := b7
  replace b8 : Heap.SameBut z h7 h8 := b8
  have up : ∀ c o, c ≠ z → h2.get? c = some o → h8.get? c = some o := fun c o c1 e => b8.extBut _ _ c1 (b7.extBut _ _ c1 (Heap.get?_push_of_some _ e))
  have tn : IsTupOf2 h8 h2.objs.size x1 x2 := b8.extBut _ _ (Nat.ne_of_gt zlt) (b7.extBut _ _ (Nat.ne_of_gt zlt) (Heap.get?_push_size _ rfl))
  rw [hsz] at z8 tn
  rw [hsz]
  exact wpAny_pure ⟨_, rfl, wpAny_pure (k2 h8 z8 (up _ _ TOz t2) tn fun c o cz cT e => up c o cz (b2.extBut _ _ cT e))⟩
/-- the first one is at its end -/
theorem zipG_end {Q : Option Value → Shared → Prop} (hz : IsZip s.heap z TI TO .none) (hTI : IsTupOf2 s.heap TI (.ref g1) (.ref g2))
    (k : ∀ h0, IsZip h0 z TI TO .ellipsis → Heap.SameBut z s.heap h0 → wpAny (model P w) A.in1 (callSpecial? (.ref g1) "__next__") (fun _ _ => False) (fun e s1 => ∃ a o, e = .ref a ∧ s1.heap.get? a = some o ∧ o.cls = .type "StopIteration" ∧ IsZip s1.heap z TI TO .ellipsis ∧
      ∀ h1, Heap.SameBut z s1.heap h1 → Q none { s1 with heap := h1 }) { s with heap := h0 }) : wpAny (model P w) A (pyNext (.ref z)) Q E s := by
  have hTz : s.TypeIs (.ref z) "zip" := ⟨_, hz, rfl⟩
  unfold pyNext
  refine wpAny_bind (wpAny_attempt (wpAny_callSpecial?_slot (name := Str.ofString "__next__") hTz F.slot_zip_next (wpAny_call_entry F.slot_zip_next hTz F.entry_zip_next ?_ (F.args_zip_next_1 _))))
  obtain ⟨hpz, gz, dz, tk0z, osz⟩ := s
  show wpAny _ _ (field (.ref z) 2 >>= _) _ _ _; refine wpAny_bind (wpAny_field hz rfl (x := .bool false) rfl ?_)
  show wpAny _ _ (field (.ref z) 3 >>= _) _ _ _; refine wpAny_bind (wpAny_field hz rfl (x := .ref TI) rfl (wpAny_bind (wpAny_seqItems hTI rfl ?_)))
  show wpAny _ _ (Builtin.SmallTypes.ownedTupleIsFree (.ref z) >>= _) _ _ _; refine wpAny_bind ?_
  unfold Builtin.SmallTypes.ownedTupleIsFree; refine wpAny_bind (wpAny_field hz rfl (x := .none) rfl (wpAny_pure ?_))
  simp only [if_true]
  refine wpAny_bind (wpAny_rule (wpAny_bind (wpAny_field hz rfl (x := .ref TO) rfl (wpAny_bind (wpAny_setField_rec hz (by simp) fun h0 z0 b0 => ?_)))))
  refine wpAny_bind ?_
  simp only [List.zipIdx_cons, List.zipIdx_nil, List.forIn_cons, List.forIn_nil]; refine wpAny_bind (wpAny_bind (wpAny_onRaise ?_))
  show wpAny _ _ (Builtin.SmallTypes.nextOf (.ref g1) >>= _) _ _ ⟨h0, gz, dz, tk0z, osz⟩
  refine wpAny_bind ?_
  unfold Builtin.SmallTypes.nextOf; refine wpAny_bind (wpAny_mono (k h0 z0 b0) (fun _ _ q => q.elim) fun e s1 ⟨a, o, ee, ho, hc, hz1, k1⟩ => ?_)
  subst ee
  have haz : a ≠ z := fun xz => by
    subst xz
    have hz1' : s1.heap.get? a = some _ := hz1
    rw [hz1'] at ho
    cases ho
    simp at hc
  refine wpAny_setField_rec (s := s1) hz1 (by simp) fun h1 _ b1 => ?_
  refine wpAny_bind (wpAny_isInstance (T := "StopIteration") (b := true) ⟨o, b1.extBut _ _ haz ho, hc⟩ isSubtype_stop ?_)
  exact wpAny_pure (k1 h1 b1)
end
end LdP
/-! # LdZ2 -/
/-! The state of one who walks two of them at once: writes, draws. -/
namespace LdP
open PySem PySem.Spec PyProof.Rows L2 Evl GenW
section
variable {X : Cx} {pins R pn : List (Addr × Obj)} {σ : L2.St} {H : Hp} {s : Shared}
/-- fewer pins, or the same in another order -/
theorem inv_sub {R' : List (Addr × Obj)} (I : Inv X R σ H s) (h : ∀ p ∈ R', p ∈ R) : Inv X R' σ H s := I.pins_of fun p hp => I.pin p (List.mem_append_right _ (h p hp))
/-- what is pinned lies young, apart from all else that is pinned -/
structure Yg (X : Cx) (R pn : List (Addr × Obj)) : Prop where
  y : ∀ p ∈ pn, X.s_0.heap.objs.size ≤ p.1
  d : ∀ q ∈ X.pn ++ R, ∀ p ∈ pn, q.1 ≠ p.1
theorem yg_nofs (I : Inv X pins σ H s) {b : Addr} (h : X.s_0.heap.objs.size ≤ b) : b ∉ X.fs := fun hbz => by
  obtain ⟨_, oz, hoz, _⟩ := I.ok.funs.mem hbz
  exact absurd (Nat.lt_of_lt_of_le (Heap.lt_size hoz) h) (Nat.lt_irrefl _)
theorem inv_pin {nw : List (Addr × Obj)} (I : Inv X pins σ H s) (h : ∀ p ∈ nw, s.heap.get? p.1 = some p.2 ∧ H p.1 = none ∧ X.s_0.heap.objs.size ≤ p.1 ∧ p.1 ≠ X.env.locals ∧ ∀ v, p.2.data ≠ .cell v) : Inv X (pins ++ nw) σ H s :=
  I.pins_of fun p hpz => by
    rcases List.mem_append.mp hpz with zz | zz
    · exact I.pin p (List.mem_append_right _ zz)
    · obtain ⟨h1, h2, h3, h4, h5⟩ := h p zz
      exact ⟨h1, h2, h4, yg_nofs I h3, h5⟩
/-- records that are ours alone are written anew -/
theorem inv_writes {W W' : List (Addr × Obj)} {h' : Heap} (I : Inv X (R ++ W) σ H s) (yg : Yg X R W) (k : ∀ c o, c ∉ W.map (·.1) → s.heap.get? c = some o → h'.get? c = some o)
    (n : ∀ p ∈ W', p.1 ∈ W.map (·.1) ∧ h'.get? p.1 = some p.2 ∧ ∀ v, p.2.data ≠ .cell v) : Inv X (R ++ W') σ H { s with heap := h' } := by
  have hpin : ∀ p ∈ W, s.heap.get? p.1 = some p.2 ∧ H p.1 = none ∧ p.1 ≠ X.env.locals ∧ p.1 ∉ X.fs ∧ ∀ v, p.2.data ≠ .cell v := fun p hpz => I.pin p (List.mem_append_right _ (List.mem_append_right _ hpz))
  have hW : ∀ b ∈ W.map (·.1), H b = none ∧ b ≠ X.env.locals ∧ b ∉ X.fs ∧ X.s_0.heap.objs.size ≤ b := fun b hbz => by
    obtain ⟨p, hpz, ez⟩ := List.mem_map.mp hbz
    obtain ⟨_, h2, h3, h4, _⟩ := hpin p hpz
    rw [← ez]
    exact ⟨h2, h3, h4, yg.y p hpz⟩
  have I1 : Inv X R σ H { s with heap := h' } := by
    refine step_inv (s' := { s with heap := h' }) (HT := fun _ => none) (G' := s.gens) I yg.y yg.d ⟨rfl, rfl, fun b o ez hbz _ _ => k b o hbz ez, fun b o ez hbz => ⟨o.slots, ?_⟩⟩ (fun b u ez => nomatch ez) (fun b u ez => nomatch ez) ?_ (Ex.refl _) (fun b o _ h => h) I.bare
    · refine k b o (fun m => ?_) ez
      obtain ⟨_, h3, h4, _⟩ := hW b m
      exact (List.mem_cons.mp (I.stkSub b hbz)).elim h3 h4
    · refine fun b u ez => (I.hok b u ez).stay (fun c v hc q => k c v (fun m => ?_) q) (fun _ z => z) fun _ _ z => z
      have hn := (hW c m).1
      rcases hc with z | z
      · rw [z, ez] at hn; cases hn
      · rw [hn] at z; cases z
  refine inv_pin I1 fun p hpz => ?_
  obtain ⟨h1, h2, h3⟩ := n p hpz
  obtain ⟨q1, q2, q3, q4⟩ := hW p.1 h1
  exact ⟨h2, q1, q4, q2, h3⟩
theorem un_tell2 {fs ex : List Addr} {H' : Hp} {h h' : Heap} {S : Addr} {o : HO} (u : Un fs ex H H' h h') (hS : h.objs.size ≤ S) (hn : H' S = none) : Un fs ex H (upd H' S o) h h' :=
  ⟨u.keep, u.slot, fun b ob e n hx => (by rw [upd_ne (Nat.ne_of_lt (Nat.lt_of_lt_of_le (Heap.lt_size e) hS))]; exact u.free b ob e n hx), u.there, fun b xs e => (by rw [upd_ne (ne_of_none (u.tups b xs e) hn)]; exact u.tups b xs e), fun b o v e => (by rw [upd_ne (ne_of_none (u.frzs b o v e) hn)]; exact u.frzs b o v e), fun b ps e => (by
    obtain ⟨more, e1⟩ := u.tbls b ps e
    exact ⟨more, by rw [upd_ne (ne_of_none e1 hn)]; exact e1⟩)⟩
/-- an object of ours is told -/
theorem inv_tell {T : Addr} {o : HO} (I : Inv X R σ H s) (hT : H T = none) (hy : X.s_0.heap.objs.size ≤ T) (hl : T ≠ X.env.locals) (hc : ∀ x c, X.env.cells.lookup x = some c → c ≠ T) (hp : ∀ p ∈ X.pn ++ R, p.1 ≠ T) (new : ObjOk X.prog X.w (upd H T o) s.heap T o) : Inv X R σ (upd H T o) s := by
  refine ⟨I.ok, I.os, I.bare, un_tell2 I.base hy hT, I.loc, I.cell, ?_, fun x c ez => ?_, fun p z => ?_, fun b u ez => ?_, I.len⟩
  · rw [upd_ne (Ne.symm hl)]; exact I.free
  · rw [upd_ne (hc x c ez)]; exact I.freeC x c ez
  · obtain ⟨h1, h2, h3⟩ := I.pin p z
    exact ⟨h1, by rw [upd_ne (hp p z)]; exact h2, h3⟩
  · by_cases hb : b = T
    · subst hb; rw [upd_same] at ez; cases ez; exact new
    · rw [upd_ne hb] at ez
      exact (I.hok b u ez).stay (fun _ _ _ z => z) (fun c q => by rw [upd_ne (ne_of_none q hT)]; exact q) fun c xs q => by rw [upd_ne (ne_of_none q hT)]; exact q
end
/-- such a generator, as its consumer holds it -/
structure Held (X : Cx) (A : Around) (R : List (Addr × Obj)) (H : Hp) (s : Shared) (ga : Addr) (g : Nat) (L : Addr) (ds : List (Ld.Dt Str)) (gs : GenState) (pn : List (Addr × Obj)) (HT : Hp) : Prop where
  isg : s.heap.IsGen ga g
  at_ : s.gens[g]? = some gs
  sl : Slept X.prog X.w X.base X.stack L A ds gs pn HT
  eT : Ex HT H
  own : Own HT
  kd : Kd HT
  io : InsO HT
  L : X.s_0.heap.objs.size ≤ L
  yg : Yg X R pn
section
variable {X : Cx} {A : Around} {R pn : List (Addr × Obj)} {σ : L2.St} {H HT : Hp} {s : Shared} {E : Value → Shared → Prop} {ga L : Addr} {g : Nat} {gs : GenState} {d : Ld.Dt Str} {r : List (Ld.Dt Str)}
theorem Held.fit (h : Held X A R H s ga g L r gs pn HT) (I : Inv X (R ++ pn) σ H s) : Fit X.prog X.w X.base X.stack pn HT s :=
  ⟨sub_hok I.hok h.eT h.kd h.io, fun p hp => (I.pin p (List.mem_append_right _ (List.mem_append_right _ hp))).1, I.bk, I.stack, I.bare⟩
/-- it is drawn from -/
theorem gen_turn {Q : Option Value → Shared → Prop} (hh : A.handled = none) (hd : A.depth < recursionLimit) (h : Held X A.in1 R H s ga g L (d :: r) gs pn HT) (I : Inv X (R ++ pn) σ H s)
    (q : ∀ (y : Addr) (gs' : GenState) (pn' : List (Addr × Obj)) (HT' H' : Hp) (s' : Shared), Inv X (R ++ pn') σ H' s' → s'.gens = s.gens.setIfInBounds g gs' → Slept X.prog X.w X.base X.stack L A.in1 r gs' pn' HT' → Yg X R pn' → Ex H H' → Ex HT' H' → Own HT' → Kd HT' → InsO HT' →
      H' y = some (obD d) → s.heap.get? y = none → HT' y = none → (∀ b u, HT' b = some u → HT b = some u ∨ s.heap.get? b = none) → (∀ b, H b = none → (∃ o, s.heap.get? b = some o) → H' b = none) → Q (some (.ref y)) s') :
    wpAny (model X.prog X.w) A (callSpecial? (.ref ga) "__next__") Q E s := by
  refine gen_item hh hd I.nolimit h.isg h.at_ h.sl (h.fit I) fun v s2 ⟨y, pn', HT', gs', ev, po, hg2, hb, ok2, oky, hy, hyT, hp', eTT, new, own', kd', sl'⟩ => ?_
  subst ev
  have hpn : ∀ p ∈ pn, H p.1 = none := fun p hp => (I.pin p (List.mem_append_right _ (List.mem_append_right _ hp))).2.1
  have hyn : H y = none := by
    cases zz : H y with
    | none => rfl
    | some u =>
      obtain ⟨o, e⟩ := objok_there (I.hok y u zz)
      rw [hy] at e
      cases e
  have there' : ∀ {b : Addr} {u : HO}, HT' b = some u → (∃ o, s.heap.get? b = some o) → HT b = some u := fun {b u} e ⟨o, eo⟩ => by
    rcases new b u e with zz | zz
    · exact zz
    · rw [eo] at zz; cases zz
  have mrg := merge_hok (H0 := upd H y (obD d)) I.hok I.stkFree hpn po h.eT h.own ok2 kd' eTT (Ex.new hyn) (fun b u e => by
    by_cases hb : b = y
    · subst hb
      rw [upd_same] at e
      cases e
      exact .inr ⟨⟨_, rfl⟩, oky⟩
    · rw [upd_ne hb] at e
      exact .inl e) new
  have atH : ∀ b, H b = none → (∃ o, s.heap.get? b = some o) → mergeT HT' (upd H y (obD d)) b = none := fun b hb ⟨o, eo⟩ => by
    have hT : HT' b = none := by
      cases zz : HT' b with
      | none => rfl
      | some u =>
        have := h.eT b u (there' zz ⟨o, eo⟩)
        rw [hb] at this
        cases this
    rw [mergeT_r hT, upd_ne (fun zz => by rw [zz, hy] at eo; cases eo)]
    exact hb
  have e1 : Ex HT' (mergeT HT' (upd H y (obD d))) := mergeT_l
  have e2 : mergeT HT' (upd H y (obD d)) y = some (obD d) := by rw [mergeT_r hyT, upd_same]
  have young : ∀ p ∈ pn', X.s_0.heap.objs.size ≤ p.1 := fun p hp => Nat.le_trans h.L (hp' p hp).1
  have hnone : ∀ p ∈ pn', mergeT HT' (upd H y (obD d)) p.1 = none := fun p hp => by
    obtain ⟨q1, q2, q3, q4, q5, q6⟩ := hp' p hp
    rw [mergeT_r q3, upd_ne q2]
    rcases q6 with q6 | q6
    · obtain ⟨q, h1, h2⟩ := List.mem_map.mp q6
      rw [← h2]
      exact hpn q h1
    · cases zz : H p.1 with
      | none => rfl
      | some u =>
        obtain ⟨o, e⟩ := objok_there (I.hok _ u zz)
        rw [q6] at e
        cases e
  generalize mergeT HT' (upd H y (obD d)) = H' at mrg atH e1 e2 hnone
  obtain ⟨okH, exH⟩ := mrg
  have I1 : Inv X R σ H' { s2 with gens := s2.gens } := step_inv (s' := { s2 with gens := s.gens }) (G' := s2.gens) I h.yg.y h.yg.d po h.eT (fun b u e => objok_there (okH b u (exH b u (h.eT b u e)))) okH exH (fun b o e hn => atH b hn ⟨o, e⟩) (by rw [hg2]; exact allBare_setGen I.bare hb)
  have apart : ∀ q ∈ X.pn ++ R, ∀ p ∈ pn', q.1 ≠ p.1 := fun q hq p hp e => by
    obtain ⟨_, _, _, _, _, q6⟩ := hp' p hp
    rcases q6 with q6 | q6
    · obtain ⟨q2, h1, h2⟩ := List.mem_map.mp q6
      exact h.yg.d q hq q2 h1 (e.trans h2.symm)
    · have hq' : q ∈ X.pn ++ (R ++ pn) := by
        rcases List.mem_append.mp hq with zz | zz
        · exact List.mem_append_left _ zz
        · exact List.mem_append_right _ (List.mem_append_left _ zz)
      have := (I.pin q hq').1
      rw [e, q6] at this
      cases this
  refine q y gs' pn' HT' H' s2 (inv_pin I1 fun p hp => ?_) hg2 sl' ⟨young, apart⟩ exH e1 own' kd' (insO_of ok2) e2 hy hyT new atH
  obtain ⟨q1, q2, q3, q4, q5, q6⟩ := hp' p hp
  refine ⟨q4, hnone p hp, young p hp, fun e => ?_, q5⟩
  rcases q6 with q6 | q6
  · obtain ⟨q, h1, h2⟩ := List.mem_map.mp q6
    exact (I.pin q (List.mem_append_right _ (List.mem_append_right _ h1))).2.2.1 (h2.trans e)
  · obtain ⟨_, ⟨o, _, _, ho, _⟩, _⟩ := I.loc
    rw [e, ho] at q6
    cases q6
/-- it is at its end -/
theorem gen_stop {Q : Option Value → Shared → Prop} (hh : A.handled = none) (hd : A.depth < recursionLimit) (h : Held X A.in1 R H s ga g L [] gs pn HT) (I : Inv X (R ++ pn) σ H s)
    (q : ∀ e s' o, s'.heap.get? e = some o → o.cls = .type "StopIteration" → Inv X R σ H s' → E (.ref e) s') : wpAny (model X.prog X.w) A (callSpecial? (.ref ga) "__next__") Q E s := by
  refine gen_end hh hd I.nolimit h.isg h.at_ h.sl (h.fit I) fun e s2 ⟨gs', po, hg2, hb, ok2⟩ ⟨o, ho, hc⟩ => ?_
  have hpn : ∀ p ∈ pn, H p.1 = none := fun p hp => (I.pin p (List.mem_append_right _ (List.mem_append_right _ hp))).2.1
  obtain ⟨hok2, _⟩ := merge_hok (H0 := H) I.hok I.stkFree hpn po h.eT h.own ok2 h.kd (Ex.refl _) (Ex.refl _) (fun b u e => .inl e) fun b u e => .inl e
  rw [mergeT_self h.eT] at hok2
  exact q e s2 o ho hc (step_inv (s' := { s2 with gens := s.gens }) (G' := s2.gens) I h.yg.y h.yg.d po h.eT (fun b u e => objok_there (ok2 b u e)) hok2 (Ex.refl _) (fun b o _ h => h) (by rw [hg2]; exact allBare_setGen I.bare hb))
end
end LdP
/-! # LdZ3 -/
/-! The state between two turns of a walk over two of them. -/
namespace LdP
open PySem PySem.Spec PyProof.Rows L2 Evl GenW
abbrev zipO (f0 : Value) (TI TO : Addr) : Obj := { cls := .type "zip", data := .fields #[f0, .bool false, .bool false, .ref TI, .ref TO] }
abbrev tupO (x y : Value) : Obj := { cls := .type "tuple", data := .seq #[x, y] }
/-- the places of such a walk: the zip, its tuples, the generators and their objects -/
structure Zp where
  z : Addr
  TI : Addr
  TO : Addr
  g1 : Addr
  g2 : Addr
  o1 : Obj
  o2 : Obj
  n1 : Nat
  n2 : Nat
  L1 : Addr
  L2 : Addr
abbrev Zp.F (Z : Zp) : List Addr := [Z.z, Z.TI, Z.TO, Z.g1, Z.g2]
/-- pinned for good -/
abbrev Zp.st (Z : Zp) : List (Addr × Obj) := [(Z.TI, tupO (.ref Z.g1) (.ref Z.g2)), (Z.g1, Z.o1), (Z.g2, Z.o2)]
abbrev Zp.wz (Z : Zp) (f : Value) : List (Addr × Obj) := [(Z.z, zipO f Z.TI Z.TO)]
abbrev Zp.wo (Z : Zp) (x y : Value) : List (Addr × Obj) := [(Z.TO, tupO x y)]
/-- it is made well -/
structure Zp.Ok (Z : Zp) (X : Cx) (pins : List (Addr × Obj)) : Prop where
  i1 : ∀ h : Heap, h.get? Z.g1 = some Z.o1 → h.IsGen Z.g1 Z.n1
  i2 : ∀ h : Heap, h.get? Z.g2 = some Z.o2 → h.IsGen Z.g2 Z.n2
  n : Z.n1 ≠ Z.n2
  y : ∀ a ∈ Z.F, X.s_0.heap.objs.size ≤ a
  b : ∀ q ∈ X.pn ++ pins, q.1 ∉ Z.F
  tz : Z.TO ≠ Z.z
  ti : Z.TI ≠ Z.z ∧ Z.TI ≠ Z.TO
  a1 : Z.g1 ≠ Z.z ∧ Z.g1 ≠ Z.TO
  a2 : Z.g2 ≠ Z.z ∧ Z.g2 ≠ Z.TO
  l1 : X.s_0.heap.objs.size ≤ Z.L1
  l2 : X.s_0.heap.objs.size ≤ Z.L2
/-- the generators' own records lie apart -/
structure Ap (X : Cx) (pins : List (Addr × Obj)) (F : List Addr) (pn1 pn2 : List (Addr × Obj)) : Prop where
  y1 : ∀ p ∈ pn1, X.s_0.heap.objs.size ≤ p.1
  y2 : ∀ p ∈ pn2, X.s_0.heap.objs.size ≤ p.1
  b1 : ∀ q ∈ X.pn ++ pins, ∀ p ∈ pn1, q.1 ≠ p.1
  b2 : ∀ q ∈ X.pn ++ pins, ∀ p ∈ pn2, q.1 ≠ p.1
  f1 : ∀ p ∈ pn1, p.1 ∉ F
  f2 : ∀ p ∈ pn2, p.1 ∉ F
  d : ∀ p ∈ pn1, ∀ q ∈ pn2, p.1 ≠ q.1
section
variable {X : Cx} {pins pn1 pn2 : List (Addr × Obj)} {F : List Addr} {Z : Zp}
theorem Ap.yg1 (a : Ap X pins F pn1 pn2) {R : List (Addr × Obj)} (h : ∀ q ∈ R, q ∈ pins ∨ q.1 ∈ F ∨ q ∈ pn2) : Yg X R pn1 := ⟨a.y1, fun q hq p hp => by
  rcases List.mem_append.mp hq with z | z
  · exact a.b1 q (List.mem_append_left _ z) p hp
  · rcases h q z with z | z | z
    · exact a.b1 q (List.mem_append_right _ z) p hp
    · exact fun e => a.f1 p hp (e ▸ z)
    · exact fun e => a.d p hp q z e.symm⟩
theorem Ap.yg2 (a : Ap X pins F pn1 pn2) {R : List (Addr × Obj)} (h : ∀ q ∈ R, q ∈ pins ∨ q.1 ∈ F ∨ q ∈ pn1) : Yg X R pn2 := ⟨a.y2, fun q hq p hp => by
  rcases List.mem_append.mp hq with z | z
  · exact a.b2 q (List.mem_append_left _ z) p hp
  · rcases h q z with z | z | z
    · exact a.b2 q (List.mem_append_right _ z) p hp
    · exact fun e => a.f2 p hp (e ▸ z)
    · exact a.d q z p hp⟩
/-- some of the walk's own records -/
theorem Ap.ygF (a : Ap X pins F pn1 pn2) (hy : ∀ c ∈ F, X.s_0.heap.objs.size ≤ c) (hb : ∀ q ∈ X.pn ++ pins, q.1 ∉ F) {R W : List (Addr × Obj)} (hW : ∀ p ∈ W, p.1 ∈ F) (h : ∀ q ∈ R, q ∈ pins ∨ q ∈ pn1 ∨ q ∈ pn2 ∨ ∀ p ∈ W, q.1 ≠ p.1) : Yg X R W := ⟨fun p hp => hy _ (hW p hp), fun q hq p hp => by
  rcases List.mem_append.mp hq with z | z
  · exact fun e => hb q (List.mem_append_left _ z) (e ▸ hW p hp)
  · rcases h q z with z | z | z | z
    · exact fun e => hb q (List.mem_append_right _ z) (e ▸ hW p hp)
    · exact fun e => a.f1 q z (e ▸ hW p hp)
    · exact fun e => a.f2 q z (e ▸ hW p hp)
    · exact z p hp⟩
/-- the first one's records are new -/
theorem Ap.next1 (a : Ap X pins F pn1 pn2) {R pn' : List (Addr × Obj)} (y : Yg X R pn') (hp : ∀ q ∈ pins, q ∈ R) (hF : ∀ c ∈ F, ∃ o, (c, o) ∈ R) (h2 : ∀ q ∈ pn2, q ∈ R) : Ap X pins F pn' pn2 :=
  ⟨y.y, a.y2, fun q hq p h => y.d q (by
    rcases List.mem_append.mp hq with zz | zz
    · exact List.mem_append_left _ zz
    · exact List.mem_append_right _ (hp q zz)) p h, a.b2, fun p h m => by
      obtain ⟨o, ho⟩ := hF _ m
      exact y.d _ (List.mem_append_right _ ho) p h rfl, a.f2, fun p h q hq e => y.d q (List.mem_append_right _ (h2 q hq)) p h e.symm⟩
theorem Ap.next2 (a : Ap X pins F pn1 pn2) {R pn' : List (Addr × Obj)} (y : Yg X R pn') (hp : ∀ q ∈ pins, q ∈ R) (hF : ∀ c ∈ F, ∃ o, (c, o) ∈ R) (h1 : ∀ q ∈ pn1, q ∈ R) : Ap X pins F pn1 pn' :=
  ⟨a.y1, y.y, a.b1, fun q hq p h => y.d q (by
    rcases List.mem_append.mp hq with zz | zz
    · exact List.mem_append_left _ zz
    · exact List.mem_append_right _ (hp q zz)) p h, a.f1, fun p h m => by
      obtain ⟨o, ho⟩ := hF _ m
      exact y.d _ (List.mem_append_right _ ho) p h rfl, fun p h q hq e => y.d p (List.mem_append_right _ (h1 p h)) q hq e⟩
end
/-- between two turns: ds are still to come -/
def ZSt (X : Cx) (pins : List (Addr × Obj)) (Z : Zp) (Mt : List Addr) (ds : List (Ld.Dt Str)) (σ : L2.St) (H : Hp) (s : Shared) : Prop :=
  ∃ (gs1 gs2 : GenState) (pn1 pn2 : List (Addr × Obj)) (HT1 HT2 : Hp) (x y : Value), Ap X pins Z.F pn1 pn2 ∧ Inv X (pins ++ Z.st ++ pn1 ++ pn2 ++ Z.wo x y ++ Z.wz .none) σ H s ∧
    s.gens[Z.n1]? = some gs1 ∧ s.gens[Z.n2]? = some gs2 ∧ Slept X.prog X.w X.base X.stack Z.L1 X.A.in1.in1 ds gs1 pn1 HT1 ∧ Slept X.prog X.w X.base X.stack Z.L2 X.A.in1.in1 ds gs2 pn2 HT2 ∧
    Ex HT1 H ∧ Own HT1 ∧ Kd HT1 ∧ InsO HT1 ∧ Ex HT2 H ∧ Own HT2 ∧ Kd HT2 ∧ InsO HT2 ∧ (∀ b ∈ Mt, H b ≠ none ∧ HT1 b = none ∧ HT2 b = none)
section
variable {X : Cx} {pins : List (Addr × Obj)} {Z : Zp} {Mt : List Addr} {σ : L2.St} {H : Hp} {s : Shared} {d : Ld.Dt Str} {r : List (Ld.Dt Str)} {E : Value → Shared → Prop}
theorem is_there (I : Inv X pins σ H s) {b : Addr} (h : H b ≠ none) : ∃ o, s.heap.get? b = some o := by
  cases e : H b with
  | none => exact absurd e h
  | some u => exact objok_there (I.hok b u e)
theorem not_there (I : Inv X pins σ H s) {b : Addr} (h : s.heap.get? b = none) : H b = none := by
  cases e : H b with
  | none => rfl
  | some u =>
    obtain ⟨o, eo⟩ := objok_there (I.hok b u e)
    rw [h] at eo
    cases eo
/-- what a turn of the zip brings -/
structure ZTurn (X : Cx) (pins : List (Addr × Obj)) (Z : Zp) (Mt : List Addr) (d : Ld.Dt Str) (r : List (Ld.Dt Str)) (σ : L2.St) (H : Hp) (T y1 y2 : Addr) (H' : Hp) (f : Value) (P : List (Addr × Obj)) (s' : Shared) : Prop where
  inv : Inv X (P ++ Z.wz f) σ H' s'
  zy : Yg X P (Z.wz f)
  ex : Ex H H'
  n1 : H y1 = none
  n2 : H y2 = none
  ne : y1 ≠ y2
  h1 : H' y1 = some (obD d)
  h2 : H' y2 = some (obD d)
  hT : H' T = some (.tup [.ref y1, .ref y2])
  rest : ∃ (gs1 gs2 : GenState) (pn1 pn2 : List (Addr × Obj)) (HT1 HT2 : Hp) (x y : Value), P = pins ++ Z.st ++ pn1 ++ pn2 ++ Z.wo x y ∧ Ap X pins Z.F pn1 pn2 ∧
    s'.gens[Z.n1]? = some gs1 ∧ s'.gens[Z.n2]? = some gs2 ∧ Slept X.prog X.w X.base X.stack Z.L1 X.A.in1.in1 r gs1 pn1 HT1 ∧ Slept X.prog X.w X.base X.stack Z.L2 X.A.in1.in1 r gs2 pn2 HT2 ∧
    Ex HT1 H' ∧ Own HT1 ∧ Kd HT1 ∧ InsO HT1 ∧ Ex HT2 H' ∧ Own HT2 ∧ Kd HT2 ∧ InsO HT2 ∧ (∀ b, b = y1 ∨ b = y2 ∨ b ∈ Mt → HT1 b = none ∧ HT2 b = none)
theorem mem5 {pn1 pn2 : List (Addr × Obj)} {x y f : Value} {q : Addr × Obj} : q ∈ pins ++ Z.st ++ pn1 ++ pn2 ++ Z.wo x y ++ Z.wz f ↔ q ∈ pins ∨ q ∈ Z.st ∨ q ∈ pn1 ∨ q ∈ pn2 ∨ q ∈ Z.wo x y ∨ q ∈ Z.wz f := by
  simp only [List.mem_append, or_assoc]
theorem st_F {q : Addr × Obj} (h : q ∈ Z.st) : q.1 ∈ Z.F := by
  simp only [List.mem_cons, List.not_mem_nil, or_false] at h
  rcases h with rfl | rfl | rfl <;> simp
theorem wz_F {q : Addr × Obj} {f : Value} (h : q ∈ Z.wz f) : q.1 ∈ Z.F := by
  rw [List.mem_singleton.mp h]
  simp
theorem wo_F {q : Addr × Obj} {x y : Value} (h : q ∈ Z.wo x y) : q.1 ∈ Z.F := by
  rw [List.mem_singleton.mp h]
  simp
theorem F_all {pn : List (Addr × Obj)} {x y f : Value} {R : List (Addr × Obj)} (h1 : ∀ q ∈ Z.st, q ∈ R) (h2 : ∀ q ∈ Z.wo x y, q ∈ R) (h3 : ∀ q ∈ Z.wz f, q ∈ R) : ∀ c ∈ Z.F, ∃ o, (c, o) ∈ R := fun c hc => by
  simp only [List.mem_cons, List.not_mem_nil, or_false] at hc
  rcases hc with rfl | rfl | rfl | rfl | rfl
  · exact ⟨_, h3 _ (List.mem_singleton.mpr rfl)⟩
  · exact ⟨_, h1 _ List.mem_cons_self⟩
  · exact ⟨_, h2 _ (List.mem_singleton.mpr rfl)⟩
  · exact ⟨_, h1 _ (List.mem_cons_of_mem _ List.mem_cons_self)⟩
  · exact ⟨_, h1 _ (List.mem_cons_of_mem _ (List.mem_cons_of_mem _ List.mem_cons_self))⟩
end
end LdP
/-! # LdZ4 -/
/-! One turn of the zip, and its end. -/
namespace LdP
open PySem PySem.Spec PyProof.Rows L2 Evl GenW
section
variable {X : Cx} {pins : List (Addr × Obj)} {Z : Zp} {Mt : List Addr} {σ : L2.St} {H : Hp} {s : Shared} {d : Ld.Dt Str} {r : List (Ld.Dt Str)} {E : Value → Shared → Prop}
theorem same_w {h h' : Heap} {a : Addr} {W : List (Addr × Obj)} (b : Heap.SameBut a h h') (ha : a ∈ W.map (·.1)) : ∀ c o, c ∉ W.map (·.1) → h.get? c = some o → h'.get? c = some o := fun c o hc e => b.extBut _ _ (fun z => hc (z ▸ ha)) e
theorem zip_turn (Zk : Z.Ok X pins) (hh : X.A.handled = none) (hd : X.A.depth < recursionLimit) (h : ZSt X pins Z Mt (d :: r) σ H s) {Q : Option Value → Shared → Prop}
    (q : ∀ T y1 y2 H' P s', ZTurn X pins Z Mt d r σ H T y1 y2 H' (rawInt T) P s' → Q (some (.ref T)) s') : wpAny (model X.prog X.w) X.A (pyNext (.ref Z.z)) Q E s := by
  obtain ⟨gs1, gs2, pn1, pn2, HT1, HT2, x, y, ap, I, e1, e2, sl1, sl2, eT1, ow1, kd1, io1, eT2, ow2, kd2, io2, hMt⟩ := h
  have pin0 : ∀ q ∈ pins ++ Z.st ++ pn1 ++ pn2 ++ Z.wo x y ++ Z.wz .none, s.heap.get? q.1 = some q.2 := fun q hq => (I.pin q (List.mem_append_right _ hq)).1
  refine zipG_item (TO := Z.TO) (g2 := Z.g2) Zk.tz (pin0 (Z.z, zipO .none Z.TI Z.TO) (by simp)) (pin0 (Z.TI, tupO (.ref Z.g1) (.ref Z.g2)) (by simp)) fun h0 z0 b0 => ?_
  have I0 : Inv X ((pins ++ Z.st ++ pn1 ++ pn2 ++ Z.wo x y) ++ Z.wz .ellipsis) σ H { s with heap := h0 } := inv_writes I (ap.ygF Zk.y Zk.b (fun p hpz => wz_F hpz) fun q hq => by
    have k1 := Zk.tz
    have k2 := Zk.ti
    have k3 := Zk.a1
    have k4 := Zk.a2
    simp only [List.mem_append, List.mem_cons, List.not_mem_nil, or_false] at hq
    rcases hq with (((hq | hq) | hq) | hq) | hq
    · exact .inl hq
    · refine .inr (.inr (.inr fun p hpz => ?_))
      rw [List.mem_singleton.mp hpz]
      rcases hq with rfl | rfl | rfl
      · exact k2.1
      · exact k3.1
      · exact k4.1
    · exact .inr (.inl hq)
    · exact .inr (.inr (.inl hq))
    · refine .inr (.inr (.inr fun p hpz => ?_))
      rw [List.mem_singleton.mp hpz, hq]
      exact k1) (same_w b0 (by simp)) fun p hpz => by
    rw [List.mem_singleton.mp hpz]
    exact ⟨by simp, z0, fun v q => nomatch q⟩
  -- the first one
  have I1 : Inv X ((pins ++ Z.st ++ pn2 ++ Z.wo x y ++ Z.wz .ellipsis) ++ pn1) σ H { s with heap := h0 } := inv_sub I0 fun p hpz => by grind
  have pin1 : ∀ q ∈ pins ++ Z.st ++ pn2 ++ Z.wo x y ++ Z.wz .ellipsis, h0.get? q.1 = some q.2 := fun q hq => (I1.pin q (List.mem_append_right _ (List.mem_append_left _ hq))).1
  refine gen_turn (A := X.A.in1) hh hd ⟨Zk.i1 _ (pin1 (Z.g1, Z.o1) (by simp)), e1, sl1, eT1, ow1, kd1, io1, Zk.l1, ap.yg1 fun q hq => by
    simp only [List.mem_append] at hq
    rcases hq with (((hq | hq) | hq) | hq) | hq
    · exact .inl hq
    · exact .inr (.inl (st_F hq))
    · exact .inr (.inr hq)
    · exact .inr (.inl (wo_F hq))
    · exact .inr (.inl (wz_F hq))⟩ I1 fun y1 gs1' pn1' HT1' H1 s1 J1 g1 sl1' yg1 x1 eT1' ow1' kd1' io1' hy1 ny1 ty1 new1 fr1 => ?_
  have ap1 : Ap X pins Z.F pn1' pn2 := ap.next1 yg1 (fun q hq => by grind) (F_all (pn := []) (x := x) (y := y) (f := .ellipsis) (fun q hq => by grind) (fun q hq => by grind) fun q hq => by grind) fun q hq => by grind
  have pin2 : ∀ q ∈ pins ++ Z.st ++ pn2 ++ Z.wo x y ++ Z.wz .ellipsis, s1.heap.get? q.1 = some q.2 := fun q hq => (J1.pin q (List.mem_append_right _ (List.mem_append_left _ hq))).1
  refine ⟨.ref y1, x, y, rfl, pin2 (Z.TO, tupO x y) (by simp), fun h1 t1 b1 => ?_⟩
  have J1' : Inv X ((pins ++ Z.st ++ pn1' ++ pn2 ++ Z.wz .ellipsis) ++ Z.wo x y) σ H1 s1 := inv_sub J1 fun p hpz => by grind
  have I2 : Inv X ((pins ++ Z.st ++ pn1' ++ pn2 ++ Z.wz .ellipsis) ++ Z.wo (.ref y1) y) σ H1 { s1 with heap := h1 } := inv_writes J1' (ap1.ygF Zk.y Zk.b (fun p hpz => wo_F hpz) fun q hq => by
    have k1 := Zk.tz
    have k2 := Zk.ti
    have k3 := Zk.a1
    have k4 := Zk.a2
    simp only [List.mem_append, List.mem_cons, List.not_mem_nil, or_false] at hq
    rcases hq with (((hq | hq) | hq) | hq) | hq
    · exact .inl hq
    · refine .inr (.inr (.inr fun p hpz => ?_))
      rw [List.mem_singleton.mp hpz]
      rcases hq with rfl | rfl | rfl
      · exact k2.2
      · exact k3.2
      · exact k4.2
    · exact .inr (.inl hq)
    · exact .inr (.inr (.inl hq))
    · refine .inr (.inr (.inr fun p hpz => ?_))
      rw [List.mem_singleton.mp hpz, hq]
      exact Ne.symm k1) (same_w b1 (by simp)) fun p hpz => by
    rw [List.mem_singleton.mp hpz]
    exact ⟨by simp, t1, fun v q => nomatch q⟩
  -- the second one
  have I3 : Inv X ((pins ++ Z.st ++ pn1' ++ Z.wo (.ref y1) y ++ Z.wz .ellipsis) ++ pn2) σ H1 { s1 with heap := h1 } := inv_sub I2 fun p hpz => by grind
  have pin3 : ∀ q ∈ pins ++ Z.st ++ pn1' ++ Z.wo (.ref y1) y ++ Z.wz .ellipsis, h1.get? q.1 = some q.2 := fun q hq => (I3.pin q (List.mem_append_right _ (List.mem_append_left _ hq))).1
  have e2' : s1.gens[Z.n2]? = some gs2 := by
    rw [g1, Array.getElem?_setIfInBounds_ne Zk.n]
    exact e2
  refine gen_turn (A := X.A.in1) hh hd ⟨Zk.i2 _ (pin3 (Z.g2, Z.o2) (by simp)), e2', sl2, eT2.trans x1, ow2, kd2, io2, Zk.l2, ap1.yg2 fun q hq => by
    simp only [List.mem_append] at hq
    rcases hq with (((hq | hq) | hq) | hq) | hq
    · exact .inl hq
    · exact .inr (.inl (st_F hq))
    · exact .inr (.inr hq)
    · exact .inr (.inl (wo_F hq))
    · exact .inr (.inl (wz_F hq))⟩ I3 fun y2 gs2' pn2' HT2' H2 s2 J2 g2 sl2' yg2 x2 eT2' ow2' kd2' io2' hy2 ny2 ty2 new2 fr2 => ?_
  have ap2 : Ap X pins Z.F pn1' pn2' := ap1.next2 yg2 (fun q hq => by grind) (F_all (pn := []) (x := .ref y1) (y := y) (f := .ellipsis) (fun q hq => by grind) (fun q hq => by grind) fun q hq => by grind) fun q hq => by grind
  have pin4 : ∀ q ∈ pins ++ Z.st ++ pn1' ++ Z.wo (.ref y1) y ++ Z.wz .ellipsis, s2.heap.get? q.1 = some q.2 := fun q hq => (J2.pin q (List.mem_append_right _ (List.mem_append_left _ hq))).1
  refine ⟨.ref y2, rfl, pin4 (Z.TO, tupO (.ref y1) y) (by simp), pin4 (Z.z, zipO .ellipsis Z.TI Z.TO) (by simp), fun h2 z2 t2 tn k2 => ?_⟩
  have J2' : Inv X ((pins ++ Z.st ++ pn1' ++ pn2') ++ (Z.wo (.ref y1) y ++ Z.wz .ellipsis)) σ H2 s2 := inv_sub J2 fun p hpz => by grind
  have I4 : Inv X ((pins ++ Z.st ++ pn1' ++ pn2') ++ (Z.wo (.ref y1) (.ref y2) ++ Z.wz (rawInt s2.heap.objs.size))) σ H2 { s2 with heap := h2 } := inv_writes J2' (ap2.ygF Zk.y Zk.b (fun p hpz => by
      rcases List.mem_append.mp hpz with z | z
      · exact wo_F z
      · exact wz_F z) fun q hq => by
    have k2 := Zk.ti
    have k3 := Zk.a1
    have k4 := Zk.a2
    simp only [List.mem_append, List.mem_cons, List.not_mem_nil, or_false] at hq
    rcases hq with ((hq | hq) | hq) | hq
    · exact .inl hq
    · refine .inr (.inr (.inr fun p hpz => ?_))
      simp only [List.mem_append, List.mem_cons, List.not_mem_nil, or_false] at hpz
      rcases hq with rfl | rfl | rfl <;> rcases hpz with rfl | rfl
      · exact k2.2
      · exact k2.1
      · exact k3.2
      · exact k3.1
      · exact k4.2
      · exact k4.1
    · exact .inr (.inl hq)
    · exact .inr (.inr (.inl hq))) (fun c o hc e => k2 c o (fun z => hc (by simp [z])) (fun z => hc (by simp [z])) e) fun p hpz => by
    simp only [List.mem_append, List.mem_cons, List.not_mem_nil, or_false] at hpz
    rcases hpz with rfl | rfl
    · exact ⟨by simp, t2, fun v q => nomatch q⟩
    · exact ⟨by simp, z2, fun v q => nomatch q⟩
  have fp := J2'.fpOk (Nat.le_refl _) (J2'.hok.fresh (Nat.le_refl _))
  have fpn : ∀ p ∈ X.pn ++ ((pins ++ Z.st ++ pn1' ++ pn2') ++ (Z.wo (.ref y1) (.ref y2) ++ Z.wz (rawInt s2.heap.objs.size))), p.1 ≠ s2.heap.objs.size := fun p hpz => by
    have lt : ∀ {c o}, s2.heap.get? c = some o → c ≠ s2.heap.objs.size := fun e => Nat.ne_of_lt (Heap.lt_size e)
    have all : ∀ q ∈ X.pn ++ ((pins ++ Z.st ++ pn1' ++ pn2') ++ (Z.wo (.ref y1) y ++ Z.wz .ellipsis)), q.1 ≠ s2.heap.objs.size := fun q hq => lt (J2'.pin q hq).1
    simp only [List.mem_append] at hpz
    rcases hpz with hpz | hpz | hpz | hpz
    · exact all p (List.mem_append_left _ hpz)
    · exact all p (List.mem_append_right _ (List.mem_append_left _ (by simp only [List.mem_append]; exact hpz)))
    · rw [List.mem_singleton.mp hpz]
      exact all (Z.TO, tupO (.ref y1) y) (by simp)
    · rw [List.mem_singleton.mp hpz]
      exact all (Z.z, zipO .ellipsis Z.TI Z.TO) (by simp)
  have hTn : H2 s2.heap.objs.size = none := J2'.hok.fresh (Nat.le_refl _)
  have I5 : Inv X ((pins ++ Z.st ++ pn1' ++ pn2') ++ (Z.wo (.ref y1) (.ref y2) ++ Z.wz (rawInt s2.heap.objs.size))) σ (upd H2 s2.heap.objs.size (.tup [.ref y1, .ref y2])) { s2 with heap := h2 } :=
    inv_tell I4 hTn (Nat.le_of_lt (Nat.lt_of_le_of_lt J2'.ok.above J2'.lt)) fp.2.1 fp.2.2.2.2.1 fpn ⟨by show 2 ≤ sizeLine; rw [sizeLine_eq]; decide, [.ref y1, .ref y2], .cons rfl (.cons rfl .nil), ⟨_, tn, rfl, _, rfl⟩⟩
  have xT : Ex H2 (upd H2 s2.heap.objs.size (.tup [.ref y1, .ref y2])) := Ex.new hTn
  have n1 : H y1 = none := not_there I0 ny1
  have n2' : H1 y2 = none := not_there I3 ny2
  have n2 : H y2 = none := notT x1 n2'
  have y1s : ∃ o, h1.get? y1 = some o := is_there I3 (by rw [hy1]; exact nofun)
  have ne : y1 ≠ y2 := fun z => by
    obtain ⟨o, e⟩ := y1s
    rw [z, ny2] at e
    cases e
  refine q s2.heap.objs.size y1 y2 _ (pins ++ Z.st ++ pn1' ++ pn2' ++ Z.wo (.ref y1) (.ref y2)) { s2 with heap := h2 } ⟨inv_sub I5 fun p hpz => by grind, ap2.ygF Zk.y Zk.b (fun p hpz => wz_F hpz) fun q hq => ?_, (x1.trans x2).trans xT, n1, n2, ne, xT _ _ (x2 _ _ hy1), xT _ _ hy2, upd_same,
    gs1', gs2', pn1', pn2', HT1', HT2', .ref y1, .ref y2, rfl, ap2, ?_, ?_, sl1', sl2', (eT1'.trans x2).trans xT, ow1', kd1', io1', eT2'.trans xT, ow2', kd2', io2', fun b hb => ?_⟩
  · have k1 := Zk.tz
    have k2 := Zk.ti
    have k3 := Zk.a1
    have k4 := Zk.a2
    simp only [List.mem_append, List.mem_cons, List.not_mem_nil, or_false] at hq
    rcases hq with (((hq | hq) | hq) | hq) | hq
    · exact .inl hq
    · refine .inr (.inr (.inr fun p hpz => ?_))
      rw [List.mem_singleton.mp hpz]
      rcases hq with rfl | rfl | rfl
      · exact k2.1
      · exact k3.1
      · exact k4.1
    · exact .inr (.inl hq)
    · exact .inr (.inr (.inl hq))
    · refine .inr (.inr (.inr fun p hpz => ?_))
      rw [List.mem_singleton.mp hpz, hq]
      exact k1
  · show s2.gens[Z.n1]? = _
    rw [g2, Array.getElem?_setIfInBounds_ne (Ne.symm Zk.n)]
    show s1.gens[Z.n1]? = _
    rw [g1]
    exact setGen_at (Array.getElem?_eq_some_iff.mp e1).1
  · show s2.gens[Z.n2]? = _
    rw [g2]
    exact setGen_at (Array.getElem?_eq_some_iff.mp e2').1
  · have t1 : ∀ c u, HT1' c = some u → HT1 c = none → (∃ o, h0.get? c = some o) → False := fun c u e n ⟨o, eo⟩ => by
      rcases new1 c u e with z | z
      · rw [n] at z; cases z
      · rw [show h0.get? c = none from z] at eo; cases eo
    have t2' : ∀ c u, HT2' c = some u → HT2 c = none → (∃ o, h1.get? c = some o) → False := fun c u e n ⟨o, eo⟩ => by
      rcases new2 c u e with z | z
      · rw [n] at z; cases z
      · rw [show h1.get? c = none from z] at eo; cases eo
    rcases hb with rfl | rfl | hb
    · refine ⟨ty1, ?_⟩
      cases e : HT2' b with
      | none => rfl
      | some u => exact (t2' b u e (notT eT2 n1) y1s).elim
    · exact ⟨notT eT1' n2', ty2⟩
    · obtain ⟨m0, m1, m2⟩ := hMt b hb
      refine ⟨?_, ?_⟩
      · cases e : HT1' b with
        | none => rfl
        | some u => exact (t1 b u e m1 (is_there I0 m0)).elim
      · cases e : HT2' b with
        | none => rfl
        | some u =>
          refine (t2' b u e m2 (is_there I3 fun z => ?_)).elim
          cases em : H b with
          | none => exact m0 em
          | some v => rw [x1 b v em] at z; cases z
theorem zip_stop (Zk : Z.Ok X pins) (hh : X.A.handled = none) (hd : X.A.depth < recursionLimit) (h : ZSt X pins Z Mt [] σ H s) {Q : Option Value → Shared → Prop} (q : ∀ s', Inv X pins σ H s' → Q none s') : wpAny (model X.prog X.w) X.A (pyNext (.ref Z.z)) Q E s := by
  obtain ⟨gs1, gs2, pn1, pn2, HT1, HT2, x, y, ap, I, e1, e2, sl1, sl2, eT1, ow1, kd1, io1, eT2, ow2, kd2, io2, hMt⟩ := h
  have pin0 : ∀ q ∈ pins ++ Z.st ++ pn1 ++ pn2 ++ Z.wo x y ++ Z.wz .none, s.heap.get? q.1 = some q.2 := fun q hq => (I.pin q (List.mem_append_right _ hq)).1
  have yz : ∀ pn, Yg X (pins ++ Z.st ++ pn2 ++ Z.wo x y) (Z.wz pn) := fun f => ap.ygF Zk.y Zk.b (fun p hp => wz_F hp) fun q hq => by
    have k1 := Zk.tz
    have k2 := Zk.ti
    have k3 := Zk.a1
    have k4 := Zk.a2
    simp only [List.mem_append, List.mem_cons, List.not_mem_nil, or_false] at hq
    rcases hq with ((hq | hq) | hq) | hq
    · exact .inl hq
    · refine .inr (.inr (.inr fun p hp => ?_))
      rw [List.mem_singleton.mp hp]
      rcases hq with rfl | rfl | rfl
      · exact k2.1
      · exact k3.1
      · exact k4.1
    · exact .inr (.inr (.inl hq))
    · refine .inr (.inr (.inr fun p hp => ?_))
      rw [List.mem_singleton.mp hp, hq]
      exact k1
  refine zipG_end (TO := Z.TO) (g2 := Z.g2) (pin0 (Z.z, zipO .none Z.TI Z.TO) (by simp)) (pin0 (Z.TI, tupO (.ref Z.g1) (.ref Z.g2)) (by simp)) fun h0 z0 b0 => ?_
  have yp : Yg X (pins ++ Z.st ++ pn1 ++ pn2 ++ Z.wo x y) (Z.wz .none) := ⟨(yz .none).y, fun q hq p hp => by
    simp only [List.mem_append] at hq
    by_cases hq1 : q ∈ pn1
    · intro e
      refine ap.f1 q hq1 ?_
      rw [e]
      exact wz_F hp
    · exact (yz .none).d q (by simp only [List.mem_append]; grind) p hp⟩
  have I0 : Inv X ((pins ++ Z.st ++ pn1 ++ pn2 ++ Z.wo x y) ++ Z.wz .ellipsis) σ H { s with heap := h0 } := inv_writes I yp (same_w b0 (by simp)) fun p hp => by
    rw [List.mem_singleton.mp hp]
    exact ⟨by simp, z0, fun v q => nomatch q⟩
  have I1 : Inv X ((pins ++ Z.st ++ pn2 ++ Z.wo x y ++ Z.wz .ellipsis) ++ pn1) σ H { s with heap := h0 } := inv_sub I0 fun p hp => by grind
  have pin1 : ∀ q ∈ pins ++ Z.st ++ pn2 ++ Z.wo x y ++ Z.wz .ellipsis, h0.get? q.1 = some q.2 := fun q hq => (I1.pin q (List.mem_append_right _ (List.mem_append_left _ hq))).1
  refine gen_stop (A := X.A.in1) hh hd ⟨Zk.i1 _ (pin1 (Z.g1, Z.o1) (by simp)), e1, sl1, eT1, ow1, kd1, io1, Zk.l1, ap.yg1 fun q hq => by
    simp only [List.mem_append] at hq
    rcases hq with (((hq | hq) | hq) | hq) | hq
    · exact .inl hq
    · exact .inr (.inl (st_F hq))
    · exact .inr (.inr hq)
    · exact .inr (.inl (wo_F hq))
    · exact .inr (.inl (wz_F hq))⟩ I1 fun e s1 o ho hc J1 => ?_
  have pin2 : ∀ q ∈ pins ++ Z.st ++ pn2 ++ Z.wo x y ++ Z.wz .ellipsis, s1.heap.get? q.1 = some q.2 := fun q hq => (J1.pin q (List.mem_append_right _ hq)).1
  refine ⟨e, o, rfl, ho, hc, pin2 (Z.z, zipO .ellipsis Z.TI Z.TO) (by simp), fun h1 b1 => q _ ?_⟩
  exact inv_sub (inv_writes (W' := []) J1 (yz .ellipsis) (same_w b1 (by simp)) fun p hp => nomatch hp) fun p hp => by grind
end
end LdP
/-! # LdZ5 -/
/-! for x, y in zip(all_dates(..), all_dates(..)). -/
namespace LdP
open PySem PySem.Spec PyProof.Rows L2 Evl GenW
abbrev adAll (e l : Int) (sl : List Str) (cs : List Cl) : List (Ld.Dt Str) := (Ld.allD e l sl).filter (Ld.keeps cs)
/-- Pv: the invariant, by the dates that were gone through; Mt: lists that the body may write -/
def tForZ (K : PySem.W.Frag) (ta tb : TA) (g : TG) (tu : TS) : TS := fun D σ H => ta σ H fun vs H1 => ∃ a e l sl cs, vs = [V.ref a, .int e, .int l] ∧ tb σ H1 fun vs2 H2 => vs2 = [V.ref a, .int e, .int l] ∧ Ex H1 H2 ∧ ∃ Mt : List Addr, CalW sl cs ∧ (-1000 ≤ e ∧ e ≤ l ∧ l ≤ 1000) ∧ (∀ k, k ≤ sl.length → (l + 1 - e).toNat ^ k ≤ 4096) ∧
  CalAt K (flt (rm H1 Mt)) a sl cs ∧ CalAt K (flt (rm H2 Mt)) a sl cs ∧ (∀ b ∈ Mt, ∃ xs, H1 b = some (.lst xs)) ∧ ∃ Pv : List (Ld.Dt Str) → L2.St → Hp → Prop, Pv [] σ H2 ∧ (∀ done σ' H', Pv done σ' H' → ∀ b ∈ Mt, H' b ≠ none) ∧
  (∀ done d r, done ++ d :: r = adAll e l sl cs → ∀ σ1 H3 T y1 y2 H', Pv done σ1 H3 → Ex H3 H' → H3 y1 = none → H3 y2 = none → y1 ≠ y2 → H' y1 = some (obD d) → H' y2 = some (obD d) → H' T = some (.tup [.ref y1, .ref y2]) →
    g (.ref T) σ1 H' fun σ2 H4 => tu { nx := fun σ5 H5 => Pv (done ++ [d]) σ5 H5 ∧ ∀ b u, H' b = some u → b ∉ Mt → b ≠ y1 → b ≠ y2 → H5 b = some u, rt := fun _ _ => False } σ2 H4) ∧
  ∀ σ' H', Pv (adAll e l sl cs) σ' H' → D.nx σ' H'
section
variable {X : Cx} {pins : List (Addr × Obj)} {σ : L2.St} {H : Hp} {s s' sc : Shared}
theorem made_inv {a : Addr} {e l : Int} {cd : Value} {oL go : Obj} {ga : Addr} (I : Inv X pins σ H sc) (m : AMade X.K a e l cd sc s' oL go ga) : Inv X (pins ++ [(sc.heap.objs.size, oL), (ga, go)]) σ H s' := by
  have I1 : Inv X pins σ H s' := I.call' (ch := []) m.os (Un.kept m.keep) (I.hok.kept m.keep) (by rw [m.gens]; exact AllBare.push I.bare rfl) fun b hb => absurd hb List.not_mem_nil
  have hs : X.s_0.heap.objs.size ≤ sc.heap.objs.size := Nat.le_of_lt (Nat.lt_of_le_of_lt I.ok.above I.lt)
  refine inv_pin I1 fun p hp => ?_
  simp only [List.mem_cons, List.not_mem_nil, or_false] at hp
  rcases hp with rfl | rfl
  · exact ⟨m.fr, I.hok.fresh (Nat.le_refl _), hs, Nat.ne_of_gt I.lt, m.frc⟩
  · exact ⟨m.ob, I.hok.fresh (Nat.le_of_lt m.lt), Nat.le_trans hs (Nat.le_of_lt m.lt), Nat.ne_of_gt (Nat.lt_trans I.lt m.lt), m.obc⟩
theorem pin_lt (I : Inv X pins σ H sc) : ∀ q ∈ X.pn ++ pins, @LT.lt Nat _ q.1 sc.heap.objs.size := fun q hq => Heap.lt_size (I.pin q hq).1
theorem ad_lt {a b : Addr} (h : @LT.lt Nat _ a b) : a ≠ b := Nat.ne_of_lt h
theorem ad_gt {a b : Addr} (h : @LT.lt Nat _ b a) : a ≠ b := Nat.ne_of_gt h
theorem ad_le {a b : Addr} (h : @LE.le Nat _ a b) : a ≤ b := h
/-- the five lie high -/
theorem five {x : Addr} {a b n : Nat} (h : x ∈ [n + 2, n, n + 1, a, b]) : @Eq Nat x (n + 2) ∨ @Eq Nat x n ∨ @Eq Nat x (n + 1) ∨ @Eq Nat x a ∨ @Eq Nat x b := by
  simpa using h
theorem zip_start {a : Addr} {e l : Int} {sl : List Str} {cs : List Cl} {cd1 cd2 : Value} {oL1 oL2 go1 go2 : Obj} {ga1 ga2 : Addr} {sc1 s1 sc2 s2 : Shared} {H1 H2 : Hp} {Mt : List Addr} {h' : Heap} (t : Tx X.K X.mg) (hr : Room 4 X.A) (I1 : Inv X pins σ H1 sc1) (m1 : AMade X.K a e l cd1 sc1 s1 oL1 go1 ga1)
    (I2 : Inv X (pins ++ [(sc1.heap.objs.size, oL1), (ga1, go1)]) σ H2 sc2) (hG : sc2.gens = s1.gens) (m2 : AMade X.K a e l cd2 sc2 s2 oL2 go2 ga2) (ex : Ex H1 H2)
    (hw : CalW sl cs) (hb : -1000 ≤ e ∧ e ≤ l ∧ l ≤ 1000) (hz : ∀ k, k ≤ sl.length → (l + 1 - e).toNat ^ k ≤ 4096) (c1 : CalAt X.K (flt (rm H1 Mt)) a sl cs) (c2 : CalAt X.K (flt (rm H2 Mt)) a sl cs) (hM : ∀ b ∈ Mt, ∃ xs, H1 b = some (.lst xs))
    (zz : IsZip h' (s2.heap.objs.size + 2) s2.heap.objs.size (s2.heap.objs.size + 1) .none) (zI : IsTupOf2 h' s2.heap.objs.size (.ref ga1) (.ref ga2)) (zO : IsTupOf2 h' (s2.heap.objs.size + 1) .none .none) (k : ∀ c o, s2.heap.get? c = some o → h'.get? c = some o) :
    ∃ Z : Zp, Z.z = s2.heap.objs.size + 2 ∧ Z.TI = s2.heap.objs.size ∧ Z.TO = s2.heap.objs.size + 1 ∧ Z.Ok X pins ∧ ZSt X pins Z Mt (adAll e l sl cs) σ H2 { s2 with heap := h' } := by
  have J := made_inv I2 m2
  have p1 := pin_lt I1
  have p2 := pin_lt I2
  have l0 : X.s_0.heap.objs.size < sc1.heap.objs.size := Nat.lt_of_le_of_lt I1.ok.above I1.lt
  have l1 : @LT.lt Nat _ sc1.heap.objs.size ga1 := m1.lt
  have l2 : @LT.lt Nat _ ga1 sc2.heap.objs.size := p2 (ga1, go1) (by simp)
  have l3 : @LT.lt Nat _ sc2.heap.objs.size ga2 := m2.lt
  have l4 : @LT.lt Nat _ ga2 s2.heap.objs.size := Heap.lt_size m2.ob
  have fresh : ∀ b, s2.heap.objs.size ≤ b → H2 b = none := fun b hb => J.hok.fresh hb
  have I3 : Inv X (pins ++ [(sc1.heap.objs.size, oL1), (ga1, go1)] ++ [(sc2.heap.objs.size, oL2), (ga2, go2)]) σ H2 { s2 with heap := h' } := J.kept (t' := s2.toks) k
  have I4 := inv_pin (nw := [(s2.heap.objs.size, tupO (.ref ga1) (.ref ga2)), (s2.heap.objs.size + 1, tupO .none .none), (s2.heap.objs.size + 2, zipO .none s2.heap.objs.size (s2.heap.objs.size + 1))]) I3 fun p hp => by
    have lt := J.lt
    have lt0 : X.s_0.heap.objs.size ≤ s2.heap.objs.size := by omega
    simp only [List.mem_cons, List.not_mem_nil, or_false] at hp
    rcases hp with rfl | rfl | rfl
    · exact ⟨zI, fresh _ (Nat.le_refl _), lt0, Nat.ne_of_gt lt, fun v q => nomatch q⟩
    · exact ⟨zO, fresh _ (Nat.le_succ _), Nat.le_succ_of_le lt0, Nat.ne_of_gt (Nat.lt_succ_of_lt lt), fun v q => nomatch q⟩
    · exact ⟨zz, fresh _ (Nat.le_add_right _ 2), Nat.le_trans lt0 (Nat.le_add_right _ 2), Nat.ne_of_gt (Nat.lt_of_lt_of_le lt (Nat.le_add_right _ 2)), fun v q => nomatch q⟩
  have low : ∀ q ∈ X.pn ++ pins, @LT.lt Nat _ q.1 sc1.heap.objs.size := p1
  have hs2 : sc2.gens.size = sc1.gens.size + 1 := by rw [hG, m1.gens, Array.size_push]
  have g2 : s2.gens = (sc1.gens.push (.fresh (.func adBd (gEnv X.K sc1.heap.objs.size cd1)))).push (.fresh (.func adBd (gEnv X.K sc2.heap.objs.size cd2))) := by rw [m2.gens, hG, m1.gens]
  have dp := hr.dp
  have un := hr.un
  have hr3 : Room 3 X.A.in1.in1 := ⟨hr.hd, (by show X.A.depth + 3 * 3 + 5 < _; omega), (by show X.A.units + 1 + 1 + 16 * 3 + 200 < _; omega)⟩
  refine ⟨⟨s2.heap.objs.size + 2, s2.heap.objs.size, s2.heap.objs.size + 1, ga1, ga2, go1, go2, sc1.gens.size, sc2.gens.size, sc1.heap.objs.size, sc2.heap.objs.size⟩, rfl, rfl, rfl, ⟨m1.isg, m2.isg, ?_, ?_, ?_, ?_, ⟨?_, ?_⟩, ⟨?_, ?_⟩, ⟨?_, ?_⟩, ?_, ?_⟩,
    _, _, [(sc1.heap.objs.size, oL1)], [(sc2.heap.objs.size, oL2)], flt (rm H1 Mt), flt (rm H2 Mt), .none, .none, ⟨?_, ?_, ?_, ?_, ?_, ?_, ?_⟩, ?_, ?_, ?_, made_slept t I1.env0 hr3 I1.env0.frames hw hb hz m1 Mt c1, made_slept t I2.env0 hr3 I2.env0.frames hw hb hz m2 Mt c2,
    fun b u h => ex _ _ ?_, flt_own _, flt_kd _, ?_, fun b u h => ?_, flt_own _, flt_kd _, ?_, fun b hb => ⟨(let ⟨xs, q⟩ := hM b hb; by rw [ex _ _ q]; exact nofun), ?_, ?_⟩⟩
  · show sc1.gens.size ≠ sc2.gens.size
    omega
  · intro b hb
    have hb := five (a := ga1) (b := ga2) (n := s2.heap.objs.size) hb
    refine ad_le ?_
    omega
  · intro q hq hb
    have := low q hq
    have hb := five (a := ga1) (b := ga2) (n := s2.heap.objs.size) hb
    omega
  · exact ad_lt (Nat.lt_succ_self _)
  · exact ad_lt (Nat.lt_add_of_pos_right (by decide))
  · exact ad_lt (Nat.lt_succ_self _)
  · refine ad_lt ?_
    show @LT.lt Nat _ ga1 (s2.heap.objs.size + 2)
    omega
  · refine ad_lt ?_
    show @LT.lt Nat _ ga1 (s2.heap.objs.size + 1)
    omega
  · refine ad_lt ?_
    show @LT.lt Nat _ ga2 (s2.heap.objs.size + 2)
    omega
  · refine ad_lt ?_
    show @LT.lt Nat _ ga2 (s2.heap.objs.size + 1)
    omega
  · exact Nat.le_of_lt l0
  · exact ad_le (Nat.le_of_lt (Nat.lt_trans l0 (Nat.lt_trans l1 l2)))
  · intro p hp
    rw [List.mem_singleton.mp hp]
    exact Nat.le_of_lt l0
  · intro p hp
    rw [List.mem_singleton.mp hp]
    exact ad_le (Nat.le_of_lt (Nat.lt_trans l0 (Nat.lt_trans l1 l2)))
  · intro q hq p hp
    have := low q hq
    rw [List.mem_singleton.mp hp]
    exact ad_lt this
  · intro q hq p hp
    have := low q hq
    rw [List.mem_singleton.mp hp]
    refine ad_lt ?_
    show @LT.lt Nat _ q.1 sc2.heap.objs.size
    omega
  · intro p hp hb
    rw [List.mem_singleton.mp hp] at hb
    have hb := five (a := ga1) (b := ga2) (n := s2.heap.objs.size) hb
    omega
  · intro p hp hb
    rw [List.mem_singleton.mp hp] at hb
    have hb := five (a := ga1) (b := ga2) (n := s2.heap.objs.size) hb
    omega
  · intro p hp q hq
    rw [List.mem_singleton.mp hp, List.mem_singleton.mp hq]
    refine ad_lt ?_
    show @LT.lt Nat _ sc1.heap.objs.size sc2.heap.objs.size
    omega
  · exact inv_sub I4 fun p hp => by grind
  · show s2.gens[sc1.gens.size]? = _
    rw [g2, Array.getElem?_push_lt (by rw [Array.size_push]; omega), Array.getElem_push_eq]
  · show s2.gens[sc2.gens.size]? = _
    rw [m2.gens]
    exact Array.getElem?_push_size ..
  · have := flt_sub h
    unfold rm at this
    split at this
    · cases this
    · exact this
  · exact insO_of (flt_hok (rm_hok I1.hok fun b hb => .inl (hM b hb)))
  · have := flt_sub h
    unfold rm at this
    split at this
    · cases this
    · exact this
  · exact insO_of (flt_hok (rm_hok I2.hok fun b hb => .inl (let ⟨xs, q⟩ := hM b hb; ⟨xs, ex _ _ q⟩)))
  · exact notT (H := rm H1 Mt) (fun _ _ h => flt_sub h) (by unfold rm; rw [if_pos hb])
  · exact notT (H := rm H2 Mt) (fun _ _ h => flt_sub h) (by unfold rm; rw [if_pos hb])
/-- for x, y in zip(all_dates(..), all_dates(..)): body -/
theorem ps_forZ {x1 x2 : Expr} {es1 es2 : List Expr} {elts : List Expr} {body : List Stmt} {ta tb : TA} {g : TG} {tu : TS} {k : Nat} {tpos pz p1 q1 p2 q2 pos fpos : Pos} (t : Tx X.K X.mg) (hr : Room 4 X.A) (ha : ∀ G, GA X G (x1 :: es1) ta) (hb : ∀ G, GA X G (x2 :: es2) tb) (hg : ∀ G, GG X G (.Tuple elts k tpos) g) (hu : ∀ G, GSt' X G body tu)
    (gz : Gl X "zip" := by rfl) (gd : Gl X "all_dates" := by rfl)
    (h1 : starEach (x1 :: es1) X.env = (false, eval x1 X.env) :: starEach es1 X.env := by rfl) (h1p : (backTo q1 (starEach es1 X.env)).any (·.1) = false := by rfl)
    (h2 : starEach (x2 :: es2) X.env = (false, eval x2 X.env) :: starEach es2 X.env := by rfl) (h2p : (backTo q2 (starEach es2 X.env)).any (·.1) = false := by rfl)
    (hs1 : starEach [.Call (.Name "all_dates" p1) (x1 :: es1) [] q1, .Call (.Name "all_dates" p2) (x2 :: es2) [] q2] X.env = (false, eval (.Call (.Name "all_dates" p1) (x1 :: es1) [] q1) X.env) :: starEach [.Call (.Name "all_dates" p2) (x2 :: es2) [] q2] X.env := by rfl)
    (hs2 : starEach [.Call (.Name "all_dates" p2) (x2 :: es2) [] q2] X.env = [(false, eval (.Call (.Name "all_dates" p2) (x2 :: es2) [] q2) X.env)] := by rfl)
    (hpl : (backTo pos (starEach [.Call (.Name "all_dates" p2) (x2 :: es2) [] q2] X.env)).any (·.1) = false := by rfl)
    (hf : ∀ x, foldedSetIterable (.Call (.Name "zip" pz) [.Call (.Name "all_dates" p1) (x1 :: es1) [] q1, .Call (.Name "all_dates" p2) (x2 :: es2) [] q2] [] pos) X.env x = pure x := by intro _; rfl) :
    PS X (.For (.Tuple elts k tpos) (.Call (.Name "zip" pz) [.Call (.Name "all_dates" p1) (x1 :: es1) [] q1, .Call (.Name "all_dates" p2) (x2 :: es2) [] q2] [] pos) body [] fpos) (tForZ X.K ta tb g tu) := by
  refine ⟨fun pinsz sz σz Hz Dz Iz hzz => ?_⟩
  have hr1 : Room 1 X.A := hr.mono (by decide)
  refine wpAny_For (wpAny_Call_Name_kw (ld_blt Iz gz t.f_zip PyProof.Rows.boot_zip (PyProof.Rows.callWith_type1 ?_ hs1 hpl))) hf
  rw [hs1, hs2]
  show wpAny _ _ (spliced ((false, eval _ X.env) :: (false, eval _ X.env) :: [])) _ _ sz
  refine Calls.spliced_cons (wpAny_mono (ad_eval (E := X.xe) t hr1 (ha sz.gens) Iz rfl hzz (fun vs H1 ⟨a, e, l, sl, cs, ev, _⟩ => ⟨a, e, l, ev⟩) gd h1 h1p) (fun u1 s1 ⟨ga1, cd1, oL1, go1, sc1, H1, a, e, l, eu1, I1, _, m1, q1⟩ => ?_) fun _ _ z => z)
  obtain ⟨a', e', l', sl, cs, ev, q1⟩ := q1
  cases ev
  have J1 := made_inv I1 m1
  refine Calls.spliced_cons (wpAny_mono (ad_eval (E := X.xe) t hr1 (hb s1.gens) J1 rfl q1 (fun vs H2 ⟨ev, _⟩ => ⟨a, e, l, ev⟩) gd h2 h2p) (fun u2 s2 ⟨ga2, cd2, oL2, go2, sc2, H2, a2, e2, l2, eu2, I2, hG, m2, q2⟩ => ?_) fun _ _ z => z)
  obtain ⟨ev2, ex, Mt, hw, hb3, hz, c1, c2, hM, Pv, pv0, pvM, step, fin⟩ := q2
  cases ev2
  subst eu1 eu2
  refine Calls.spliced_nil ?_
  refine call_zipG (m1.isg _ ?_) (m2.isg _ m2.ob) fun h' zz zI zO hsz kp => wpAny_pyIter_zip zz ?_
  · exact ((made_inv I2 m2).pin (ga1, go1) (by simp)).1
  obtain ⟨Z, ez, eI, eO, Zk, zs⟩ := zip_start t hr I1 m1 I2 hG m2 ex hw hb3 hz c1 c2 hM zz zI zO kp
  rw [← ez]
  refine codeAny_forLoop_any (fun n s' => ∃ done rest σ' H', n = rest.length ∧ done ++ rest = adAll e l sl cs ∧ Pv done σ' H' ∧ ZSt X pinsz Z Mt rest σ' H' s') ?_ (adAll e l sl cs).length ⟨[], _, σz, H2, rfl, List.nil_append _, pv0, zs⟩
  rintro n s3 ⟨done, rest, σ3, H3, rfl, hdr, pv, zs3⟩
  have hd : X.A.depth < recursionLimit := hr1.depth
  cases rest with
  | nil =>
    refine zip_stop Zk hr1.hd hd zs3 fun s4 I4 => wpAny_execs_nil ⟨σ3, H3, I4, fin σ3 H3 ?_⟩
    rw [List.append_nil] at hdr
    rw [← hdr]
    exact pv
  | cons d r =>
    refine zip_turn Zk hr1.hd hd zs3 fun T y1 y2 H' P s4 zt => ?_
    obtain ⟨gs1, gs2, pn1, pn2, HT1, HT2, x, y, eP, ap, k1, k2, sl1, sl2, eT1, ow1, kd1, io1, eT2, ow2, kd2, io2, hno⟩ := zt.rest
    have zz4 : IsZip s4.heap Z.z Z.TI Z.TO (rawInt T) := (zt.inv.pin (Z.z, zipO (rawInt T) Z.TI Z.TO) (by simp)).1
    refine wpAny_letOwnedTupleGo_zip zz4 fun h5 z5 b5 => ?_
    have I5 : Inv X (P ++ Z.wz .none) σ3 H' { s4 with heap := h5 } := inv_writes zt.inv zt.zy (same_w b5 (by simp)) fun p hp => by
      rw [List.mem_singleton.mp hp]
      exact ⟨by simp, z5, fun v q => nomatch q⟩
    refine (hg s4.gens).go I5 rfl (show RelV (.ref T) (.ref T) from rfl) (step done d r hdr σ3 H3 T y1 y2 H' pv zt.ex zt.n1 zt.n2 zt.ne zt.h1 zt.h2 zt.hT) fun s6 σ6 H6 I6 g6 q6 => ?_
    refine (hu s4.gens).go I6 g6 q6 fun f s7 q7 g7 => ?_
    cases f with
    | ret v => obtain ⟨_, _, _, _, _, z⟩ := q7; exact z.elim
    | brk => obtain ⟨_, _, _, z⟩ := q7; exact z.elim
    | cont => obtain ⟨_, _, _, z⟩ := q7; exact z.elim
    | next =>
      obtain ⟨σ7, H7, I7, pv7, kp7⟩ := q7
      have keepT : ∀ {HT : Hp}, Ex HT H' → (∀ b, b = y1 ∨ b = y2 ∨ b ∈ Mt → HT b = none) → Ex HT H7 := fun {HT} eT no b u e => by
        have ne : ∀ c, HT c = none → b ≠ c := fun c hc z => by rw [z, hc] at e; cases e
        exact kp7 b u (eT b u e) (fun z => ne b (no b (.inr (.inr z))) rfl) (ne y1 (no y1 (.inl rfl))) (ne y2 (no y2 (.inr (.inl rfl))))
      refine ⟨r.length, Nat.lt_succ_self _, done ++ [d], r, σ7, H7, rfl, by rw [List.append_assoc]; exact hdr, pv7, gs1, gs2, pn1, pn2, HT1, HT2, x, y, ap, by rw [eP] at I7; exact I7, by rw [g7]; exact k1, by rw [g7]; exact k2, sl1, sl2, keepT eT1 (fun b hzz => (hno b hzz).1), ow1, kd1, io1, keepT eT2 (fun b hzz => (hno b hzz).2), ow2, kd2, io2, fun b hb => ⟨pvM _ _ _ pv7 b hb, hno b (.inr (.inr hb))⟩⟩
end
end LdP
/-! # LdP4 -/
/-! _law_all. -/
namespace LdP
open PySem PySem.Spec PyProof.Rows L2 Evl LiI
theorem rng_range (e l : Int) (lab : Str) (d : Ld.Dt Str) : ((List.range (l + 1 - e).toNat).map fun i => d ++ [(lab, e + ((i : Nat) : Int))]) = (Ld.rng e l).map fun x => d ++ [(lab, x)] := by
  unfold Ld.rng
  rw [List.map_map]
  rfl
section
variable {base : Heap} {mg : Str → Option Value} {K : PySem.W.Frag} {w : World} {P : Program}
/-- what such a call wants -/
structure AllArg (H : Hp) (a c : Addr) (ls sl : List Str) (cs : List Cl) (e l : Int) : Prop where
  la : H a = some (.lst (ls.map V.str))
  cl : ClsAt H c cs
  l64 : ls.length < 64
  st : ∀ zs : List Str, zs.Perm ls → sortedS zs = true → zs = sl
  nd : (sl ++ [day]).Nodup
  l8 : sl.length ≤ 8
  c100 : cs.length ≤ 100
  mem : ∀ x ∈ cs, x.one ∈ sl ++ [day] ∧ x.other ∈ sl ++ [day]
  b : -1000 ≤ e ∧ e ≤ l + 1 ∧ l ≤ 1000
  z : ∀ k, k ≤ sl.length → (l + 1 - e).toNat ^ k ≤ 4096
def spLall : Sp := fun vs H Q _ => ∃ (a c : Addr) (ls sl : List Str) (cs : List Cl) (e l : Int), vs = [.ref a, .ref c, .int e, .int l] ∧ AllArg H a c ls sl cs e l ∧ ∀ p H', H p = none → Ex H H' → ListO obD H' p (adAll e l sl cs) → Q (.ref p) H'
theorem ok_Lall (t : Tx K mg) : Ok P w K mg base 2 (He.ga K "_law_all") p_Lall spLall := by
  obtain ⟨fd, F⟩ := t.def_Lall
  have G1 := ok_Lkeeps (P := P) (w := w) (base := base) t
  refine ok_of F sc_Lall (fun _ _ _ _ _ _ us hl => match us, hl with | [_, _, _, _], _ => rfl) (fun vs H Q E h => ?_) (fun cdv A outer s H vs Q E hr h => ?_)
  · obtain ⟨a, c, ls, sl, cs, e, l, rfl, _⟩ := h
    rfl
  · obtain ⟨a, c, ls, sl, cs, e, l, rfl, ag, q⟩ := h
    have hu := hu_of hr
    refine ⟨_, pss_cons (ps_set (i := 4) sc_Lall.nd rfl (Or.inl rfl) (pe_lst (pa_cons pe_dnewK pa_nil)))
      (pss_cons (ps_for PassesOwn.never rfl (pi_list (pe_callB cr_sortedS (by rfl) t.f_sorted boot_sorted' (pa_cons (pv 0) pa_nil))) (pg_name (i := 5) sc_Lall.nd rfl (Or.inr rfl))
        (pss_cons (ps_set (i := 6) sc_Lall.nd rfl (Or.inl rfl) (pe_lst pa_nil))
        (pss_cons (ps_for PassesOwn.never rfl (pi_list (pv 4)) (pg_name (i := 7) sc_Lall.nd rfl (Or.inr rfl))
          (pss_one (ps_expr (pe_bm PySem.F.plainAttrs_list PySem.F.slot_list_extend PySem.F.type_list_extend mt_extend (pv 6) (pa_cons
            (pe_lc (own := [("_law_day", 8)]) (g := gName 8) (tt := tYes) (te := tPlus K (tVar 7) (tVar 5) (tVar 8)) rfl sc_Lall.nd (pi_range2 (by rfl) t.f_range (pa_cons (pv 2) (pa_cons (pe_op op_add (pv 3) pe_int) pa_nil))) (blkOk_by (own := [("_law_day", 8)]) (N := n_Lall) (sc := defScope s_Lall) (by decide +kernel))
              (fun _ _ _ _ _ => pg_name (i := 8) sc_Lall.nd rfl (Or.inl rfl)) (fun _ _ _ _ _ => pts_nil) (fun _ _ _ _ _ => pe_plus rfl t rfl (pv 7) (pv 5) (pv 8))) pa_nil)))))
        (pss_one (ps_set (i := 4) sc_Lall.nd rfl (Or.inl rfl) (pe_callTy call_list_of (by rfl) t.f_list boot_list' (pa_cons (pv 6) pa_nil)))))))
      (pss_one (ps_ret (pe_lc (own := [("_law_near", 7)]) (g := gName 7) (te := tVar 7) (tt := tB (tCall (spLkeeps K) [] E0 (tCons (tVar 7) (tCons (tVar 1) tNil)))) rfl sc_Lall.nd (pi_list (pv 4)) (blkOk_by (own := [("_law_near", 7)]) (N := n_Lall) (sc := defScope s_Lall) (by decide +kernel))
        (fun _ _ _ _ _ => pg_name (i := 7) sc_Lall.nd rfl (Or.inl rfl)) (fun _ _ _ _ _ => pts_one (pt_val (pe_fn G1 hr t.g_lawkeeps (pa_cons (pv 7) (pa_cons (pv 1) pa_nil))))) (fun _ _ _ _ _ => pv 7))))), ?_⟩
    have hnd : sl.Nodup := (List.nodup_append.mp ag.nd).1
    have hday : ∀ x ∈ sl, x ≠ day := fun x hx z => (List.nodup_append.mp ag.nd).2.2 x hx day (List.mem_singleton.mpr rfl) z
    have hsz : ∀ k, k ≤ sl.length → (Ld.allD e l (sl.take k)).length ≤ 4096 := fun k hk => by
      rw [Ld.allD_len e l k (sl.take k) (by rw [List.length_take]; omega)]
      exact ag.z k hk
    have hlen := ag.l64
    obtain ⟨b1, b2, b3⟩ := ag.b
    have l8 := ag.l8
    have slen : sl.length = ls.length ∨ True := .inr trivial
    -- found = [{}]
    refine q_asgN (R := fun p H1 => ListO obD H1 p [[]]) ((en_lst (R := fun vs H1 => ∃ x : Addr, vs = [.ref x] ∧ H1 x = some (obD [])) (ear_consN (en_D ed_new) fun x H1 e1 hx => ear_nil fun H2 e2 => ⟨x, rfl, e2 _ _ hx⟩)
      (fun vs H1 H2 e ⟨x, h1, h2⟩ => ⟨x, h1, e _ _ h2⟩) (fun vs H1 ⟨x, h1, _⟩ => by rw [h1]; show 1 ≤ 100000; decide)).imp fun p H1 e1 ⟨vs, h1, x, h2, h3⟩ => ⟨[x], by rw [h1, h2]; rfl, .cons h3 .nil⟩) (fun p0 H1 hp0 e1 h1 => ?_)
    refine q_forNL (xs := sl.map V.str) (ev_sorted (ev_var rfl) (e1 _ _ ag.la) hlen ag.st) (fun q i σ' H' => Ex H1 H' ∧ H' q = some (.lst (sl.map V.str)) ∧ ∃ (pf : Addr) (x5 x6 x7 : Option V), σ' = [some (.ref a), some (.ref c), some (.int e), some (.int l), some (.ref pf), x5, x6, x7, none] ∧ ListO obD H' pf (Ld.allD e l (sl.take i)))
      (fun q H2 hq e2 h2 => ⟨e2, h2, p0, none, none, none, rfl, by rw [List.take_zero]; exact h1.ex e2⟩) (fun q i σ' H' _ h => sq_of h.2.1) ?_ ?_
    · rintro q i x σ' H' hi ⟨e2, hq, pf, x5, x6, x7, rfl, as, hpf, hA⟩
      obtain ⟨lab, hlab, rfl⟩ : ∃ z, sl[i]? = some z ∧ x = .str z := by
        rw [List.getElem?_map] at hi
        cases h : sl[i]? with
        | none => rw [h] at hi; cases hi
        | some z => rw [h] at hi; exact ⟨z, rfl, (Option.some.inj hi).symm⟩
      have hil : i < sl.length := (List.getElem?_eq_some_iff.mp hlab).1
      have ht : sl.take (i + 1) = sl.take i ++ [lab] := by rw [List.take_add_one, hlab]; rfl
      have hs1 := hsz (i + 1) (by omega)
      have hal : as.length = (Ld.allD e l (sl.take i)).length := paired_len hA
      have keys : ∀ d ∈ Ld.allD e l (sl.take i), d.map (·.1) = sl.take i := fun d hd => ((Ld.mem_allD _ _ _ rfl).mp hd).1
      -- longer = []
      refine q_asgL (el_lst ea_nil (Nat.zero_le _)) fun L H3 hL e3 h3 => ?_
      have aO0 : AtO obD H' L [] H3 := ⟨e3, [], h3, .nil, fun b hb => absurd hb List.not_mem_nil⟩
      refine q_forL (xs := as.map V.ref) (ev_var rfl) (sq_of (e3 _ _ hpf)) (fun j σ' H4 => AtO obD H' L (((Ld.allD e l (sl.take i)).take j).flatMap fun near => (Ld.rng e l).map fun d => near ++ [(lab, d)]) H4 ∧ ∃ x7 : Option V, σ' = [some (.ref a), some (.ref c), some (.int e), some (.int l), some (.ref pf), some (.str lab), some (.ref L), x7, none])
        (fun H4 e4 => ⟨by rw [List.take_zero]; exact aO0.ex e4, x7, rfl⟩) (fun j σ' H4 _ h => sq_of (h.1.s _ _ hpf)) ?_ ?_
      · rintro j x σ' H4 hj ⟨aO, x7', rfl⟩
        obtain ⟨nr, hnr, rfl⟩ : ∃ z, as[j]? = some z ∧ x = .ref z := by
          rw [List.getElem?_map] at hj
          cases h : as[j]? with
          | none => rw [h] at hj; cases hj
          | some z => rw [h] at hj; exact ⟨z, rfl, (Option.some.inj hj).symm⟩
        obtain ⟨d, hd, hdo⟩ := paired_get hA hnr
        have hdm : d ∈ Ld.allD e l (sl.take i) := List.mem_of_getElem? hd
        have hk := keys d hdm
        have ext : (Ld.allD e l (sl.take i)).take (j + 1) = (Ld.allD e l (sl.take i)).take j ++ [d] := by rw [List.take_add_one, hd]; rfl
        have hzz : (((Ld.allD e l (sl.take i)).take (j + 1)).flatMap fun near => (Ld.rng e l).map fun d => near ++ [(lab, d)]).length ≤ 4096 := by
          refine Nat.le_trans ?_ hs1
          rw [ht, Ld.allD_snoc]
          unfold Ld.grow
          rw [Ld.flatMap_const_len (m := (Ld.rng e l).length) (fun x _ => List.length_map _), Ld.flatMap_const_len (m := (Ld.rng e l).length) (fun x _ => List.length_map _)]
          exact Nat.mul_le_mul_right _ (List.length_take_le' ..)
        rw [ext, List.flatMap_append] at hzz ⊢
        have hlast : ([d].flatMap fun near => (Ld.rng e l).map fun x => near ++ [(lab, x)]) = (List.range (l + 1 - e).toNat).map fun i => d ++ [(lab, e + ((i : Nat) : Int))] := by
          rw [rng_range, List.flatMap_cons, List.flatMap_nil, List.append_nil]
        rw [hlast] at hzz ⊢
        refine s_ext (H1 := H') hL aO (ev_var rfl) (en_lcR (lo := e) (hi := l + 1) (fun i => d ++ [(lab, e + ((i : Nat) : Int))]) (ea_cons (ev_var rfl) (ea_cons (ev_op (ev_var rfl) ev_c (rv_I0 (g := fun i j => .int (i + j)))) ea_nil)) ⟨by omega, by omega, by omega, by omega⟩ (by omega) (fun _ => rfl) fun k hk2 H5 e5 => ?_) ?_ fun H5 aO5 => ⟨aO5, _, rfl⟩
        · refine en_D (ed_plus (d := d) (k := lab) (v := e + (k : Nat)) (ev_var rfl) ((aO.s.trans e5) _ _ hdo) (fun _ _ => ev_var rfl) (fun _ _ => ev_var rfl) ?_ ?_)
          · rw [List.map_append, hk]
            show (sl.take i ++ [lab]).Nodup
            rw [← ht]
            exact List.Nodup.sublist (List.take_sublist _ _) hnd
          · have := congrArg List.length hk
            rw [List.length_map, List.length_take] at this
            omega
        · rw [List.length_append] at hzz
          exact Nat.le_trans hzz (by decide)
      · rintro σ' H4 ⟨aO, x7', rfl⟩
        have hl2 : (as.map V.ref).length = (Ld.allD e l (sl.take i)).length := by rw [List.length_map, hal]
        rw [hl2, List.take_length] at aO
        obtain ⟨bs, hb1, hb2, hb3⟩ := aO.d
        refine s_asgL (el_list1 (ev_var rfl) hb1) fun p5 H5 hp5 e5 h5 => ⟨(e2.trans aO.s).trans e5, (aO.s.trans e5) _ _ hq, p5, _, _, _, rfl, bs, h5, ?_⟩
        rw [ht, Ld.allD_snoc]
        exact hb2.ex e5
    · rintro q' σ' H' ⟨e2, hq, pf, x5, x6, x7, rfl, as, hpf, hA⟩
      have hl2 : (sl.map V.str).length = sl.length := List.length_map _
      rw [hl2, List.take_length] at hA
      have x2 := e1.trans e2
      have hz4 : (Ld.allD e l sl).length ≤ 4096 := by
        have := hsz sl.length (Nat.le_refl _)
        rwa [List.take_length] at this
      refine s_retN (R := fun p H2 => ListO obD H2 p (adAll e l sl cs)) (en_lcF (Ld.keeps cs) (ev_var rfl) hpf hA (by omega) (fun _ => rfl) (fun _ => rfl) fun b d H3 e3 hb hd => ?_) fun p H3 hp e3 h3 => q p H3 (fresh_back x2 hp) (x2.trans e3) h3
      obtain ⟨hk, _⟩ := (Ld.mem_allD _ _ _ rfl).mp hd
      refine et_B (ev_call (ea_cons (ev_var rfl) (ea_cons (ev_var rfl) ea_nil)) fun H4 e4 Q4 q4 E4 => ⟨b, c, d, cs, rfl, e4 _ _ hb, ag.cl.ex ((x2.trans e3).trans e4), by rw [hk]; exact ag.nd, ?_, ag.c100, by rw [hk]; exact ag.mem, q4⟩)
      have := congrArg List.length hk
      rw [List.length_map] at this
      omega
end
end LdP
/-! # LdP5 -/
/-! xs != []; lists of empty dicts by ==. -/
namespace LdP
open PySem PySem.Spec PyProof.Rows L2 Evl LiI
/-- xs != [] -/
def rNeE : R2 := fun x y H Q => ∃ p q xs, x = .ref p ∧ y = .ref q ∧ H p = some (.lst xs) ∧ H q = some (.lst []) ∧ Q (.bl (!xs.isEmpty)) H
/-- as == bs, lists of the same length of empty dicts -/
def rEqE : R2 := fun x y H Q => ∃ (p q : Addr) (as bs : List Addr), x = .ref p ∧ y = .ref q ∧ H p = some (.lst (as.map V.ref)) ∧ H q = some (.lst (bs.map V.ref)) ∧ as.length = bs.length ∧ (∀ a ∈ as, H a = some (.dK [])) ∧ (∀ b ∈ bs, H b = some (.dK [])) ∧ (∀ a ∈ as, a ∉ bs) ∧ Q (.bl true) H
section
variable {X : Cx}
theorem op_neE (hu : X.A.units + 64 < cLine) : OpR X (compareOp .NotEq) rNeE := by
  intro pinsz sz σz Hz xz yz vz uz Qz Iz rxz ryz hz
  obtain ⟨p, q, xs, rfl, rfl, hp, hq, k⟩ := hz
  cases rxz
  cases ryz
  obtain ⟨its, r1, p1, _⟩ := Iz.list (sq_of hp)
  obtain ⟨its2, r2, p2, _⟩ := Iz.list (sq_of hq)
  cases r2
  cases r1 with
  | nil =>
    exact SeqAt.RcNeAt.lists (e := fun _ => true) p1.isList p2.isList rfl (by omega) (fun j h1 _ => absurd h1 (Nat.not_lt_zero _)) X.prog X.w _ _ ⟨.bl _, Hz, Iz, rfl, k⟩
  | cons ra rr => exact SeqAt.RcNeAt.lists_lengths p1.isList p2.isList (by simp) (by omega) X.prog X.w _ _ ⟨.bl _, Hz, Iz, rfl, k⟩
theorem refs_of : ∀ {as : List Addr} {us : List Value}, Vals (as.map V.ref) us → us = as.map Value.ref
  | [], _, .nil => rfl
  | a :: as, _, .cons r t => by
    cases r
    rw [refs_of t]
    rfl
theorem op_eqE (hu : X.A.units + 64 < cLine) : OpR X (compareOp .Eq) rEqE := by
  intro pinsz sz σz Hz xz yz vz uz Qz Iz rxz ryz hz
  obtain ⟨p, q, as, bs, rfl, rfl, hp, hq, hl, ha, hb, hn, k⟩ := hz
  cases rxz
  cases ryz
  obtain ⟨its, r1, p1, _⟩ := Iz.list (sq_of hp)
  obtain ⟨its2, r2, p2, _⟩ := Iz.list (sq_of hq)
  have e1 := refs_of r1
  have e2 := refs_of r2
  subst e1 e2
  have all : ∀ n, (List.range n).all (fun _ => true) = true := fun n => by rw [List.all_eq_true]; intro _ _; rfl
  refine PySem.W.eq_listsT (n := 1) (e := fun _ => true) p1.isList p2.isList (by simp [hl]) (fun j h1 h2 => ?_) (by omega) ⟨.bl true, Hz, Iz, by rw [all]; rfl, k⟩
  have h1' : j < as.length := by simpa using h1
  have h2' : j < bs.length := by simpa using h2
  have ea : (as.map Value.ref).toArray[j] = .ref as[j] := by simp
  have eb : (bs.map Value.ref).toArray[j] = .ref bs[j] := by simp
  rw [ea, eb]
  obtain ⟨_, sa, va, ra, da⟩ := dk_of Iz.hok (ha _ (List.getElem_mem h1'))
  obtain ⟨_, sb, vb, rb, db⟩ := dk_of Iz.hok (hb _ (List.getElem_mem h2'))
  cases ra
  cases rb
  exact PySem.W.EqTree.dicts (n := 0) (e := fun _ => true) (fun z => hn as[j] (List.getElem_mem h1') (by rw [z]; exact List.getElem_mem h2')) sa sb da db (fun k vz yz hm _ => absurd hm List.not_mem_nil)
end
end LdP
/-! # LdP6 -/
/-! What is drafted: labels, clauses that some days keep. -/
namespace LdP
open PySem PySem.Spec PyProof.Rows L2 Evl LiI
def lb0 : List Str := ["show", "b", "a"]
def lbs (n : Nat) : List Str := lb0.take n
def sls : Nat → List Str
  | 0 => []
  | 1 => ["show"]
  | 2 => ["b", "show"]
  | _ => ["a", "b", "show"]
def yks : Nat → List Str
  | 0 => ["day"]
  | 1 => ["day", "show"]
  | 2 => ["b", "day", "show"]
  | _ => ["a", "b", "day", "show"]
theorem four {n : Nat} (h : n ≤ 3) : n = 0 ∨ n = 1 ∨ n = 2 ∨ n = 3 := by omega
section
variable {n : Nat}
theorem lbs_srt (h : n ≤ 3) : Srt (lbs n) (sls n) := by
  rcases four h with rfl | rfl | rfl | rfl <;> exact ⟨by decide +kernel, by decide +kernel⟩
theorem lbs_nd (h : n ≤ 3) : (lbs n).Nodup := by
  rcases four h with rfl | rfl | rfl | rfl <;> decide +kernel
theorem sls_nd (h : n ≤ 3) : (sls n ++ [day]).Nodup := by
  rcases four h with rfl | rfl | rfl | rfl <;> decide +kernel
theorem lbs_len (h : n ≤ 3) : (lbs n).length = n := by
  rcases four h with rfl | rfl | rfl | rfl <;> rfl
theorem sls_len (h : n ≤ 3) : (sls n).length = n := by
  rcases four h with rfl | rfl | rfl | rfl <;> rfl
theorem lbs_slw (h : n ≤ 3) : SlW (lbs n) := fun z hz => by
  have hz : z ∈ lb0 := List.mem_of_mem_take hz
  unfold lb0 at hz
  simp only [List.mem_cons, List.not_mem_nil, or_false] at hz
  rcases hz with rfl | rfl | rfl <;> exact ⟨by decide +kernel, by decide +kernel, by decide +kernel⟩
theorem mem_sls (h : n ≤ 3) {z : Str} : z ∈ sls n ↔ z ∈ lbs n := (lbs_srt h).1.mem_iff
theorem sls_mom (h : n ≤ 3) : Mom (sls n) (yks n) := by
  rcases four h with rfl | rfl | rfl | rfl <;> exact ⟨by decide +kernel, by decide +kernel, by decide +kernel, ⟨by decide +kernel, by decide +kernel⟩, by decide⟩
theorem sls_sm (h : n ≤ 3) {d : Ld.Dt Str} {e l : Int} (he : -4 ≤ e) (hl : l ≤ 6) (hd : d ∈ Ld.allD e l (sls n)) : SmD d := by
  obtain ⟨h1, h2⟩ := (Ld.mem_allD _ _ _ rfl).mp hd
  refine ⟨?_, fun p hp => ?_, fun p hp => ?_⟩
  · have := congrArg List.length h1
    rw [List.length_map, sls_len h] at this
    omega
  · have hm : p.1 ∈ sls n := by rw [← h1]; exact List.mem_map.mpr ⟨p, hp, rfl⟩
    have hz : p.1 ∈ lb0 := List.mem_of_mem_take ((mem_sls h).mp hm)
    generalize p.1 = z at hz
    unfold lb0 at hz
    simp only [List.mem_cons, List.not_mem_nil, or_false] at hz
    rcases hz with rfl | rfl | rfl <;> exact ⟨by decide +kernel, by decide +kernel⟩
  · have := h2 p hp
    omega
theorem sls_pow (h : n ≤ 3) {e l : Int} (he : -4 ≤ e) (hl : l ≤ 6) : ∀ k, k ≤ (sls n).length → (l + 1 - e).toNat ^ k ≤ 4096 := fun k hk => by
  rw [sls_len h] at hk
  have h1 : (l + 1 - e).toNat ≤ 11 := by omega
  refine Nat.le_trans (Nat.pow_le_pow_left h1 k) ?_
  rcases four (show k ≤ 3 by omega) with rfl | rfl | rfl | rfl <;> decide
end
theorem keeps_mem {cs cs' : List Cl} (h : ∀ c, c ∈ cs ↔ c ∈ cs') (d : Ld.Dt Str) : Ld.keeps cs d = Ld.keeps cs' d := by
  rw [Bool.eq_iff_iff, Ld.keeps_iff, Ld.keeps_iff]
  exact ⟨fun a c hc => a c ((h c).mpr hc), fun a c hc => a c ((h c).mp hc)⟩
theorem adAll_mem {cs cs' : List Cl} (h : ∀ c, c ∈ cs ↔ c ∈ cs') (e l : Int) (sl : List Str) : adAll e l sl cs = adAll e l sl cs' := by
  unfold adAll
  rw [show Ld.keeps cs = Ld.keeps cs' from funext (keeps_mem h)]
/-- a draft; t: so many links at most -/
structure Drf (n t : Nat) (cs : List Cl) : Prop where
  n3 : n ≤ 3
  len : cs.length ≤ 2 * n + t
  nd : cs.Nodup
  w : ∀ c ∈ cs, ClW (lbs n) c
  bd : ∀ m ∈ lbs n, (∃ k, k ≤ 6 ∧ (⟨m, day, k⟩ : Cl) ∈ cs) ∧ ∃ k, k ≤ 4 ∧ (⟨day, m, k⟩ : Cl) ∈ cs
  dt : adAll (-4) 6 (sls n) cs ≠ []
/-- the bounds of the first i labels are there -/
structure Pre (n i : Nat) (cs : List Cl) (f : Str → Int) : Prop where
  n3 : n ≤ 3
  b : ∀ m, -4 ≤ f m ∧ f m ≤ 2
  len : cs.length = 2 * i
  nd : cs.Nodup
  w : ∀ c ∈ cs, (c.one ∈ (lbs n).take i ∧ c.other = day ∧ f c.one ≤ c.num ∧ c.num ≤ f c.one + 4) ∨ (c.one = day ∧ c.other ∈ (lbs n).take i ∧ c.num = -f c.other)
  bd : ∀ m ∈ (lbs n).take i, (∃ k, k ≤ 6 ∧ (⟨m, day, k⟩ : Cl) ∈ cs) ∧ ∃ k, k ≤ 4 ∧ (⟨day, m, k⟩ : Cl) ∈ cs
theorem pre_zero {n : Nat} (h : n ≤ 3) : Pre n 0 [] (fun _ => 0) := ⟨h, fun _ => ⟨by omega, by omega⟩, rfl, List.nodup_nil, fun c hc => absurd hc List.not_mem_nil, fun m hm => by rw [List.take_zero] at hm; exact absurd hm List.not_mem_nil⟩
theorem lb_day {n : Nat} {m : Str} (h : m ∈ lbs n) : m ≠ day := by
  have hz : m ∈ lb0 := List.mem_of_mem_take h
  unfold lb0 at hz
  simp only [List.mem_cons, List.not_mem_nil, or_false] at hz
  rcases hz with rfl | rfl | rfl <;> decide +kernel
theorem Pre.next {n i : Nat} {cs : List Cl} {f : Str → Int} {m : Str} {low k : Int} (p : Pre n i cs f) (hm : (lbs n)[i]? = some m) (hl : -4 ≤ low ∧ low ≤ 2) (hk : low ≤ k ∧ k ≤ low + 4) :
    Pre n (i + 1) (cs ++ [⟨m, day, k⟩, ⟨day, m, -low⟩]) (fun x => if x = m then low else f x) := by
  have hni : m ∉ (lbs n).take i := nodup_take (lbs_nd p.n3) hm
  have hmm : m ∈ lbs n := List.mem_of_getElem? hm
  have hmd := lb_day hmm
  have ht : (lbs n).take (i + 1) = (lbs n).take i ++ [m] := by rw [List.take_add_one, hm]; rfl
  have nm : ∀ x ∈ (lbs n).take i, x ≠ m := fun x hx z => hni (z ▸ hx)
  refine ⟨p.n3, fun x => ?_, ?_, ?_, fun c hcz => ?_, fun x hx => ?_⟩
  · show -4 ≤ (if x = m then low else f x) ∧ (if x = m then low else f x) ≤ 2
    split
    · exact hl
    · exact p.b x
  · rw [List.length_append, p.len]
    show 2 * i + 2 = _
    omega
  · rw [List.nodup_append]
    refine ⟨p.nd, ?_, fun a ha b hbz z => ?_⟩
    · rw [List.nodup_cons]
      refine ⟨fun hz => ?_, by simp⟩
      have := List.mem_singleton.mp hz
      exact hmd (Ld.Cls.mk.inj this).1
    · subst z
      simp only [List.mem_cons, List.not_mem_nil, or_false] at hbz
      rcases p.w a ha with ⟨h1, h2, _⟩ | ⟨h1, h2, _⟩ <;> rcases hbz with rfl | rfl
      · exact nm _ h1 rfl
      · exact hmd h2
      · exact hmd h1
      · exact nm _ h2 rfl
  · rw [ht]
    rcases List.mem_append.mp hcz with hz | hz
    · rcases p.w c hz with ⟨h1, h2, h3, h4⟩ | ⟨h1, h2, h3⟩
      · exact .inl ⟨List.mem_append_left _ h1, h2, by rw [if_neg (nm _ h1)]; exact ⟨h3, h4⟩⟩
      · exact .inr ⟨h1, List.mem_append_left _ h2, by rw [if_neg (nm _ h2)]; exact h3⟩
    · simp only [List.mem_cons, List.not_mem_nil, or_false] at hz
      rcases hz with rfl | rfl
      · exact .inl ⟨by simp, rfl, by rw [if_pos rfl]; exact hk⟩
      · exact .inr ⟨rfl, by simp, by rw [if_pos rfl]⟩
  · rw [ht] at hx
    rcases List.mem_append.mp hx with hz | hz
    · obtain ⟨⟨k1, a1, b1⟩, k2, a2, b2⟩ := p.bd x hz
      exact ⟨⟨k1, a1, List.mem_append_left _ b1⟩, k2, a2, List.mem_append_left _ b2⟩
    · rw [(List.mem_singleton.mp hz)]
      exact ⟨⟨k, by omega, by simp⟩, -low, by omega, by simp⟩
theorem Pre.done {n : Nat} {cs : List Cl} {f : Str → Int} (p : Pre n n cs f) : Drf n 0 cs := by
  have ht : (lbs n).take n = lbs n := by
    have := lbs_len p.n3
    exact List.take_of_length_le (by omega)
  have w' : ∀ c ∈ cs, (c.one ∈ lbs n ∧ c.other = day ∧ f c.one ≤ c.num ∧ c.num ≤ f c.one + 4) ∨ (c.one = day ∧ c.other ∈ lbs n ∧ c.num = -f c.other) := fun c hc => by
    have := p.w c hc
    rw [ht] at this
    exact this
  have hn := p.n3
  have hs := sls_nd hn
  have hday : day ∉ sls n := fun h => (List.nodup_append.mp hs).2.2 _ h _ (List.mem_singleton.mpr rfl) rfl
  refine ⟨hn, by rw [p.len]; omega, p.nd, fun c hc => ?_, fun m hm => p.bd m (by rw [ht]; exact hm), fun h => ?_⟩
  · rcases w' c hc with ⟨h1, h2, _⟩ | ⟨h1, h2, _⟩
    · exact ⟨List.mem_append_left _ h1, by rw [h2]; exact List.mem_append_right _ (List.mem_singleton.mpr rfl), by rw [h2]; exact lb_day h1⟩
    · exact ⟨by rw [h1]; exact List.mem_append_right _ (List.mem_singleton.mpr rfl), List.mem_append_left _ h2, by rw [h1]; exact (lb_day h2).symm⟩
  · have hd : Ld.datesOf (fun m => if m = day then 0 else f m) day (sls n) ∈ adAll (-4) 6 (sls n) cs := by
      refine List.mem_filter.mpr ⟨(Ld.mem_allD _ _ _ rfl).mpr ⟨Ld.datesOf_keys _ _ _, fun x hx => ?_⟩, Ld.keeps_iff.mpr fun c hc => ?_⟩
      · obtain ⟨m, hm, rfl⟩ := List.mem_map.mp hx
        have := p.b m
        have hmd : m ≠ day := fun z => hday (z ▸ hm)
        show -4 ≤ (if m = day then 0 else f m) - (if day = day then 0 else f day) ∧ _
        rw [if_neg hmd, if_pos rfl]
        show -4 ≤ f m - 0 ∧ (if m = day then 0 else f m) - (if day = day then 0 else f day) ≤ 6
        rw [if_neg hmd, if_pos rfl]
        omega
      · have hv : ∀ m, m ∈ lbs n → Ld.dv (Ld.datesOf (fun m => if m = day then 0 else f m) day (sls n)) m = f m := fun m hm => by
          rw [Ld.dv_datesOf _ _ _ _ ((mem_sls hn).mpr hm), if_neg (lb_day hm), if_pos rfl]
          omega
        have h0 : Ld.dv (Ld.datesOf (fun m => if m = day then 0 else f m) day (sls n)) day = 0 := Ld.dv_out _ _ (by rw [Ld.datesOf_keys]; exact hday)
        rcases w' c hc with ⟨h1, h2, h3, h4⟩ | ⟨h1, h2, h3⟩
        · rw [h2, h0, hv _ h1]
          omega
        · rw [h1, h0, hv _ h2, h3]
          omega
    rw [h] at hd
    exact absurd hd List.not_mem_nil
theorem Drf.mono {n t u : Nat} {cs : List Cl} (d : Drf n t cs) (h : t ≤ u) : Drf n u cs := ⟨d.n3, by have := d.len; omega, d.nd, d.w, d.bd, d.dt⟩
/-- with one link more -/
theorem Drf.add {n t i : Nat} {cs : List Cl} {c : Cl} (d : Drf n t cs) (h1 : c.one ∈ lbs n) (h2 : c.other ∈ lbs n) (h3 : c.one ≠ c.other) (h4 : c ∉ cs) (h5 : adAll (-4) 6 (sls n) (cs ++ [c]) ≠ []) : Drf n (t + 1) (cs.take i ++ c :: cs.drop i) := by
  have hp : (cs.take i ++ c :: cs.drop i).Perm (c :: cs) := by
    refine List.perm_middle.trans ?_
    rw [List.take_append_drop]
  have hm : ∀ x, x ∈ cs.take i ++ c :: cs.drop i ↔ x ∈ cs ++ [c] := fun x => by
    rw [hp.mem_iff, List.mem_append, List.mem_cons, List.mem_singleton]
    exact or_comm
  refine ⟨d.n3, ?_, ?_, fun x hx => ?_, fun m hm2 => ?_, ?_⟩
  · rw [hp.length_eq, List.length_cons]
    have := d.len
    omega
  · rw [hp.nodup_iff, List.nodup_cons]
    exact ⟨h4, d.nd⟩
  · rcases List.mem_append.mp ((hm x).mp hx) with h | h
    · exact d.w x h
    · rw [List.mem_singleton.mp h]
      exact ⟨List.mem_append_left _ h1, List.mem_append_left _ h2, h3⟩
  · obtain ⟨⟨k1, a1, b1⟩, k2, a2, b2⟩ := d.bd m hm2
    exact ⟨⟨k1, a1, (hm _).mpr (List.mem_append_left _ b1)⟩, k2, a2, (hm _).mpr (List.mem_append_left _ b2)⟩
  · rw [adAll_mem hm]
    exact h5
end LdP
/-! # LdP7 -/
/-! _law_draft: parts. -/
namespace LdP
open PySem PySem.Spec PyProof.Rows L2 Evl LiI
section
variable {K : PySem.W.Frag} {σ : L2.St} {H H1 : Hp} {ta te tb tp tl : TE} {tr : TA} {D : Ends} {tu tz : TS}
theorem ear_consR {R : List V → Hp → Prop} {R0 : V → Hp → Prop} (h : EvR te σ H R0) (hr : ∀ v H1, Ex H H1 → R0 v H1 → EvAR tr σ H1 (fun vs H2 => R (v :: vs) H2)) : EvAR (tCons te tr) σ H R := fun H1 e Q q =>
  h H1 e _ fun v H2 e2 r => hr v H2 (e.trans e2) r H2 (Ex.refl _) _ fun vs H3 e3 r3 => q _ H3 (e2.trans e3) r3
theorem evR_pick {E : XK} {p l : Addr} {xs : List V} (h : Ev tp σ H (.ref p)) (hp : H p = some (potO p)) (hl : Ev tl σ H (.ref l)) (hx : H l = some (.lst xs)) (h0 : 0 < xs.length ∧ xs.length < 1000) : EvR (tCall spLpick [] E (tCons tp (tCons tl tNil))) σ H (fun v _ => v ∈ xs) := fun H1 e Q q =>
  (ea_cons h (ea_cons hl ea_nil)) H1 e _ fun H2 e2 => ⟨p, l, xs, rfl, e2 _ _ (e _ _ hp), e2 _ _ (e _ _ hx), h0.1, h0.2, fun v H' hv ex => q v H' (e2.trans ex) hv⟩
/-- xs != [], xs new -/
theorem ev_neE {b : Bool} (h : EvN ta σ H (fun p H2 => ∃ xs : List V, H2 p = some (.lst xs) ∧ xs.isEmpty = b)) (h2 : ∀ H1, Ex H H1 → EvL tb σ H1 []) : Ev (tOp rNeE ta tb) σ H (.bl (!b)) := fun H1 e Q q =>
  h H1 e _ fun p H2 hp e2 ⟨xs, hx, hb⟩ => h2 H2 (e.trans e2) H2 (Ex.refl _) _ fun p2 H3 hp2 e3 hx2 => ⟨p, p2, xs, rfl, rfl, e3 _ _ hx, hx2, by rw [hb]; exact q H3 (e2.trans e3)⟩
/-- xs != [], xs standing -/
theorem ev_neE1 {a : Addr} {xs : List V} (h : Ev ta σ H (.ref a)) (hx : H a = some (.lst xs)) (h2 : ∀ H1, Ex H H1 → EvL tb σ H1 []) : Ev (tOp rNeE ta tb) σ H (.bl (!xs.isEmpty)) := fun H1 e Q q =>
  h H1 e _ fun H2 e2 => h2 H2 (e.trans e2) H2 (Ex.refl _) _ fun p2 H3 hp2 e3 hx2 => ⟨a, p2, xs, rfl, rfl, ((e.trans e2).trans e3) _ _ hx, hx2, q H3 (e2.trans e3)⟩
/-- range(n), n told by a property -/
theorem q_forR1R {ta : TA} {j : Nat} {R : Nat → Prop} (h : EvAR ta σ H (fun vs _ => ∃ m : Nat, vs = [.int m] ∧ m ≤ 1000 ∧ R m)) (Pv : Nat → L2.St → Hp → Prop) (h0 : ∀ H1, Ex H H1 → Pv 0 σ H1)
    (hs : ∀ (m i : Nat) σ' H', R m → i < m → Pv i σ' H' → tu { D with nx := Pv (i + 1), ct := Pv (i + 1), bk := tz D } (σ'.set j (some (.int (i : Nat)))) H') (hd : ∀ (m : Nat) σ' H', R m → Pv m σ' H' → tz D σ' H') : tSeq (tFor (iRng1 ta) (gName j) tu) tz D σ H :=
  h H (Ex.refl H) _ fun vs H1 e ⟨m, ev, hm, hR⟩ => ⟨m, ev, by omega, by omega, for_range (lo := 0) (n := m) (D := { D with nx := tz D }) Pv (h0 H1 e) (fun i σ' H' hi p => by
    have e0z : (0 : Int) + (i : Int) = (i : Int) := Int.zero_add _
    show tu { D with nx := Pv (i + 1), ct := Pv (i + 1), bk := tz D } (σ'.set j (some (.int ((0 : Int) + (i : Int))))) H'
    rw [e0z]
    exact hs m i σ' H' hR hi p) (hd m · · hR)⟩
theorem paired_drop {α β : Type} {F : α → β → Prop} : ∀ (n : Nat) {xs : List α} {ys : List β}, Paired F xs ys → Paired F (xs.drop n) (ys.drop n)
  | 0, _, _, h => h
  | _ + 1, _, _, .nil => .nil
  | n + 1, _, _, .cons h t => paired_drop n t
theorem clO_nl (c : Cl) (xs : List V) : clO c ≠ .lst xs := nofun
/-- xs.extend(ys), ys a new list of objects other than lists -/
theorem s_extG {β : Type} {ob : β → HO} (hob : ∀ b xs, ob b ≠ .lst xs) {l : Addr} {bs : List β} {Rb : List β → Prop} (hD : H1 l = none) (a : AtO ob H1 l bs H) (ha : Ev ta σ H (.ref l)) (h : EvN te σ H (fun p H2 => ∃ bs2, Rb bs2 ∧ ListO ob H2 p bs2)) (hz : ∀ bs2, Rb bs2 → bs.length + bs2.length ≤ 100000) (k : ∀ bs2 H2, Rb bs2 → AtO ob H1 l (bs ++ bs2) H2 → D.nx σ H2) :
    tDrop (tBM K "list" rExtend ta (tCons te tNil)) D σ H := ha H (Ex.refl H) _ fun H2 e2 => by
  obtain ⟨as, h1, h2, h3⟩ := a.d
  refine ⟨Or.inl ⟨rfl, _, sq_of (e2 _ _ h1)⟩, h H2 e2 _ fun p H3 hp e3 ⟨bs2, hR, as2, hp2, hA2⟩ => ?_⟩
  have hl := e3 _ _ (e2 _ _ h1)
  have n2 : ∀ {x : List Addr} {y : List β}, AllO ob H3 x y → ∀ b ∈ x, b ≠ l := fun {x y} hA => by
    induction hA with
    | nil => intro b hbz; exact absurd hbz List.not_mem_nil
    | cons r t ih =>
      intro b hbz z
      rcases List.mem_cons.mp hbz with rfl | hbz
      · rw [z, hl] at r
        exact hob _ _ (Option.some.inj r).symm
      · exact ih b hbz z
  have hne : ∀ b ∈ as ++ as2, b ≠ l := fun b hbz => by
    rcases List.mem_append.mp hbz with hbz | hbz
    · exact h3 b hbz
    · exact n2 hA2 b hbz
  exact ⟨l, p, _, _, rfl, rfl, hl, hp2, sz_of (by rw [List.length_map, List.length_map, paired_len h2, paired_len hA2]; exact hz _ hR), k bs2 _ hR ⟨((a.s.trans e2).trans e3).mut hD, as ++ as2, by rw [upd_same, List.map_append], AllO.upd (paired_app ((h2.ex e2).ex e3) hA2) hne, hne⟩⟩
/-- a list's method, as a statement -/
theorem s_bmL {r : V → List V → Hp → VK → Prop} {R : List V → Hp → Prop} {l : Addr} {xs : List V} (hl : H l = some (.lst xs)) (ha : Ev ta σ H (.ref l)) (h : EvAR tr σ H R) (k : ∀ vs H2, Ex H H2 → R vs H2 → r (.ref l) vs H2 fun _ H3 => D.nx σ H3) : tDrop (tBM K "list" r ta tr) D σ H :=
  ha H (Ex.refl H) _ fun H1 e1 => ⟨Or.inl ⟨rfl, xs, sq_of (e1 l _ hl)⟩, h H1 e1 _ fun vs H2 e2 hv => k vs H2 (e1.trans e2) hv⟩
/-- one more, at i -/
theorem atO_ins {β : Type} {ob : β → HO} {l t : Addr} {bs : List β} {b : β} {as : List Addr} {H4 : Hp} (i : Nat) (hD : H1 l = none) (e : Ex H1 H4) (h1 : H4 l = some (.lst (as.map V.ref))) (h2 : AllO ob H4 as bs) (h3 : ∀ a ∈ as, a ≠ l) (ht : H4 t = some (ob b)) (htl : t ≠ l) :
    AtO ob H1 l (bs.take i ++ b :: bs.drop i) (upd H4 l (.lst ((as.map V.ref).take i ++ [.ref t] ++ (as.map V.ref).drop i))) := by
  have hne : ∀ b ∈ as.take i ++ t :: as.drop i, b ≠ l := fun b hbz => by
    rcases List.mem_append.mp hbz with hbz | hbz
    · exact h3 b (List.mem_of_mem_take hbz)
    · rcases List.mem_cons.mp hbz with rfl | hbz
      · exact htl
      · exact h3 b (List.mem_of_mem_drop hbz)
  refine ⟨e.mut hD, as.take i ++ t :: as.drop i, ?_, AllO.upd (paired_app (paired_take i h2) (.cons ht (paired_drop i h2))) hne, hne⟩
  rw [upd_same, List.map_append, List.map_cons, List.map_take, List.map_drop, List.append_assoc]
  rfl
/-- ["show", "b", "a"][:d] -/
theorem en_labels {E : XK} {p : Addr} (h : ∀ H1, Ex H H1 → Ev tp σ H1 (.ref p)) (hp : H p = some (potO p)) : EvN (tSl (rSlL K) (tLst (tCons (tC (.str "show")) (tCons (tC (.str "b")) (tCons (tC (.str "a")) tNil)))) tNoPart (tPart (tCall spLdraw [] E (tCons tp (tCons (tC (.int 4)) tNil))))) σ H (fun q H2 => ∃ n : Nat, n ≤ 3 ∧ H2 q = some (.lst ((lbs n).map V.str))) := fun H1 e Q q =>
  (el_lst (ea_cons ev_c (ea_cons ev_c (ea_cons ev_c ea_nil))) (by show 3 ≤ 100000; decide)) H1 e _ fun a H2 ha e2 h2 => evR_draw (n := 4) (h H2 (e.trans e2)) ((e.trans e2) _ _ hp) ev_c ⟨by decide, by decide⟩ H2 (Ex.refl _) _ fun v H3 e3 ⟨d, ev, d0, d1⟩ => ⟨d, ev, a, _, rfl, sq_of (e3 _ _ h2), fun c hc => by
    obtain ⟨n, rfl⟩ : ∃ n : Nat, d = n := ⟨d.toNat, by omega⟩
    have hn : n ≤ 3 := by omega
    refine q c _ (fresh_back (e2.trans e3) hc) ((e2.trans e3).trans (Ex.new hc)) ⟨n, hn, ?_⟩
    rw [upd_same, cutV_take _ (show n ≤ 3 from hn)]
    unfold lbs
    rw [List.map_take]
    rfl⟩
end
end LdP
/-! # LdP8 -/
/-! _law_draft. -/
namespace LdP
open PySem PySem.Spec PyProof.Rows L2 Evl LiI
abbrev rIns : V → List V → Hp → VK → Prop := fun x vs H Q => ∃ (l : Addr) (xs : List V) (i : Int) (y : V), x = .ref l ∧ vs = [.int i, y] ∧ H l = some (.lst xs) ∧ xs.length < sizeLine ∧ 0 ≤ i ∧ i < 2 ^ 63 ∧ Q .non (upd H l (.lst (xs.take i.toNat ++ [y] ++ xs.drop i.toNat)))
section
variable {base : Heap} {mg : Str → Option Value} {K : PySem.W.Frag} {w : World} {P : Program}
def spLdraft : Sp := fun vs H Q _ => ∃ p : Addr, vs = [.ref p] ∧ H p = some (potO p) ∧ ∀ (T la ca : Addr) (n : Nat) (cs : List Cl) (H' : Hp), H T = none → Ex H H' → H' T = some (.tup [.ref la, .ref ca]) → H' la = some (.lst ((lbs n).map V.str)) → ClsAt H' ca cs → Drf n 4 cs → Q (.ref T) H'
theorem cl_link {f g : Str} {n : Nat} (h3 : n ≤ 3) (hf : f ∈ lbs n) (hg : g ∈ lbs n) (k : Int) : ClS ⟨f, g, k⟩ := ⟨(lbs_slw h3 f hf).2.2, (lbs_slw h3 g hg).2.2⟩
theorem drf_cls {n t : Nat} {cs : List Cl} (d : Drf n t cs) : ∀ c ∈ cs, ClS c := fun c hc => by
  have s : ∀ z ∈ lbs n ++ [day], PyData.strOk z = true := fun z hz => by
    rcases List.mem_append.mp hz with h | h
    · exact (lbs_slw d.n3 z h).2.2
    · rw [List.mem_singleton.mp h]; decide +kernel
  obtain ⟨h1, h2, _⟩ := d.w c hc
  exact ⟨s _ h1, s _ h2⟩
theorem ok_Ldraft (t : Tx K mg) : Ok P w K mg base 3 (He.ga K "_law_draft") p_Ldraft spLdraft := by
  obtain ⟨fd, F⟩ := t.def_Ldraft
  have G1 : Ok P w K mg base 2 _ _ _ := (ok_Ldraw (P := P) (w := w) (base := base) t).mono (by decide)
  have G2 := ok_Lpick (P := P) (w := w) (base := base) t
  have G3 := ok_Lall (P := P) (w := w) (base := base) t
  refine ok_of F sc_Ldraft (fun _ _ _ _ _ _ us hl => match us, hl with | [_], _ => rfl) (fun vs H Q E h => ?_) (fun cdv A outer s H vs Q E hr h => ?_)
  · obtain ⟨p, rfl, _⟩ := h
    rfl
  · obtain ⟨p, rfl, hp, q⟩ := h
    have hu := hu_of hr
    refine ⟨_, pss_cons (ps_par (i := 1) (j := 2) rfl sc_Ldraft.nd rfl rfl (by decide) rfl rfl (pa_cons (pe_slice sl_list (pe_lst (pa_cons pe_str (pa_cons pe_str (pa_cons pe_str pa_nil)))) po_none (po_some (pe_fn G1 hr t.g_lawdraw (pa_cons (pv 0) (pa_cons pe_int pa_nil))))) (pa_cons (pe_lst pa_nil) pa_nil)) (by rfl))
      (pss_cons (ps_for PassesOwn.never rfl (pi_list (pv 1)) (pg_name (i := 3) sc_Ldraft.nd rfl (Or.inl rfl))
        (pss_cons (ps_set (i := 4) sc_Ldraft.nd rfl (Or.inl rfl) (pe_op op_sub (pe_fn G1 hr t.g_lawdraw (pa_cons (pv 0) (pa_cons pe_int pa_nil))) pe_int))
        (pss_one (ps_expr (pe_bm PySem.F.plainAttrs_list PySem.F.slot_list_extend PySem.F.type_list_extend mt_extend (pv 2) (pa_cons (pe_lst (pa_cons (pe_tup (pa_cons (pv 3) (pa_cons pe_str (pa_cons (pe_op op_add (pv 4) (pe_fn G1 hr t.g_lawdraw (pa_cons (pv 0) (pa_cons pe_int pa_nil)))) pa_nil))))
          (pa_cons (pe_tup (pa_cons pe_str (pa_cons (pv 3) (pa_cons (pe_op op_sub pe_int (pv 4)) pa_nil)))) pa_nil))) pa_nil))))))
      (pss_cons (ps_for PassesOwn.never rfl (pi_range1 (by rfl) t.f_range (pa_cons (pe_ifExp (pt_cmpR (op_neE (hu64 hr)) (pv 1) (pe_lst pa_nil) (nomark _)) (pe_fn G1 hr t.g_lawdraw (pa_cons (pv 0) (pa_cons pe_int pa_nil))) pe_int) pa_nil)) (pg_name (i := 5) sc_Ldraft.nd rfl (Or.inl rfl))
        (pss_cons (ps_par (i := 6) (j := 7) rfl sc_Ldraft.nd rfl rfl (by decide) rfl rfl (pa_cons (pe_fn G2 hr t.g_lawpick (pa_cons (pv 0) (pa_cons (pv 1) pa_nil))) (pa_cons (pe_fn G2 hr t.g_lawpick (pa_cons (pv 0) (pa_cons (pv 1) pa_nil))) pa_nil)) (by rfl))
        (pss_cons (ps_set (i := 8) sc_Ldraft.nd rfl (Or.inl rfl) (pe_tup (pa_cons (pv 6) (pa_cons (pv 7) (pa_cons (pe_op op_sub (pe_fn G1 hr t.g_lawdraw (pa_cons (pv 0) (pa_cons pe_int pa_nil))) pe_int) pa_nil)))))
        (pss_one (ps_if (PW.pt (pw_and (pt_cmpR op_ne (pv 6) (pv 7) (nomark _)) (pw_and (pt_cmpR (op_notInD (hu65 hr)) (pv 8) (pv 2) rfl) (pw_and1 (pt_cmpR (op_neE (hu64 hr))
            (pe_fn G3 hr t.g_lawall (pa_cons (pv 1) (pa_cons (pe_op op_cat (pv 2) (pe_lst (pa_cons (pv 8) pa_nil))) (pa_cons (pe_un un_neg pe_int) (pa_cons pe_int pa_nil))))) (pe_lst pa_nil) (nomark _))))))
          (pss_one (ps_expr (pe_bm PySem.F.plainAttrs_list PySem.F.slot_list_insert PySem.F.type_list_insert mt_insert (pv 2) (pa_cons (pe_fn G1 hr t.g_lawdraw (pa_cons (pv 0) (pa_cons (pe_op op_add (pe_callB call_len_seq (by rfl) t.f_len boot_len' (pa_cons (pv 2) pa_nil)) pe_int) pa_nil))) (pa_cons (pv 8) pa_nil))))) pss_nil)))))
      (pss_one (ps_ret (pe_tup (pa_cons (pv 1) (pa_cons (pv 2) pa_nil))))))), ?_⟩
    -- labels, clauses
    refine q_par (R := fun vs H2 => ∃ (la ca : Addr) (n : Nat) (H1 : Hp), vs = [.ref la, .ref ca] ∧ n ≤ 3 ∧ Ex H H1 ∧ H1 la = some (.lst ((lbs n).map V.str)) ∧ H1 ca = none ∧ AtO clO H1 ca [] H2)
      (fun H1 e1 Q1 q1 => en_labels (fun _ _ => ev_var rfl) hp H1 e1 _ fun la H2 hla e2 ⟨n, hn, h2⟩ => (el_lst ea_nil (Nat.zero_le _)) H2 (Ex.refl _) _ fun ca H3 hca e3 h3 => q1 _ H3 (e2.trans e3) ⟨la, ca, n, H2, rfl, hn, e1.trans e2, h2, hca, e3, [], h3, .nil, fun a ha => absurd ha List.not_mem_nil⟩) fun vs H2 e2 ⟨la, ca, n, H1, ev, hn, e1, hla, hca, aO0⟩ => ⟨_, _, ev, ?_⟩
    have hll := lbs_len hn
    -- the bounds
    refine q_forL (xs := (lbs n).map V.str) (ev_var rfl) (sq_of (aO0.s _ _ hla)) (fun i σ' H' => ∃ (cs : List Cl) (f : Str → Int) (x3 x4 : Option V), σ' = [some (.ref p), some (.ref la), some (.ref ca), x3, x4, none, none, none, none] ∧ AtO clO H1 ca cs H' ∧ Pre n i cs f)
      (fun H3 e3 => ⟨[], fun _ => 0, none, none, rfl, aO0.ex e3, pre_zero hn⟩) (fun i σ' H' _ h => by obtain ⟨cs, f, x3, x4, _, aO, _⟩ := h; exact sq_of (aO.s _ _ hla)) ?_ ?_
    · rintro i x σ' H' hi ⟨cs, f, x3, x4, rfl, aO, pre⟩
      obtain ⟨m, hm, rfl⟩ : ∃ z, (lbs n)[i]? = some z ∧ x = .str z := by
        rw [List.getElem?_map] at hi
        cases h : (lbs n)[i]? with
        | none => rw [h] at hi; cases hi
        | some z => rw [h] at hi; exact ⟨z, rfl, (Option.some.inj hi).symm⟩
      have hil : i < n := by
        have := (List.getElem?_eq_some_iff.mp hm).1
        omega
      have hp1 := (e1.trans aO.s) _ _ hp
      refine q_asgR (R := Btw (0 - 4) (7 - 4)) (evR_subI (evR_draw (n := 7) (ev_var rfl) hp1 ev_c ⟨by decide, by decide⟩) fun _ _ => ev_c) fun v H3 e3 ⟨low, ev, l0, l1⟩ => ?_
      subst ev
      have hl := pre.len
      have x3' := aO.ex e3
      have hp3 := (e1.trans x3'.s) _ _ hp
      refine s_extG clO_nl (Rb := fun b => ∃ k, low ≤ k ∧ k ≤ low + 4 ∧ b = [⟨m, day, k⟩, ⟨day, m, -low⟩]) hca x3' (ev_var rfl) ((en_lst (R := fun vs H4 => ∃ (t1 t2 : Addr) (k : Int), low ≤ k ∧ k ≤ low + 4 ∧ vs = [.ref t1, .ref t2] ∧ H4 t1 = some (clO ⟨m, day, k⟩) ∧ H4 t2 = some (clO ⟨day, m, -low⟩))
        (ear_consN (en_tup (R := fun vs _ => ∃ k : Int, low ≤ k ∧ k ≤ low + 4 ∧ vs = [.str m, .str day, .int k]) (ear_cons (ev_var rfl) fun H4 e4 => ear_cons ev_c fun H5 e5 => ear_consR (evR_addI (lo := 0) (hi := 5) (ev_var rfl) (evR_draw (n := 5) (ev_var rfl) ((e4.trans e5) _ _ hp3) ev_c ⟨by decide, by decide⟩)) fun v H6 e6 ⟨k, ev, k0, k1⟩ => ear_nil fun H7 e7 => ⟨k, by omega, by omega, by rw [ev]; rfl⟩)
            (fun vs H4 H5 e h => h) (fun vs H4 ⟨k, _, _, h⟩ => by rw [h]; show 3 ≤ 100000; decide)) fun t1 H4 e4 ⟨vs, h4, k, k0, k1, hv⟩ =>
          ear_consN (en_U (eu_tup (ea_cons ev_c (ea_cons (ev_var rfl) (ea_cons (ev_op ev_c (ev_var rfl) (rv_I0 (g := fun i j => .int (i - j)))) ea_nil))) (by show 3 ≤ 100000; decide))) fun t2 H5 e5 h5 => ear_nil fun H6 e6 => ⟨t1, t2, k, k0, k1, rfl, by rw [hv] at h4; exact (e5.trans e6) _ _ h4, by rw [show -low = 0 - low by omega]; exact e6 _ _ h5⟩)
        (fun vs H4 H5 e ⟨t1, t2, k, k0, k1, hv, h1, h2⟩ => ⟨t1, t2, k, k0, k1, hv, e _ _ h1, e _ _ h2⟩) (fun vs H4 ⟨t1, t2, k, _, _, hv, _⟩ => by rw [hv]; show 2 ≤ 100000; decide)).imp fun q4 H4 e4 ⟨vs, h4, t1, t2, k, k0, k1, hv, h1, h2⟩ => ⟨_, ⟨k, k0, k1, rfl⟩, [t1, t2], by rw [hv] at h4; exact h4, .cons h1 (.cons h2 .nil)⟩)
        (fun b ⟨k, _, _, hb⟩ => by rw [hb, hl]; show 2 * i + 2 ≤ 100000; omega) fun b H4 hb aO4 => by
          obtain ⟨k, k0, k1, rfl⟩ := hb
          exact ⟨_, _, _, _, rfl, aO4, pre.next hm ⟨by omega, by omega⟩ ⟨k0, k1⟩⟩
    · rintro σ' H' ⟨cs0, f, x3, x4, rfl, aO1, pre⟩
      rw [List.length_map, hll] at pre
      -- the links
      refine q_forR1R (R := fun m => m ≤ 4 ∧ (n = 0 → m = 0)) (ear_consR (R0 := fun v _ => ∃ m : Nat, v = .int m ∧ m ≤ 4 ∧ (n = 0 → m = 0)) (fun H2 e2 Q2 q2 => ev_neE1 (ev_var rfl) (aO1.s _ _ hla) (fun _ _ => el_lst ea_nil (Nat.zero_le _)) H2 e2 _ fun H3 e3 => ⟨_, rfl, ?_⟩) fun v H2 e2 ⟨m, ev, hm, h0⟩ => ear_nil fun H3 e3 => ⟨m, by rw [ev], by omega, hm, h0⟩)
        (fun i σ' H' => ∃ (cs : List Cl) (x3 x4 x5 x6 x7 x8 : Option V), σ' = [some (.ref p), some (.ref la), some (.ref ca), x3, x4, x5, x6, x7, x8] ∧ AtO clO H1 ca cs H' ∧ Drf n i cs) (fun H3 e3 => ⟨cs0, _, _, _, _, _, _, rfl, aO1.ex e3, pre.done⟩) ?_ ?_
      · cases hn0 : ((lbs n).map V.str).isEmpty with
        | true =>
          refine iteF (ev_c H3 (Ex.refl _) _ fun H4 e4 => q2 _ H4 (e3.trans e4) ⟨0, rfl, by omega, fun _ => rfl⟩)
        | false =>
          refine iteT (evR_draw (n := 5) (ev_var rfl) ((e1.trans aO1.s) _ _ hp) ev_c ⟨by decide, by decide⟩ H3 (e2.trans e3) _ fun v H4 e4 ⟨d, ev, d0, d1⟩ => q2 _ H4 (e3.trans e4) ⟨d.toNat, by rw [ev]; congr 1; omega, by omega, fun z => ?_⟩)
          subst z
          cases hn0
      · rintro m i σ' H' ⟨hm4, hm0⟩ him ⟨cs, x3, x4, x5, x6, x7, x8, rfl, aO, df⟩
        have hn0 : n ≠ 0 := fun z => by have := hm0 z; omega
        have hp1 := (e1.trans aO.s) _ _ hp
        have hla1 := aO.s _ _ hla
        have hlen : 0 < ((lbs n).map V.str).length ∧ ((lbs n).map V.str).length < 1000 := by rw [List.length_map, hll]; omega
        have isstr : ∀ v, v ∈ (lbs n).map V.str → ∃ f, f ∈ lbs n ∧ v = .str f := fun v hv => by
          obtain ⟨f, h1, h2⟩ := List.mem_map.mp hv
          exact ⟨f, h1, h2.symm⟩
        -- fore, aft
        refine q_par (R := fun vs _ => ∃ f g, f ∈ lbs n ∧ g ∈ lbs n ∧ vs = [.str f, .str g]) (ear_consR (evR_pick (ev_var rfl) hp1 (ev_var rfl) hla1 hlen) fun v H3 e3 hv => ear_consR (evR_pick (ev_var rfl) (e3 _ _ hp1) (ev_var rfl) (e3 _ _ hla1) hlen) fun v2 H4 e4 hv2 => ear_nil fun H5 e5 => by
          obtain ⟨f, h1, rfl⟩ := isstr v hv
          obtain ⟨g, h2, rfl⟩ := isstr v2 hv2
          exact ⟨f, g, h1, h2, rfl⟩) fun vs H3 e3 ⟨f, g, hf, hg, ev⟩ => ⟨_, _, ev, ?_⟩
        have aO3 := aO.ex e3
        -- link
        refine q_asgN (en_tup (R := fun vs _ => ∃ k : Int, vs = [.str f, .str g, .int k]) (ear_cons (ev_var rfl) fun H4 e4 => ear_cons (ev_var rfl) fun H5 e5 => ear_consR (evR_subI (lo := 0) (hi := 9) (evR_draw (n := 9) (ev_var rfl) ((e4.trans e5) _ _ (e3 _ _ hp1)) ev_c ⟨by decide, by decide⟩) fun _ _ => ev_c) fun v H6 e6 ⟨k, ev, _, _⟩ => ear_nil fun H7 e7 => ⟨k, by rw [ev]⟩)
          (fun vs H4 H5 e h => h) fun vs H4 ⟨k, h⟩ => by rw [h]; show 3 ≤ 100000; decide) fun lk H4 hlk e4 ⟨vs, h4, k, hv⟩ => ?_
        rw [hv] at h4
        have aO4 := aO3.ex e4
        have hlk4 : H4 lk = some (clO ⟨f, g, k⟩) := h4
        obtain ⟨ts, ht1, ht2, ht3⟩ := id aO4.d
        have x4 := e1.trans aO4.s
        have cws := drf_cls df
        have hc := cl_link hn hf hg k
        refine s_when (b := (!decide (V.str f = V.str g)) && ((!decide ((⟨f, g, k⟩ : Cl) ∈ cs)) && !(adAll (-4) 6 (sls n) (cs ++ [⟨f, g, k⟩])).isEmpty))
          (et_and (et_test (ev_op (ev_var rfl) (ev_var rfl) (rv_ne rfl))) fun hfg => et_and (et_test (ev_op (ev_var rfl) (ev_var rfl) (rv_ninC hlk4 ht1 ht2 hc cws))) fun hni => et_test (ev_neE ?_ (fun _ _ => el_lst ea_nil (Nat.zero_le _)))) (fun hb H5 e5 => ?_) (fun hb H5 e5 => ⟨_, _, _, _, _, _, _, rfl, aO4.ex e5, df.mono (by omega)⟩)
        · have hfg' : f ≠ g := fun z => by rw [z] at hfg; simp at hfg
          have mem' : ∀ x ∈ cs ++ [⟨f, g, k⟩], x.one ∈ sls n ++ [day] ∧ x.other ∈ sls n ++ [day] := fun x hx => by
            have lift : ∀ z, z ∈ lbs n ++ [day] → z ∈ sls n ++ [day] := fun z hz => by
              rcases List.mem_append.mp hz with h | h
              · exact List.mem_append_left _ ((mem_sls hn).mpr h)
              · exact List.mem_append_right _ h
            rcases List.mem_append.mp hx with h | h
            · obtain ⟨h1, h2, _⟩ := df.w x h
              exact ⟨lift _ h1, lift _ h2⟩
            · rw [List.mem_singleton.mp h]
              exact ⟨lift _ (List.mem_append_left _ hf), lift _ (List.mem_append_left _ hg)⟩
          refine (en_call (R := fun vs H5 => ∃ c' : Addr, vs = [.ref la, .ref c', .int (-4), .int 6] ∧ ClsAt H5 c' (cs ++ [⟨f, g, k⟩])) (R' := fun p H5 => ListO obD H5 p (adAll (-4) 6 (sls n) (cs ++ [⟨f, g, k⟩]))) (ear_cons (ev_var rfl) fun H5 e5 => ear_consN (en_cat1 (R := fun ys _ => ys = [.ref lk]) (ev_var rfl) (e5 _ _ ht1) (fun H6 e6 => en_lst (ear_cons (ev_var rfl) fun H7 e7 => ear_nil fun _ _ => rfl) (fun _ _ _ _ h => h) (fun vs H7 h => by rw [h]; show 1 ≤ 100000; decide)) (fun _ _ _ _ h => h) (fun ys H6 h => by
              rw [h, List.length_map, paired_len ht2]
              have := df.len
              show cs.length + 1 ≤ 100000
              omega)) fun c' H6 e6 ⟨ys, hc', hy⟩ => ear_cons (ev_un ev_c ru_neg) fun H7 e7 => ear_cons ev_c fun H8 e8 => ear_nil fun H9 e9 => ⟨c', rfl, ts ++ [lk], ?_, ?_⟩) fun vs H5 e5 ⟨c', hv', hcl⟩ Q5 q5 => ?_).imp fun p5 H5 e5 ⟨as, h5, hA⟩ => ⟨_, h5, ?_⟩
          · rw [hy] at hc'
            rw [List.map_append]
            exact ((e7.trans e8).trans e9) _ _ hc'
          · exact paired_app (ht2.ex ((((e5.trans e6).trans e7).trans e8).trans e9)) (.cons (((((e5.trans e6).trans e7).trans e8).trans e9) _ _ hlk4) .nil)
          · have := paired_len hA
            cases as with
            | nil =>
              cases hE : adAll (-4) 6 (sls n) (cs ++ [⟨f, g, k⟩]) with
              | nil => rfl
              | cons a b => rw [hE] at this; cases this
            | cons a b =>
              cases hE : adAll (-4) 6 (sls n) (cs ++ [⟨f, g, k⟩]) with
              | nil => rw [hE] at this; cases this
              | cons a b => rfl
          · subst hv'
            refine ⟨la, c', lbs n, sls n, cs ++ [⟨f, g, k⟩], -4, 6, rfl, ⟨e5 _ _ (aO4.s _ _ hla), hcl, by rw [hll]; omega, fun zs h1 h2 => Srt.unique ⟨h1, h2⟩ (lbs_srt hn), sls_nd hn, by rw [sls_len hn]; omega, ?_, mem', ⟨by decide, by decide, by decide⟩, sls_pow hn (by decide) (by decide)⟩, fun p6 H6 hp6 e6 h6 => q5 p6 H6 hp6 e6 h6⟩
            have := df.len
            rw [List.length_append]
            show cs.length + 1 ≤ 100
            omega
        · simp only [Bool.and_eq_true, Bool.not_eq_true', decide_eq_false_iff_not] at hb
          obtain ⟨b1, b2, b3⟩ := hb
          have hfg' : f ≠ g := fun z => b1 (by rw [z])
          have hdt : adAll (-4) 6 (sls n) (cs ++ [⟨f, g, k⟩]) ≠ [] := fun z => by rw [z] at b3; cases b3
          have aO5 := aO4.ex e5
          have hlc : ((ts.map V.ref).length : Nat) = cs.length := by rw [List.length_map, paired_len ht2]
          have dl := df.len
          -- clauses.insert
          have x6 := e5
          refine s_bmL (R := fun vs _ => ∃ i : Int, 0 ≤ i ∧ i ≤ cs.length ∧ vs = [.int i, .ref lk]) (x6 _ _ ht1) (ev_var rfl) (ear_consR (evR_draw (n := (cs.length : Int) + 1) (ev_var rfl) ((x4.trans x6) _ _ hp) (ev_is (ev_op (ev_len (ev_var rfl) (sq_of (x6 _ _ ht1))) ev_c (rv_I0 (g := fun i j => .int (i + j)))) (by rw [hlc])) ⟨by omega, by omega⟩) fun v H7 e7 ⟨d, ev, d0, d1⟩ => ear_cons (ev_var rfl) fun H8 e8 => ear_nil fun H9 e9 => ⟨d, d0, by omega, by rw [ev]⟩) fun vs H9 e9 ⟨i9, i0, i1, ev9⟩ => ?_
          have x9 := x6.trans e9
          refine ⟨ca, _, i9, .ref lk, rfl, ev9, x9 _ _ ht1, by rw [hlc]; exact sz_lt (by omega), i0, by omega, ⟨_, _, _, _, _, _, _, rfl, atO_ins i9.toNat hca (aO4.s.trans x9) (x9 _ _ ht1) (ht2.ex x9) ht3 (x9 _ _ hlk4) (fun z => ?_), df.add hf hg hfg' b2 hdt⟩⟩
          rw [z, ht1] at hlk4
          exact absurd (Option.some.inj hlk4).symm (clO_nl _ _)
      · rintro m σ' H' ⟨hm4, hm0⟩ ⟨cs, x3, x4, x5, x6, x7, x8, rfl, aO, df⟩
        obtain ⟨ts, h1, h2, _⟩ := aO.d
        refine s_retU (eu_tup (ea_cons (ev_var rfl) (ea_cons (ev_var rfl) ea_nil)) (by show 2 ≤ 100000; decide)) fun T H3 hT e3 h3 => q T la ca n cs H3 ?_ ((e1.trans aO.s).trans e3) h3 ((aO.s.trans e3) _ _ hla) ⟨ts, e3 _ _ h1, h2.ex e3⟩ (df.mono hm4)
        exact fresh_back (e1.trans aO.s) hT
end
end LdP
/-! # LdQ2 -/
/-! Statements within a walk over generators: methods, dict.clear. -/
namespace LdP
open PySem PySem.Spec PyProof.Rows L2 Evl
def MtG (X : Cx) (G : Array GenState) (id : String) (r : V → List V → Hp → VK → Prop) : Prop :=
  ∀ (pins : List (Addr × Obj)) (s : Shared) (σ : L2.St) (H : Hp) (x : V) (xs : List V) (v : Value) (us : List Value) (Q : VK), Inv X pins σ H s → s.gens = G → RelV x v → Vals xs us → r x xs H Q → Kp X G (call (.builtin id) (v :: us)) s
section
variable {X : Cx} {G : Array GenState} {o e : Expr} {es : List Expr} {te to : TE} {t : TA} {name : Str} {pos apos cpos : Pos} {T id : String} {r : V → List V → Hp → VK → Prop}
theorem gs_expr (he : GE X G e te) (hs : swapsWith e none pos.line X.env = pure false := by rfl) : GSt X G (.Expr e pos) (tDrop te) :=
  ⟨ps_expr he.p hs, fun pins s σ H D I g h => wpAny_Expr_any (he.go (Q := fun _ H2 => D.nx σ H2) I g h fun u s1 x H1 I1 g1 r1 q1 => g1) I.quiet hs⟩
theorem g_bm0 (pa : PlainAttrs T) (slot : Slot T name id) (hty : typeOf (.builtin id) = pure (.type "method_descriptor")) (hm : MtR X id r) (hg : MtG X G id r) (ho : GE X G o to)
    (hbase : attributeBase o name X.env (eval o X.env) = eval o X.env := by rfl) (hline : (apos.endLine == cpos.line) = true := by rfl) : GE X G (.Call (.Attribute o name apos) [] [] cpos) (tBM0 X.K T r to) := by
  refine ⟨pe_bm0 pa slot hty hm ho.p hbase hline, fun pins s σ H Q I g h => wpAny_Call_method0_late hbase hline (ho.go I g h fun v s1 x H1 I1 g1 r1 q1 => ?_)⟩
  obtain ⟨h1, h2⟩ := tyV_is I1 r1 q1.1
  exact ⟨T, id, pa, slot, hty, h1, h2, Calls.callWith_builtin rfl (PySem.evalArgs_none (hg pins s1 σ H1 x [] v [] Q I1 g1 r1 .nil q1.2))⟩
theorem g_bm (pa : PlainAttrs T) (slot : Slot T name id) (hty : typeOf (.builtin id) = pure (.type "method_descriptor")) (hm : MtR X id r) (hg : MtG X G id r) (ho : GE X G o to) (ha : GA X G (e :: es) t)
    (hbase : attributeBase o name X.env (eval o X.env) = eval o X.env := by rfl) (hfew : ((backTo cpos (starEach (e :: es) X.env)).all (fun x => !x.1) && (backToKw cpos (keywordEach [] X.env)).all (fun x => x.1.isSome) && decide ((e :: es).length + ([] : List Keyword).length + (if ([] : List Keyword).isEmpty then 0 else 1) < 30)) = true := by rfl) (hline : (apos.endLine == cpos.line) = true := by rfl) (hs : starEach (e :: es) X.env = (false, eval e X.env) :: starEach es X.env := by rfl) (hplain : (backTo cpos (starEach es X.env)).any (·.1) = false := by rfl) :
    GE X G (.Call (.Attribute o name apos) (e :: es) [] cpos) (tBM X.K T r to t) := by
  refine ⟨pe_bm pa slot hty hm ho.p ha.p hbase hfew hline hs hplain, fun pins s σ H Q I g h => wpAny_Call_method_late hbase hfew hline rfl (ho.go I g h fun v s1 x H1 I1 g1 r1 q1 => ?_)⟩
  obtain ⟨h1z, h2z⟩ := tyV_is I1 r1 q1.1
  refine ⟨T, id, pa, slot, hty, h1z, h2z, ?_⟩
  have key : wpAny (model X.prog X.w) X.A (spliced (backTo cpos (starEach (e :: es) X.env))) (fun us s2 => Kp X G (call (.builtin id) (v :: us)) s2) TT0 s1 := ha.go I1 g1 q1.2 fun us s2 vs H2 I2 g2 r2 q2 => hg pins s2 σ H2 x vs v us Q I2 g2 r1 r2 q2
  rw [hs] at key ⊢
  exact Calls.callWith_builtin (by show (false || (backTo cpos (starEach es X.env)).any (·.1)) = false; rw [hplain]; rfl) (Calls.evalArgs_plain key)
theorem mg_append : MtG X G "list.append" rAppend := by
  intro pins s σ H x vs v us Q I g rx rv hzz
  obtain ⟨lz, xsz, yz, rfl, rfl, hHz, hzzz, qz⟩ := hzz
  cases rx
  obtain ⟨u, rfl, ru⟩ := rv.one
  exact wpAny_mono (app_g I g hHz hzzz ru) (fun _ _ z => z.1) fun _ _ z => z
theorem mg_clear : MtG X G "dict.clear" rDClear := by
  intro pins s σ H x vs v us Q I g rx rv h
  obtain ⟨a, kvs, rfl, rfl, e, q⟩ := h
  cases rx
  rw [rv.zero]
  obtain ⟨z, _, vs, rel, dd⟩ := dk_of I.hok e
  exact call_meetsIn PySem.F.slot_dict_clear dd.typeIs PySem.F.entry_dict_clear (PySem.F.args_dict_clear_1 _) (meets_dict_clear (mixKind X.prog X.w) a) ⟨vs, dd, by rw [← rel.length]; exact z, fun h' dd' hs => g⟩
end
end LdP
/-! # LdP9 -/
/-! _law_gone_through. -/
namespace LdP
open PySem PySem.Spec PyProof.Rows L2 Evl LiI
section
variable {base : Heap} {mg : Str → Option Value} {K : PySem.W.Frag} {w : World} {P : Program}
/-- the draft's tuple at T -/
def DrAt (H : Hp) (T : Addr) (n : Nat) (cs : List Cl) : Prop := ∃ la ca : Addr, H T = some (.tup [.ref la, .ref ca]) ∧ H la = some (.lst ((lbs n).map V.str)) ∧ ClsAt H ca cs
theorem DrAt.ex {H H' : Hp} {T : Addr} {n : Nat} {cs : List Cl} (e : Ex H H') (h : DrAt H T n cs) : DrAt H' T n cs := let ⟨la, ca, h1, h2, h3⟩ := h; ⟨la, ca, e _ _ h1, e _ _ h2, h3.ex e⟩
def spLgone (K : PySem.W.Frag) : Sp := fun vs H Q _ => ∃ (a T : Addr) (e l : Int) (n : Nat) (cs : List Cl), vs = [.ref a, .ref T, .int e, .int l] ∧ CalAt K H a (sls n) cs ∧ DrAt H T n cs ∧ Drf n 4 cs ∧ -4 ≤ e ∧ e ≤ l ∧ l ≤ 6 ∧ ∀ H', Ex H H' → Q (.bl true) H'
theorem sls_mem {n : Nat} (h : n ≤ 3) {z : Str} (hz : z ∈ lbs n ++ [day]) : z ∈ sls n ++ [day] := by
  rcases List.mem_append.mp hz with q | q
  · exact List.mem_append_left _ ((mem_sls h).mpr q)
  · exact List.mem_append_right _ q
theorem Drf.calW {n t : Nat} {cs : List Cl} (d : Drf n t cs) (ht : t ≤ 4) : CalW (sls n) cs := ⟨sls_nd d.n3, by rw [sls_len d.n3]; have := d.n3; omega, by have := d.len; have := d.n3; omega, fun x hx => by
  obtain ⟨h1, h2, _⟩ := d.w x hx
  exact ⟨sls_mem d.n3 h1, sls_mem d.n3 h2⟩⟩
/-- _law_all of a draft -/
theorem en_all {σ : L2.St} {H : Hp} {E : XK} {ta tb te tl : TE} {la ca : Addr} {n t : Nat} {cs : List Cl} {e l : Int} (d : Drf n t cs) (ht : t ≤ 4) (h1 : Ev ta σ H (.ref la)) (h2 : Ev tb σ H (.ref ca)) (h3 : Ev te σ H (.int e)) (h4 : Ev tl σ H (.int l)) (hl : H la = some (.lst ((lbs n).map V.str))) (hc : ClsAt H ca cs) (hb : -4 ≤ e ∧ e ≤ l ∧ l ≤ 6) :
    EvN (tCall spLall [] E (tCons ta (tCons tb (tCons te (tCons tl tNil))))) σ H (fun p H2 => ListO obD H2 p (adAll e l (sls n) cs)) :=
  en_call (ear_of (ea_cons h1 (ea_cons h2 (ea_cons h3 (ea_cons h4 ea_nil))))) fun vs H1 e1 r Q q => by
    subst r
    have w := d.calW ht
    refine ⟨la, ca, lbs n, sls n, cs, e, l, rfl, ⟨e1 _ _ hl, hc.ex e1, by rw [lbs_len d.n3]; have := d.n3; omega, fun zs h1 h2 => Srt.unique ⟨h1, h2⟩ (lbs_srt d.n3), w.nd, w.len, by have := w.c40; omega, w.mem, ⟨by omega, by omega, by omega⟩, sls_pow d.n3 hb.1 hb.2.2⟩, fun p H2 hp e2 h2 => q p H2 hp e2 h2⟩
theorem ad_sm {n : Nat} (h : n ≤ 3) {cs : List Cl} {e l : Int} (he : -4 ≤ e) (hl : l ≤ 6) : ∀ d ∈ adAll e l (sls n) cs, SmD d := fun d hd => sls_sm h he hl (List.mem_filter.mp hd).1
theorem ad_len {n : Nat} (h : n ≤ 3) {cs : List Cl} {e l : Int} (he : -4 ≤ e) (hl : l ≤ 6) : (adAll e l (sls n) cs).length ≤ 4096 := by
  refine Nat.le_trans (List.length_filter_le ..) ?_
  rw [Ld.allD_len e l (sls n).length (sls n) rfl]
  exact sls_pow h he hl _ (Nat.le_refl _)
/-- repr of a new list of dates -/
theorem ev_repL {σ : L2.St} {H : Hp} {te : TE} {ds : List (Ld.Dt Str)} (h : EvN te σ H (fun p H2 => ListO obD H2 p ds)) (hz : ds.length ≤ 4096) (hs : ∀ d ∈ ds, SmD d) : Ev (tCB rRep (tCons te tNil)) σ H (.str (dLs ds).shown) := fun H1 e Q q =>
  h H1 e _ fun p H2 hp e2 hl => ⟨p, rfl, .inr ⟨ds, hz, hs, hl, q H2 e2⟩⟩
theorem ev_repL1 {σ : L2.St} {H : Hp} {te : TE} {p : Addr} {ds : List (Ld.Dt Str)} (h : Ev te σ H (.ref p)) (hl : ListO obD H p ds) (hz : ds.length ≤ 4096) (hs : ∀ d ∈ ds, SmD d) : Ev (tCB rRep (tCons te tNil)) σ H (.str (dLs ds).shown) := fun H1 e Q q =>
  h H1 e _ fun H2 e2 => ⟨p, rfl, .inr ⟨ds, hz, hs, hl.ex (e.trans e2), q H2 e2⟩⟩
theorem ev_repD {σ : L2.St} {H : Hp} {te : TE} {p : Addr} {d : Ld.Dt Str} (h : Ev te σ H (.ref p)) (hl : H p = some (obD d)) (hs : SmD d) : Ev (tCB rRep (tCons te tNil)) σ H (.str (dD d).shown) := fun H1 e Q q =>
  h H1 e _ fun H2 e2 => ⟨p, rfl, .inl ⟨d, hs, (e.trans e2) _ _ hl, q H2 e2⟩⟩
theorem en_lAd {σ : L2.St} {H : Hp} {ta : TA} {a : Addr} {e l : Int} {sl : List Str} {cs : List Cl} (h : EvA ta σ H [.ref a, .int e, .int l]) (ag : ∀ H1, Ex H H1 → AdArg K H1 a e l sl cs) : EvN (tLAd K ta) σ H (fun p H2 => ListO obD H2 p (adAll e l sl cs)) := fun H1 x Q q =>
  h H1 x _ fun H2 x2 => ⟨a, e, l, sl, cs, rfl, ag H2 (x.trans x2), fun S H3 hS x3 hL => q S H3 (fresh_back x2 hS) (x2.trans x3) hL⟩
theorem en_lAdK {σ : L2.St} {H : Hp} {ta : TA} {a : Addr} {e l : Int} {sl : List Str} {cs : List Cl} (h : EvA ta σ H [.int l, .int e, .ref a]) (ag : ∀ H1, Ex H H1 → AdArg K H1 a e l sl cs) : EvN (tLAdK K ta) σ H (fun p H2 => ListO obD H2 p (adAll e l sl cs)) := fun H1 x Q q =>
  h H1 x _ fun H2 x2 => ⟨a, e, l, sl, cs, rfl, ag H2 (x.trans x2), fun S H3 hS x3 hL => q S H3 (fresh_back x2 hS) (x2.trans x3) hL⟩
/-- a calendar that stood before some lists were made -/
theorem calAt_flt2 {H H' : Hp} {a : Addr} {m : List Addr} {sl : List Str} {cs : List Cl} (h : CalAt K H a sl cs) (e : Ex H H') (hl : ∀ b ∈ m, H b = none) : CalAt K (flt (rm H' m)) a sl cs := by
  obtain ⟨dx, mo, c, h1, h2, ts, h3, h4⟩ := h
  have up : ∀ {b : Addr} {u : HO}, H b = some u → rm H' m b = some u := fun {b u} hb => by
    unfold rm
    rw [if_neg fun hm => by rw [hl b hm] at hb; cases hb]
    exact e _ _ hb
  have f1 : ∀ {b : Addr} {xs : List V}, H b = some (.lst xs) → flt (rm H' m) b = some (.lst xs) := fun {b xs} hb => by
    unfold flt
    rw [up hb]
  have f2 : ∀ {b : Addr} {xs : List V}, H b = some (.tup xs) → flt (rm H' m) b = some (.tup xs) := fun {b xs} hb => by
    unfold flt
    rw [up hb]
  refine ⟨dx, mo, c, ?_, f1 h2, ts, f1 h3, ?_⟩
  · unfold flt
    rw [up h1]
  · exact paired_imp (fun b k hb => f2 hb) h4
theorem same_b {x : Str} : (!decide (V.str x = V.str x)) = false := by
  rw [decide_eq_true rfl]
  rfl
theorem s_bm0 {T : String} {r : V → List V → Hp → VK → Prop} {ta : TE} {x : V} {D : Ends} {σ : L2.St} {H : Hp} (ha : Ev ta σ H x) (k : ∀ H1, Ex H H1 → tyV K T x H1 ∧ r x [] H1 fun _ H3 => D.nx σ H3) : tDrop (tBM0 K T r ta) D σ H := ha H (Ex.refl H) _ k
theorem q_forZ {ta tb : TA} {g : TG} {tu tz : TS} {D : Ends} {σ : L2.St} {H : Hp} (h : tForZ K ta tb g tu { D with nx := tz D } σ H) : tSeq (tForZ K ta tb g tu) tz D σ H := h
theorem ok_Lgone (t : Tx K mg) : OkQ P w K mg base 5 (He.ga K "_law_gone_through") p_Lgonethrough (spLgone K) := by
  obtain ⟨fd, F⟩ := t.def_Lgonethrough
  have G1 : Ok P w K mg base 4 _ _ _ := (ok_Lall (P := P) (w := w) (base := base) t).mono (by decide)
  refine okq_of F sc_Lgonethrough (fun _ _ _ _ _ _ us hl => match us, hl with | [_, _, _, _], _ => rfl) (fun vs H Q E h => ?_) (fun cdv A outer s H vs Q E hgd hr h => ?_)
  · obtain ⟨a, T, e, l, n, cs, rfl, _⟩ := h
    rfl
  · obtain ⟨a, T, e, l, n, cs, rfl, hc, ⟨la, ca, hT, hla, hca⟩, df, b1, b2, b3, q⟩ := h
    have hu : (A.deeper (envOfC d_Lgonethrough.qual d_Lgonethrough.scope s.heap.objs.size (He.ga K "_law_gone_through") cdv)).units + 10 < cLine := by have := hr.un; omega
    refine ⟨_, pss_cons (ps_set (i := 4) sc_Lgonethrough.nd rfl (Or.inl rfl) (pe_callB (call_rep hgd hu) (by rfl) t.f_repr boot_repr' (pa_cons (pe_fn G1 hr t.g_lawall (pa_cons (pe_ix ix_tup (pv 1) pe_int (fun _ _ => rfl)) (pa_cons (pe_ix ix_tup (pv 1) pe_int (fun _ _ => rfl)) (pa_cons (pv 2) (pa_cons (pv 3) pa_nil))))) pa_nil)))
      (pss_cons (ps_if (pt_cmpR op_ne (pe_callB (call_rep hgd hu) (by rfl) t.f_repr boot_repr' (pa_cons (pe_listAd t hr (fun G => ga_cons (gv 0) (ga_cons (gv 2) (ga_cons (gv 3) ga_nil)))) pa_nil)) (pv 4) (nomark _)) (pss_one (ps_ret pe_bl)) pss_nil)
      (pss_cons (ps_if (pt_cmpR op_ne (pe_callB (call_rep hgd hu) (by rfl) t.f_repr boot_repr' (pa_cons (pe_listAdK t hr (pk_cons (pv 3) (pk_cons (pv 2) (pk_cons (pv 0) pk_nil)))) pa_nil)) (pv 4) (nomark _)) (pss_one (ps_ret pe_bl)) pss_nil)
      (pss_cons (ps_set (i := 5) sc_Lgonethrough.nd rfl (Or.inl rfl) (pe_lst pa_nil))
      (pss_cons (ps_forZ t hr (fun G => ga_cons (gv 0) (ga_cons (gv 2) (ga_cons (gv 3) ga_nil))) (fun G => ga_cons (gv 0) (ga_cons (gv 2) (ga_cons (gv 3) ga_nil)))
          (fun G => gg_tup rfl (ggs_cons (gg_name (i := 6) sc_Lgonethrough.nd rfl (Or.inl rfl)) (ggs_cons (gg_name (i := 7) sc_Lgonethrough.nd rfl (Or.inl rfl)) ggs_nil)))
          (fun G => gss_cons' (gs_if (gt_cmpR op_ne og_ne (g_callB (call_rep hgd hu) (cg_rep hgd hu) (by rfl) t.f_repr boot_repr' (ga_cons (gv 6) ga_nil)) (g_callB (call_rep hgd hu) (cg_rep hgd hu) (by rfl) t.f_repr boot_repr' (ga_cons (gv 7) ga_nil)) (nomark _)) gss_nev gss_nil')
            (gss_cons' (gs_expr (g_bm PySem.F.plainAttrs_list PySem.F.slot_list_append PySem.F.type_list_append mt_append mg_append (gv 5) (ga_cons (g_callTy call_dictD cg_dictD (by rfl) t.f_dict boot_dict' (ga_cons (gv 6) ga_nil)) ga_nil)))
            (gss_one (gs_expr (g_bm0 PySem.F.plainAttrs_dict PySem.F.slot_dict_clear PySem.F.type_dict_clear mtd_clear mg_clear (gv 6)))))))
      (pss_one (ps_ret (pe_cmpR op_eq (pe_callB (call_rep hgd hu) (by rfl) t.f_repr boot_repr' (pa_cons (pv 5) pa_nil)) (pv 4) (nomark _)))))))), ?_⟩
    have hn := df.n3
    have w := df.calW (Nat.le_refl _)
    have pw := sls_pow hn b1 b3
    have al : (adAll e l (sls n) cs).length ≤ 4096 := ad_len hn b1 b3
    have as : ∀ d ∈ adAll e l (sls n) cs, SmD d := ad_sm hn b1 b3
    have ag : ∀ {H1 : Hp}, Ex H H1 → AdArg K H1 a e l (sls n) cs := fun {H1} x => ⟨hc.ex x, w, ⟨by omega, by omega, by omega⟩, pw⟩
    -- due
    refine q_asg (ev_repL (en_all df (Nat.le_refl _) (ev_op (ev_var rfl) ev_c (rv_ixT (st_of hT) rfl)) (ev_op (ev_var rfl) ev_c (rv_ixT (st_of hT) rfl)) (ev_var rfl) (ev_var rfl) hla hca ⟨b1, b2, b3⟩) al as) fun H1 e1 => ?_
    generalize hdue : (dLs (adAll e l (sls n) cs)).shown = due
    refine q_when (b := false) (et_is (et_test (ev_op (ev_repL (en_lAd (ea_cons (ev_var rfl) (ea_cons (ev_var rfl) (ea_cons (ev_var rfl) ea_nil))) fun H2 x2 => ag (e1.trans x2)) al as) (ev_var rfl) (rv_ne rfl))) (by rw [hdue]; exact same_b)) (fun z => nomatch z) (fun _ H2 e2 => ?_)
    refine q_when (b := false) (et_is (et_test (ev_op (ev_repL (en_lAdK (ea_cons (ev_var rfl) (ea_cons (ev_var rfl) (ea_cons (ev_var rfl) ea_nil))) fun H3 x3 => ag ((e1.trans e2).trans x3)) al as) (ev_var rfl) (rv_ne rfl))) (by rw [hdue]; exact same_b)) (fun z => nomatch z) (fun _ H3 e3 => ?_)
    have x3 := (e1.trans e2).trans e3
    -- told = []
    refine q_asgL (el_lst ea_nil (Nat.zero_le _)) fun told H4 htold e4 h4 => ?_
    have aO0 : AtO obD H3 told [] H4 := ⟨e4, [], h4, .nil, fun b hbz => absurd hbz List.not_mem_nil⟩
    have ka : ∀ {H5 : Hp} {x6 x7 : Option V}, EvA (tCons (tVar 0) (tCons (tVar 2) (tCons (tVar 3) tNil))) [some (.ref a), some (.ref T), some (.int e), some (.int l), some (.str due), some (.ref told), x6, x7] H5 [.ref a, .int e, .int l] := ea_cons (ev_var rfl) (ea_cons (ev_var rfl) (ea_cons (ev_var rfl) ea_nil))
    have cal3 := hc.ex x3
    have ht1 : ∀ b ∈ [told], H3 b = none := fun b hbz => by rw [List.mem_singleton.mp hbz]; exact htold
    refine q_forZ ?_
    unfold tForZ
    refine ka (x6 := none) (x7 := none) H4 (Ex.refl _) _ fun H5 e5 => ⟨a, e, l, sls n, cs, rfl, ka (x6 := none) (x7 := none) H5 (Ex.refl _) _ fun H6 e6 => ⟨rfl, e6, [told], w, ⟨by omega, by omega, by omega⟩, pw, calAt_flt2 cal3 (e4.trans e5) ht1, calAt_flt2 cal3 ((e4.trans e5).trans e6) ht1, fun b hbz => ⟨[], by rw [List.mem_singleton.mp hbz]; exact e5 _ _ h4⟩,
      fun done σ' H' => (∃ x6 x7 : Option V, σ' = [some (.ref a), some (.ref T), some (.int e), some (.int l), some (.str due), some (.ref told), x6, x7]) ∧ AtO obD H3 told done H', ⟨⟨none, none, rfl⟩, (aO0.ex e5).ex e6⟩, ?_, ?_, ?_⟩⟩
    · rintro done σ' H' ⟨_, aO⟩ b hbz
      obtain ⟨as', h1, _⟩ := aO.d
      rw [List.mem_singleton.mp hbz, h1]
      exact nofun
    · rintro done d r hdr σ1 Hq Tt y1 y2 H' ⟨⟨x6, x7, rfl⟩, aO⟩ ex n1 n2 ne hy1 hy2 hTt
      have hd : d ∈ adAll e l (sls n) cs := by rw [← hdr]; simp
      have sd := as d hd
      have hlen : done.length < 100000 := by
        have := congrArg List.length hdr
        rw [List.length_append, List.length_cons] at this
        omega
      refine g_pair hTt ?_
      refine q_when (b := false) (et_is (et_test (ev_op (ev_repD (ev_var rfl) hy1 sd) (ev_repD (ev_var rfl) hy2 sd) (rv_ne rfl))) same_b) (fun z => nomatch z) (fun _ H7 e7 => ?_)
      obtain ⟨as', hq1, hq2, ha3⟩ := aO.d
      have ha1 := e7 _ _ (ex _ _ hq1)
      have ha2 := (hq2.ex ex).ex e7
      have noy : ∀ b ∈ as', b ≠ y1 := AllO.ne (H := Hq) n1 hq2
      have hy7 := e7 _ _ hy1
      -- told.append(dict(near))
      refine s_bmL (R := fun vs H8 => ∃ p : Addr, vs = [.ref p] ∧ H8 p = some (obD d) ∧ p ≠ y1) ha1 (ev_var rfl) (fun H8 e8 Q8 q8 => (ed_copy (ev_var rfl) hy7) H8 e8 _ fun p H9 hp e9 h9 => ea_nil H9 (Ex.refl _) _ fun H10 e10 => q8 _ H10 (e9.trans e10) ⟨p, rfl, e10 _ _ h9, fun z => by rw [z, e8 _ _ hy7] at hp; cases hp⟩) fun vs H8 e8 ⟨p, ev, hp, hpy⟩ => ?_
      subst ev
      have hl8 := paired_len ha2
      have ha8 := e8 _ _ ha1
      have told_y1 : told ≠ y1 := ne_of_none hq1 n1
      have pt : p ≠ told := fun z => by
        rw [z, ha8] at hp
        cases hp
      refine ⟨told, _, _, rfl, rfl, ha8, by rw [List.length_map, hl8]; exact sz_lt hlen, ?_⟩
      -- near.clear()
      have hyb : (upd H8 told (.lst (as'.map V.ref ++ [.ref p]))) y1 = some (obD d) := by rw [upd_ne (Ne.symm told_y1)]; exact e8 _ _ hy7
      refine s_bm0 (x := .ref y1) (ev_var rfl) fun H9 e9 => ⟨?_, y1, _, rfl, rfl, e9 _ _ hyb, ?_⟩
      · exact .inr (.inr (.inl ⟨rfl, .inl ⟨_, e9 _ _ hyb⟩⟩))
      · have x8 : Ex H3 H8 := ((aO.s.trans ex).trans e7).trans e8
        have nt : ∀ b ∈ as' ++ [p], b ≠ told ∧ b ≠ y1 := fun b hbz => by
          rcases List.mem_append.mp hbz with hbz | hbz
          · exact ⟨ha3 b hbz, noy b hbz⟩
          · rw [List.mem_singleton.mp hbz]
            exact ⟨pt, hpy⟩
        have all8 : AllO obD H8 (as' ++ [p]) (done ++ [d]) := paired_app (ha2.ex e8) (.cons hp .nil)
        have all9 := (AllO.upd (o := .lst (as'.map V.ref ++ [.ref p])) all8 fun b hbz => (nt b hbz).1).ex e9
        refine ⟨⟨⟨_, _, rfl⟩, ((x8.mut htold).trans e9).mut (notT aO.s n1), as' ++ [p], ?_, AllO.upd all9 fun b hbz => (nt b hbz).2, fun b hbz => (nt b hbz).1⟩, fun b u hbz h1 h2 h3 => ?_⟩
        · rw [upd_ne told_y1, List.map_append]
          exact e9 _ _ upd_same
        · rw [upd_ne h2]
          refine e9 _ _ ?_
          rw [upd_ne fun z => h1 (List.mem_singleton.mpr z)]
          exact e8 _ _ (e7 _ _ hbz)
    · rintro σ' H' ⟨⟨x6, x7, rfl⟩, aO⟩
      refine s_ret (ev_is (ev_op (ev_repL1 (ev_var rfl) aO.list al as) (ev_var rfl) (rv_eq rfl)) (by rw [hdue, decide_eq_true rfl])) fun H7 e7 => q H7 ((x3.trans aO.s).trans e7)
end
end LdP
/-! # LdPA -/
/-! _law_number_right: parts. -/
namespace LdP
open PySem PySem.Spec PyProof.Rows L2 Evl LiI
section
variable {base : Heap} {mg : Str → Option Value} {K : PySem.W.Frag} {w : World} {P : Program}
theorem ok_With (t : Tx K mg) : Ok P w K mg base 8 (He.ga K "dates_with") p_dateswith (spWith K) := let ⟨fd, F1, F2, F⟩ := ok_dateswith (P := P) (w := w) (base := base) t; ⟨⟨fd, F1, F2⟩, F.kp⟩
/-- dates_with(number = .., other = .., point = .., calendar = ..) -/
def tDwK (K : PySem.W.Frag) (t : TA) : TE := fun σ H Q => t σ H fun vs H1 => ∃ x y z v, vs = [v, z, y, x] ∧ spWith K [x, y, z, v] H1 Q E0
theorem dw_kw {fd : FuncData} (F : FunD K d_dateswith.name d_dateswith.qual d_dateswith.params d_dateswith.body d_dateswith.scope [] [] (He.ga K "dates_with") fd) (s : Shared) (x y z v : Value) :
    BindsTo s fd ⟨[], (["number", "other", "point", "calendar"] : List Str).zip [v, z, y, x]⟩ (p_dateswith.zip [x, y, z, v]) := by
  obtain ⟨ocz, odz, dVz, kVz, docz, pmz, anz, cdvz, ctz, oslz, rfl, lkz, hcdz, hDz, hKz⟩ := F.ex
  rcases hDz with ⟨_, rfl⟩ | ⟨ez, _⟩
  · exact .of_eq rfl
  · exact absurd rfl ez
end
section
variable {X : Cx} {p pos : Pos} {ta : TA}
theorem pe_dwK (t : Tx X.K X.mg) (hr : Room 8 X.A) {kws : List Keyword} (ha : PK X kws ta) (hg : Gl X "dates_with" := by rfl)
    (hall : (backToKw pos (keywordEach kws X.env)).all (·.1.isSome) = true := by rfl) (hks : (backToKw pos (keywordEach kws X.env)).filterMap (·.1) = (["number", "other", "point", "calendar"] : List Str) := by rfl)
    (hpl : ((backTo pos (starEach [] X.env)).any (·.1) || (backToKw pos (keywordEach kws X.env)).any (·.1.isNone)) = false := by rfl) : PE X (.Call (.Name "dates_with" p) [] kws pos) (tDwK X.K ta) := by
  obtain ⟨fd, F1, _, F⟩ := ok_dateswith (P := X.prog) (w := X.w) (base := X.base) t
  refine ⟨fun pinsz sz σz Hz Qz Iz hz => ?_⟩
  refine wpAny_Call_Name_kw (ld_glob Iz hg t.g_dateswith (PySem.W.callWith_KW0 (h₀ := X.base) Iz.ok.mod.kin F.kp hall (thn (ha.run pos pinsz sz σz Hz _ Iz hz) fun ws s1 ⟨vs, H1, I1, r, q⟩ => ⟨I1.kIn, ?_⟩) hpl) (by decide))
  obtain ⟨x, y, z, v, ev, q⟩ := q
  subst ev
  rw [hks]
  obtain ⟨u1, u2, u3, u4, ew, r'⟩ : ∃ u1 u2 u3 u4, ws = [u1, u2, u3, u4] ∧ Vals [x, y, z, v] [u4, u3, u2, u1] := by
    cases r with
    | cons r1 r =>
    cases r with
    | cons r2 r =>
    cases r with
    | cons r3 r =>
    cases r with
    | cons r4 r =>
    cases r with
    | nil => exact ⟨_, _, _, _, rfl, .cons r4 (.cons r3 (.cons r2 (.cons r1 .nil)))⟩
  subst ew
  refine wpAny_call (codeAny_mono (F1.run X.A X.stack s1 H1 _ [u4, u3, u2, u1] _ Qz E0 hr I1.env0 (dw_kw F s1 u4 u3 u2 u1) r' q) fun res s2 hq => ?_)
  cases res with
  | error er => exact pass0 pinsz σz H1 s1 er s2 I1 hq
  | ok fl =>
    cases fl with
    | ret u => exact I1.after hq
    | next => exact hq.elim
    | brk => exact hq.elim
    | cont => exact hq.elim
end
section
variable {β γ : Type} {ob : β → HO} {ob2 : γ → HO} {K : PySem.W.Frag} {σ : L2.St} {H : Hp} {tl te : TE} {j : Nat} {vs : List Nat}
/-- [e for x in xs], xs a list of objects, each item a new object -/
theorem en_lcM {pf : Addr} {bs : List β} (f : β → γ) (h : Ev tl σ H (.ref pf)) (hx : ListO ob H pf bs) (hz : bs.length ≤ 40000) (hw : ∀ x, wipe ((wipe σ vs).set j (some x)) vs = wipe σ vs)
    (he : ∀ a b H1, Ex H H1 → H1 a = some (ob b) → b ∈ bs → EvN te ((wipe σ vs).set j (some (.ref a))) H1 (fun p H2 => H2 p = some (ob2 (f b)))) :
    EvN (tLc (iList K tl) (gName j) tYes te vs) σ H (fun p H2 => ListO ob2 H2 p (bs.map f)) := fun H1 e Q q => h H1 e _ fun H2 e2 => by
  obtain ⟨as, hp, hA⟩ := hx
  exact ⟨pf, rfl, ⟨_, sq_of (e2 _ _ (e _ _ hp))⟩, fun D hD =>
  lc_list (xs := as.map V.ref) (fun i H' => AtO ob2 H2 D ((bs.take i).map f) H') (atO_zero hD) (fun i H' _ a => sq_of (a.s _ _ (e2 _ _ (e _ _ hp)))) (fun i x H' hi a => by
    obtain ⟨b', hb', rfl⟩ : ∃ z, as[i]? = some z ∧ x = .ref z := by
      rw [List.getElem?_map] at hi
      cases h : as[i]? with
      | none => rw [h] at hi; cases hi
      | some z => rw [h] at hi; exact ⟨z, rfl, (Option.some.inj hi).symm⟩
    obtain ⟨b, hb, hob⟩ := paired_get hA hb'
    have x2 := e.trans e2
    have ext : bs.take (i + 1) = bs.take i ++ [b] := by rw [List.take_add_one, hb]; rfl
    refine ⟨hw _, yes_go ?_⟩
    refine he b' b H' (x2.trans a.s) ((x2.trans a.s) _ _ hob) (List.mem_of_getElem? hb) H' (Ex.refl _) _ fun p H4 hp e4 hpo => ?_
    have hne : p ≠ D := fun z => by
      obtain ⟨as, h1, _⟩ := a.d
      rw [z, h1] at hp
      cases hp
    have := atO_next hD a e4 hpo hne (by rw [List.length_map]; have := List.length_take_le' i bs; omega)
    rw [ext, List.map_append]
    exact this) (fun H' a => by
    have hl : (as.map V.ref).length = bs.length := by rw [List.length_map, paired_len hA]
    rw [hl, List.take_length] at a
    exact q D H' (fresh_back e2 hD) (e2.trans a.s) a.list)⟩
/-- [e for x in xs], xs a list of objects, the items known -/
theorem el_lcM {pf : Addr} {bs : List β} (v : β → V) (h : Ev tl σ H (.ref pf)) (hx : ListO ob H pf bs) (hz : bs.length ≤ 40000) (hw : ∀ x, wipe ((wipe σ vs).set j (some x)) vs = wipe σ vs)
    (he : ∀ a b H1, Ex H H1 → H1 a = some (ob b) → b ∈ bs → Ev te ((wipe σ vs).set j (some (.ref a))) H1 (v b)) :
    EvL (tLc (iList K tl) (gName j) tYes te vs) σ H (bs.map v) := fun H1 e Q q => h H1 e _ fun H2 e2 => by
  obtain ⟨as, hp, hA⟩ := hx
  exact ⟨pf, rfl, ⟨_, sq_of (e2 _ _ (e _ _ hp))⟩, fun D hD =>
  lc_list (xs := as.map V.ref) (AtD H2 D (bs.map v)) (atD_zero hD) (fun i H' _ a => sq_of (a.s _ _ (e2 _ _ (e _ _ hp)))) (fun i x H' hi a => by
    obtain ⟨b', hb', rfl⟩ : ∃ z, as[i]? = some z ∧ x = .ref z := by
      rw [List.getElem?_map] at hi
      cases h : as[i]? with
      | none => rw [h] at hi; cases hi
      | some z => rw [h] at hi; exact ⟨z, rfl, (Option.some.inj hi).symm⟩
    obtain ⟨b, hb, hob⟩ := paired_get hA hb'
    have x2 := e.trans e2
    refine ⟨hw _, yes_go ?_⟩
    refine he b' b H' (x2.trans a.s) ((x2.trans a.s) _ _ hob) (List.mem_of_getElem? hb) H' (Ex.refl _) _ fun H4 e4 => ?_
    exact atD_next hD a e4 (by rw [List.getElem?_map, hb]; rfl) (Nat.le_of_lt (sz_lt (by rw [List.length_map]; omega)))) (fun H' a => by
    have hl : (as.map V.ref).length = (bs.map v).length := by rw [List.length_map, List.length_map, paired_len hA]
    exact q D H' (fresh_back e2 hD) (e2.trans a.s) (a.all hl))⟩
end
theorem inV_int {z : Int} {zs : List Int} : inV (.int z) (zs.map V.int) = decide (z ∈ zs) := by
  unfold inV
  rw [List.any_map]
  by_cases h : z ∈ zs
  · rw [decide_eq_true h, List.any_eq_true]
    exact ⟨z, h, beq_self_eq_true z⟩
  · rw [decide_eq_false h, List.any_eq_false]
    intro y hy e
    have e2 : (y == z) = true := e
    exact h (eq_of_beq e2 ▸ hy)
theorem flat_ints {zs : List Int} : (zs.map V.int).all flatV = true := by
  rw [List.all_map, List.all_eq_true]
  intro _ _
  rfl
section
variable {K : PySem.W.Frag} {σ : L2.St} {H : Hp} {te : TE}
/-- x is None, x told by a property -/
theorem ev_isR {R : V → Hp → Prop} {b : Bool} (h : EvR te σ H R) (hb : ∀ v H2, R v H2 → decide (v = .non) = b) : Ev (tOp (fun x y H Q => y = .non ∧ Q (.bl (decide (x = .non))) H) te (tC .non)) σ H (.bl b) := fun H1 e Q q =>
  h H1 e _ fun v H2 e2 r => ⟨rfl, by rw [hb v H2 r]; exact q H2 e2⟩
theorem ev_isN {v : V} (h : Ev te σ H v) : Ev (tOp (fun x y H Q => y = .non ∧ Q (.bl (decide (x = .non))) H) te (tC .non)) σ H (.bl (decide (v = .non))) := fun H1 e Q q => h H1 e _ fun H2 e2 => ⟨rfl, q H2 e2⟩
theorem ev_repR {R : V → Hp → Prop} {d : Ld.Dt Str} (h : EvR te σ H R) (hs : SmD d) (hR : ∀ v H2, R v H2 → ∃ p, v = .ref p ∧ H2 p = some (obD d)) : Ev (tCB rRep (tCons te tNil)) σ H (.str (dD d).shown) := fun H1 e Q q =>
  h H1 e _ fun v H2 e2 r => let ⟨p, ev, hp⟩ := hR v H2 r; ⟨p, by rw [ev], .inl ⟨d, hs, hp, q H2 e2⟩⟩
/-- list(d), the keys -/
theorem el_keys {a : Addr} {kvs : List (Key × V)} (h : Ev te σ H (.ref a)) (ha : H a = some (.dK kvs)) : EvL (tCB (fun xs H Q => ∃ (a : Addr) (kvs : List (Key × V)), xs = [.ref a] ∧ Rd H a (.dK kvs) ∧ ∀ p, H p = none → Q (.ref p) (upd H p (.lst (kvs.map fun kv => kV kv.1)))) (tCons te tNil)) σ H (kvs.map fun kv => kV kv.1) := fun H1 e Q q =>
  h H1 e _ fun H2 e2 => ⟨a, kvs, rfl, .inl (e2 _ _ (e _ _ ha)), fun p hp => q p _ (fresh_back e2 hp) (e2.trans (Ex.new hp)) upd_same⟩
end
theorem dp_strs {K : PySem.W.Frag} {H : Hp} : ∀ zs : List Str, DpAll K H (zs.map V.str) (zs.map PyData.str)
  | [] => .nil
  | z :: zs => .cons (.str _) (dp_strs zs)
theorem sls_data {n : Nat} (h : n ≤ 3) : SeqAt.shaped (.list ((sls n).map PyData.str)) = true ∧ PyData.eqv (.list ((sls n).map PyData.str)) (.list ((sls n).map PyData.str)) = true := by
  rcases four h with rfl | rfl | rfl | rfl <;> exact ⟨by decide +kernel, by decide +kernel⟩
theorem Drf.cal {n t : Nat} {cs : List Cl} (d : Drf n t cs) : Ld.Cal (-4) 6 day (sls n) cs := ⟨fun h => (List.nodup_append.mp (sls_nd d.n3)).2.2 _ h _ (List.mem_singleton.mpr rfl) rfl, fun c hc => by
  obtain ⟨h1, h2, _⟩ := d.w c hc
  exact ⟨sls_mem d.n3 h1, sls_mem d.n3 h2⟩, fun m hm => by
  obtain ⟨⟨k1, a1, b1⟩, k2, a2, b2⟩ := d.bd m ((mem_sls d.n3).mp hm)
  exact ⟨⟨k1, a1, b1⟩, k2, by omega, b2⟩⟩
theorem kvF_D (sl : List Str) (f : Str → Int) : HO.dK (kvF sl fun m => f m - f day) = obD (Ld.datesOf f day sl) := by
  unfold obD kvD kvF Ld.datesOf
  rw [List.map_map]
  rfl
/-- a draft's calendar has dates -/
theorem Drf.noring {n t : Nat} {cs : List Cl} (d : Drf n t cs) : chOf (sls n) cs = none := by
  cases h : adAll (-4) 6 (sls n) cs with
  | nil => exact absurd h d.dt
  | cons x r =>
    have hx : x ∈ adAll (-4) 6 (sls n) cs := by rw [h]; exact List.mem_cons_self
    exact Ld.no_ring d.cal.mem (List.mem_filter.mp hx).2 rfl
end LdP
/-! # LdPB -/
/-! _law_number_right. -/
namespace LdP
open PySem PySem.Spec PyProof.Rows L2 Evl LiI
section
variable {base : Heap} {mg : Str → Option Value} {K : PySem.W.Frag} {w : World} {P : Program}
def spLnum (K : PySem.W.Frag) : Sp := fun vs H Q _ => ∃ (T a wl p1 p2 : Addr) (n : Nat) (cs : List Cl) (f g : Str) (i j m : Int), vs = [.ref T, .ref a, .ref wl, .ref p1, .ref p2, .int m] ∧ CalAt K H a (sls n) cs ∧ DrAt H T n cs ∧ Drf n 4 cs ∧ ListO obD H wl (adAll (-4) 6 (sls n) cs) ∧
  PtAt H p1 f i ∧ PtAt H p2 g j ∧ f ∈ sls n ++ [day] ∧ g ∈ sls n ++ [day] ∧ ∀ H', Ex H H' → Q (.bl true) H'
theorem ok_Lnum (t : Tx K mg) : OkQ P w K mg base 9 (He.ga K "_law_number_right") p_Lnumberright (spLnum K) := by
  obtain ⟨fd, F⟩ := t.def_Lnumberright
  have G1 := ok_With (P := P) (w := w) (base := base) t
  have G2 : Ok P w K mg base 8 _ _ _ := (ok_Lkeeps (P := P) (w := w) (base := base) t).mono (by decide)
  refine okq_of F sc_Lnumberright (fun _ _ _ _ _ _ us hl => match us, hl with | [_, _, _, _, _, _], _ => rfl) (fun vs H Q E h => ?_) (fun cdv A outer s H vs Q E hgd hr h => ?_)
  · obtain ⟨T, a, wl, p1, p2, n, cs, f, g, i, j, m, rfl, _⟩ := h
    rfl
  · obtain ⟨T, a, wl, p1, p2, n, cs, f, g, i, j, m, rfl, hc, ⟨la, ca, hT, hla, hca⟩, df, hwl, h1, h2, hf, hg, q⟩ := h
    have hu0 := hu_of hr
    have hu : (A.deeper (envOfC d_Lnumberright.qual d_Lnumberright.scope s.heap.objs.size (He.ga K "_law_number_right") cdv)).units + 10 < cLine := by have := hr.un; omega
    refine ⟨_, pss_cons (ps_set (i := 6) sc_Lnumberright.nd rfl (Or.inl rfl) (pe_fn G1 hr t.g_dateswith (pa_cons (pv 1) (pa_cons (pv 3) (pa_cons (pv 4) (pa_cons (pv 5) pa_nil))))))
      (pss_cons (ps_if (pt_cmpR op_ne (pe_cmpR op_isN (pe_dwK t hr (pk_cons (pv 5) (pk_cons (pv 4) (pk_cons (pv 3) (pk_cons (pv 1) pk_nil))))) pe_non (nomark _)) (pe_cmpR op_isN (pv 6) pe_non (nomark _)) (nomark _)) (pss_one (ps_ret pe_bl)) pss_nil)
      (pss_cons (ps_setLc (i := 7) (own := [("_law_some", 11)]) (g := gName 11) (tt := tYes) (te := tPlus K (tVar 11) (tC (.str "day")) (tC (.int 0))) rfl sc_Lnumberright.nd rfl rfl (sw_true rfl rfl rfl (by decide +kernel)) (pi_list (pv 2)) (blkOk_by (own := [("_law_some", 11)]) (N := n_Lnumberright) (sc := defScope s_Lnumberright) (by decide +kernel))
          (fun _ _ _ _ _ => pg_name (i := 11) sc_Lnumberright.nd rfl (Or.inl rfl)) (fun _ _ _ _ _ => pts_nil) (fun _ _ _ _ _ => pe_plus rfl t rfl (pv 11) pe_str pe_int))
      (pss_cons (ps_set (i := 8) sc_Lnumberright.nd rfl (Or.inl rfl) (pe_cmpR op_in_seq (pv 5) (pe_lc (own := [("_law_some", 11)]) (g := gName 11) (tt := tYes)
          (te := tOp (rI0 fun i j => .int (i - j)) (tOp (rI0 fun i j => .int (i - j)) (tOp (rI0 fun i j => .int (i + j)) (tDGet (tVar 11) (tOp (rIxT K) (tVar 3) (tC (.int 0)))) (tOp (rIxT K) (tVar 3) (tC (.int 1)))) (tDGet (tVar 11) (tOp (rIxT K) (tVar 4) (tC (.int 0))))) (tOp (rIxT K) (tVar 4) (tC (.int 1))))
          rfl sc_Lnumberright.nd (pi_list (pv 7)) (blkOk_by (own := [("_law_some", 11)]) (N := n_Lnumberright) (sc := defScope s_Lnumberright) (by decide +kernel)) (fun _ _ _ _ _ => pg_name (i := 11) sc_Lnumberright.nd rfl (Or.inl rfl)) (fun _ _ _ _ _ => pts_nil)
          (fun _ _ _ _ _ => pe_op op_sub (pe_op op_sub (pe_op op_add (pe_dget (by exact hu0) (pv 11) (pe_ix ix_tup (pv 3) pe_int (fun _ _ => rfl)) (fun _ _ => rfl)) (pe_ix ix_tup (pv 3) pe_int (fun _ _ => rfl))) (pe_dget (by exact hu0) (pv 11) (pe_ix ix_tup (pv 4) pe_int (fun _ _ => rfl)) (fun _ _ => rfl))) (pe_ix ix_tup (pv 4) pe_int (fun _ _ => rfl)))) rfl))
      (pss_cons (ps_if (PW.pt (pw_or (pt_not (pt_val (pv 8))) (pw_or1 (pt_cmpR op_isN (pv 6) pe_non (nomark _))))) (pss_one (ps_ret (pe_and (pe_cmpR op_isN (pv 6) pe_non (nomark _)) (pe_one (pe_not (pv 8)))))) pss_nil)
      (pss_cons (ps_if (PW.pt (pw_or (pt_cmpR (op_neD (hu64 hr)) (pe_callTy (call_listD rfl) (by rfl) t.f_list boot_list' (pa_cons (pv 6) pa_nil)) (pe_callB cr_sortedS (by rfl) t.f_sorted boot_sorted' (pa_cons (pe_ix ix_tup (pv 0) pe_int (fun _ _ => rfl)) pa_nil)) (nomark _))
          (pw_or1 (pt_not (pt_val (pe_fn G2 hr t.g_lawkeeps (pa_cons (pv 6) (pa_cons (pe_ix ix_tup (pv 0) pe_int (fun _ _ => rfl)) pa_nil)))))))) (pss_one (ps_ret pe_bl)) pss_nil)
      (pss_cons (ps_par (i := 9) (j := 10) rfl sc_Lnumberright.nd rfl rfl (by decide) rfl rfl (pa_cons (pe_plus rfl t rfl (pv 6) pe_str pe_int) (pa_cons (pe_callB (call_rep hgd hu) (by rfl) t.f_repr boot_repr' (pa_cons (pv 6) pa_nil)) pa_nil)) (by rfl))
      (pss_cons (ps_expr (pe_dclear (pv 6)))
      (pss_cons (ps_if (pt_cmpR op_ne (pe_callB (call_rep hgd hu) (by rfl) t.f_repr boot_repr' (pa_cons (pe_fn G1 hr t.g_dateswith (pa_cons (pv 1) (pa_cons (pv 3) (pa_cons (pv 4) (pa_cons (pv 5) pa_nil))))) pa_nil)) (pv 10) (nomark _)) (pss_one (ps_ret pe_bl)) pss_nil)
      (pss_one (ps_ret (pe_cmpR op_eq (pe_op op_sub (pe_op op_sub (pe_op op_add (pe_dget (by exact hu0) (pv 9) (pe_ix ix_tup (pv 3) pe_int (fun _ _ => rfl)) (fun _ _ => rfl)) (pe_ix ix_tup (pv 3) pe_int (fun _ _ => rfl))) (pe_dget (by exact hu0) (pv 9) (pe_ix ix_tup (pv 4) pe_int (fun _ _ => rfl)) (fun _ _ => rfl))) (pe_ix ix_tup (pv 4) pe_int (fun _ _ => rfl))) (pv 5) (nomark _)))))))))))), ?_⟩
    have hn := df.n3
    have C := df.cal
    have w := df.calW (Nat.le_refl _)
    have nds := sls_nd hn
    have nd := (List.nodup_append.mp nds).1
    have hday : day ∉ sls n := C.nz
    have al : (adAll (-4) 6 (sls n) cs).length ≤ 4096 := ad_len hn (by decide) (by decide)
    have due := Ld.due_iff C nd hf hg i j m (k := (sls n ++ [day]).length + 1) rfl
    have keys : ∀ d ∈ adAll (-4) 6 (sls n) cs, d.map (·.1) = sls n := fun d hd => ((Ld.mem_allD _ _ _ rfl).mp (List.mem_filter.mp hd).1).1
    have slw : SlW (sls n) := (lbs_slw hn).perm (lbs_srt hn).1
    -- dates_with, wherever it is called
    have kw : ∀ {H1 : Hp}, Ex H H1 → ∀ Q1 : VK, (∀ v H2, Ex H1 H2 → sdV (sls n) (cs ++ Ld.apart f g (m + j - i)) H1 v H2 → Q1 v H2) → spWith K [.ref a, .ref p1, .ref p2, .int m] H1 Q1 E0 := fun {H1} x Q1 k =>
      ⟨a, p1, p2, sls n, yks n, cs, f, g, i, j, m, rfl, hc.ex x, w, slw, sls_mom hn, df.noring, x _ _ h1, x _ _ h2, hf, hg, k⟩
    have sd : ∀ {b : Bool} {v : V} {H1 H2 : Hp}, decide (chOf (sls n) (cs ++ Ld.apart f g (m + j - i)) = none) = b → sdV (sls n) (cs ++ Ld.apart f g (m + j - i)) H1 v H2 → decide (v = .non) = !b := fun {b v H1 H2} hb hv => by
      rcases hv with ⟨hne, rfl⟩ | ⟨he, p, rfl, _⟩
      · rw [← hb, decide_eq_false hne]; rfl
      · rw [← hb, decide_eq_true he]; rfl
    -- near = dates_with(..)
    refine q_asgR (R := fun v H2 => sdV (sls n) (cs ++ Ld.apart f g (m + j - i)) H v H2) (evR_call (ear_of (ea_cons (ev_var rfl) (ea_cons (ev_var rfl) (ea_cons (ev_var rfl) (ea_cons (ev_var rfl) ea_nil))))) fun vs H1 e1 r Q1 k => by
      subst r
      exact kw e1 Q1 fun v H2 e2 hv => k v H2 e2 (hv.back e1)) fun near H1 e1 hnear => ?_
    generalize hb : decide (chOf (sls n) (cs ++ Ld.apart f g (m + j - i)) = none) = b
    have hnn := sd hb hnear
    refine q_when (b := false) (et_is (et_test (ev_op (ev_isR (b := !b) (R := fun v H2 => ∃ H3, sdV (sls n) (cs ++ Ld.apart f g (m + j - i)) H3 v H2) (fun H2 e2 Q2 q2 => (ea_cons (ev_var rfl) (ea_cons (ev_var rfl) (ea_cons (ev_var rfl) (ea_cons (ev_var rfl) ea_nil)))) H2 e2 _ fun H3 e3 => ⟨.ref a, .ref p1, .ref p2, .int m, rfl, kw ((e1.trans e2).trans e3) _ fun v H4 e4 hv => q2 v H4 (e3.trans e4) ⟨_, hv⟩⟩) fun v H2 ⟨H3, hv⟩ => sd hb hv)
      (ev_isN (ev_var rfl)) (rv_ne rfl))) (by rw [hnn, decide_eq_true rfl]; rfl)) (fun z => nomatch z) (fun _ H2 e2 => ?_)
    have x2 := e1.trans e2
    -- days
    refine q_asgN (R := fun p H3 => ListO obD H3 p ((adAll (-4) 6 (sls n) cs).map fun d => d ++ [(day, 0)])) (en_lcM (fun d => d ++ [(day, 0)]) (ev_var rfl) (hwl.ex x2) (by omega) (fun _ => rfl) fun a' d H3 e3 ha' hd => en_D (ed_plus (d := d) (k := day) (v := 0) (ev_var rfl) ha' (fun _ _ => ev_c) (fun _ _ => ev_c) (by rw [List.map_append, keys d hd]; exact nds) (by
      have := congrArg List.length (keys d hd)
      rw [List.length_map] at this
      have := w.len
      omega))) fun dl H3 hdl e3 hds => ?_
    have x3 := x2.trans e3
    have dz : ∀ d ∈ adAll (-4) 6 (sls n) cs, ∀ {z : Str}, z ∈ sls n ++ [day] → valV (kvD (d ++ [(day, 0)])) (Sum.inr z) = some (V.int (Ld.dv d z)) := fun d hd z hz => dayed_val (keys d hd) hday hz
    have dvz : ∀ d ∈ adAll (-4) 6 (sls n) cs, ∀ {z : Str}, z ∈ sls n ++ [day] → Ld.dv (d ++ [(day, 0)]) z = Ld.dv d z := fun d hd z hz => by
      have k1 := kvD_val (d := d ++ [(day, 0)]) (m := z) (by rw [List.map_append, keys d hd]; exact hz)
      rw [dz d hd hz] at k1
      injection (Option.some.inj k1) with k2
      exact k2.symm
    -- is_due
    have dueb : decide (m ∈ (adAll (-4) 6 (sls n) cs).map fun d => btw d f g i j) = b := by
      rw [← hb, decide_eq_decide, List.mem_map]
      exact due
    refine q_asg (v := .bl b) (ev_is (ev_opL (xs := ((adAll (-4) 6 (sls n) cs).map fun d => btw d f g i j).map V.int) (ev_var rfl) ?_ (fun p H4 hp e4 => rv_isL (sq_of hp) rfl flat_ints)) (by rw [inV_int, dueb])) fun H4 e4 => ?_
    · have := el_lcM (K := K) (H := H3) (tl := tVar 7) (j := 11) (vs := [11]) (te := tOp (rI0 fun i j => .int (i - j)) (tOp (rI0 fun i j => .int (i - j)) (tOp (rI0 fun i j => .int (i + j)) (tDGet (tVar 11) (tOp (rIxT K) (tVar 3) (tC (.int 0)))) (tOp (rIxT K) (tVar 3) (tC (.int 1)))) (tDGet (tVar 11) (tOp (rIxT K) (tVar 4) (tC (.int 0))))) (tOp (rIxT K) (tVar 4) (tC (.int 1))))
        (σ := [some (.ref T), some (.ref a), some (.ref wl), some (.ref p1), some (.ref p2), some (.int m), some near, some (.ref dl), none, none, none, none]) (fun d : Ld.Dt Str => V.int (Ld.dv d f + i - Ld.dv d g - j)) (ev_var rfl) hds (by rw [List.length_map]; omega) (fun _ => rfl) (fun a' d' H4 e4 ha' hd' => by
          obtain ⟨d, hd, rfl⟩ := List.mem_map.mp hd'
          have g1 := (x3.trans e4) _ _ h1
          have g2 := (x3.trans e4) _ _ h2
          have vf := dz d hd hf
          have vg := dz d hd hg
          rw [dvz d hd hf, dvz d hd hg]
          exact ev_op (ev_op (ev_op (ev_dget (k := Sum.inr f) (ev_var rfl) (ev_op (ev_var rfl) ev_c (rv_ixT (st_of g1) rfl)) ha' vf) (ev_op (ev_var rfl) ev_c (rv_ixT (st_of g1) rfl)) (rv_I0 (g := fun i j => .int (i + j))))
            (ev_dget (k := Sum.inr g) (ev_var rfl) (ev_op (ev_var rfl) ev_c (rv_ixT (st_of g2) rfl)) ha' vg) (rv_I0 (g := fun i j => .int (i - j)))) (ev_op (ev_var rfl) ev_c (rv_ixT (st_of g2) rfl)) (rv_I0 (g := fun i j => .int (i - j))))
      have e0 : ((adAll (-4) 6 (sls n) cs).map fun d => d ++ [(day, (0 : Int))]).map (fun d : Ld.Dt Str => V.int (Ld.dv d f + i - Ld.dv d g - j)) = ((adAll (-4) 6 (sls n) cs).map fun d => btw d f g i j).map V.int := by
        rw [List.map_map, List.map_map]; refine List.map_congr_left fun d hd => ?_
        show V.int (Ld.dv (d ++ [(day, 0)]) f + i - Ld.dv (d ++ [(day, 0)]) g - j) = V.int (btw d f g i j)
        rw [dvz d hd hf, dvz d hd hg]
        rfl
      rw [e0] at this
      exact this
    have x4 := x3.trans e4
    rcases hnear with ⟨hne, rfl⟩ | ⟨hch, p, rfl, hp0, hp1⟩
    · have hbf : b = false := by rw [← hb]; exact decide_eq_false hne
      subst hbf
      refine q_when (b := true) (et_is (et_or (et_not (et_B (ev_var rfl))) fun _ => et_test (ev_isN (ev_var rfl))) rfl) (fun _ H5 e5 => ?_) (fun z => nomatch z)
      refine s_ret (ev_is (ev_andV (ev_isN (ev_var rfl)) fun _ => ev_notV (ev_var rfl)) rfl) fun H6 e6 => q H6 ((x4.trans e5).trans e6)
    · have hbt : b = true := by rw [← hb]; exact decide_eq_true hch
      subst hbt
      rw [kvF_D] at hp1
      obtain ⟨wk, wm⟩ := Ld.with_ok C hf hg i j m (k := (sls n ++ [day]).length) hch
      have sdV' : ∀ {H5 H6 : Hp} {v : V}, sdV (sls n) (cs ++ Ld.apart f g (m + j - i)) H5 v H6 → ∃ p, v = .ref p ∧ H6 p = some (obD (Ld.datesOf (Ld.rounds (cs ++ Ld.apart f g (m + j - i)) ((sls n ++ [day]).length + 1)).f day (sls n))) := fun {H5 H6 v} hv => by
        rcases hv with ⟨hne, _⟩ | ⟨_, p, h, _, h2⟩
        · exact absurd hch hne
        · rw [kvF_D] at h2
          exact ⟨p, h, h2⟩
      generalize hdn : Ld.datesOf (Ld.rounds (cs ++ Ld.apart f g (m + j - i)) ((sls n ++ [day]).length + 1)).f day (sls n) = dn at hp1 wk wm sdV'
      have dk : dn.map (·.1) = sls n := by rw [← hdn]; exact Ld.datesOf_keys _ _ _
      have dlen : dn.length = n := by
        have := congrArg List.length dk
        rw [List.length_map, sls_len hn] at this
        exact this
      have dsm : SmD dn := sls_sm hn (by decide) (by decide) (C.within dk wk nd)
      have kz : ∀ {z : Str}, z ∈ sls n ++ [day] → valV (kvD (dn ++ [(day, 0)])) (Sum.inr z) = some (V.int (Ld.dv dn z)) := fun hz => dayed_val dk hday hz
      refine q_when (b := false) (et_is (et_or (et_not (et_B (ev_var rfl))) fun _ => et_test (ev_isN (ev_var rfl))) rfl) (fun z => nomatch z) (fun _ H5 e5 => ?_)
      have x5 := x4.trans e5
      have xp : Ex H1 H5 := ((e2.trans e3).trans e4).trans e5
      -- list(near) != sorted(draft[0]) or not _law_keeps(near, draft[1])
      refine q_when (b := false) (et_is (et_or (et_test (ev_opLL (xs := (sls n).map V.str) (ys := (sls n).map V.str) (z := .bl false) ?_ (ev_sorted (ev_op (ev_var rfl) ev_c (rv_ixT (st_of (x5 _ _ hT)) rfl)) (x5 _ _ hla) (by rw [lbs_len hn]; omega) fun zs k1 k2 => Srt.unique ⟨k1, k2⟩ (lbs_srt hn)) ?_))
        fun _ => et_not (et_B (ev_call (ea_cons (ev_var rfl) (ea_cons (ev_op (ev_var rfl) ev_c (rv_ixT (st_of (x5 _ _ hT)) rfl)) ea_nil)) (fun H6 e6 Q6 q6 E6 => ⟨p, ca, dn, cs, rfl, (xp.trans e6) _ _ hp1, hca.ex (x5.trans e6), by rw [dk]; exact nds, by omega, by have := df.len; omega, by rw [dk]; exact w.mem, by rw [wk] ; exact q6⟩)))) rfl) (fun z => nomatch z) (fun _ H6 e6 => ?_)
      · have := el_keys (σ := [some (.ref T), some (.ref a), some (.ref wl), some (.ref p1), some (.ref p2), some (.int m), some (.ref p), some (.ref dl), some (.bl true), none, none, none]) (te := tVar 6) (ev_var rfl) (xp _ _ hp1)
        have e0 : (kvD dn).map (fun kv => kV kv.1) = (sls n).map V.str := by
          rw [← dk]
          unfold kvD; rw [List.map_map, List.map_map]
          rfl
        rw [e0] at this
        exact this
      · intro pa pb H6 ha hb e6 H7 e7 Q7 q7
        obtain ⟨k1, k2⟩ := sls_data hn
        exact ⟨_, _, .lst (SqL.of (e7 _ _ ha)) (dp_strs (sls n)), .lst (SqL.of (e7 _ _ hb)) (dp_strs (sls n)), k1, k1, by rw [k2]; exact q7 H7 (Ex.refl _)⟩
      have x6 := x5.trans e6
      have xp6 := xp.trans e6
      -- day, kept
      refine q_par (R := fun vs H7 => ∃ dd : Addr, vs = [.ref dd, .str (dD dn).shown] ∧ H7 dd = some (.dK (kvD (dn ++ [(day, 0)]))) ∧ dd ≠ p) (fun H7 e7 Q7 q7 => (ed_plus (d := dn) (k := day) (v := 0) (ev_var rfl) (xp6 _ _ hp1) (fun _ _ => ev_c) (fun _ _ => ev_c) (by rw [List.map_append, dk]; exact nds) (by omega)) H7 e7 _ fun dd H8 hdd e8 h8 =>
        (ea_cons (ev_repD (ev_var rfl) ((xp6.trans e7).trans e8 _ _ hp1) dsm) ea_nil) H8 (Ex.refl _) _ fun H9 e9 => q7 _ H9 (e8.trans e9) ⟨dd, rfl, e9 _ _ h8, fun z => by rw [z, (xp6.trans e7) _ _ hp1] at hdd; cases hdd⟩) fun vs H7 e7 ⟨dd, ev, hd7, hdp⟩ => ⟨_, _, ev, ?_⟩
      have x7 := x6.trans e7
      have xp7 := xp6.trans e7
      -- near.clear()
      refine s_bm0 (x := .ref p) (ev_var rfl) fun H8 e8 => ⟨.inr (.inr (.inl ⟨rfl, .inl ⟨_, (xp7.trans e8) _ _ hp1⟩⟩)), p, _, rfl, rfl, (xp7.trans e8) _ _ hp1, ?_⟩
      have x8 : Ex H (upd H8 p (.dK [])) := (x7.trans e8).mut hp0
      have hd8 : (upd H8 p (.dK [])) dd = some (.dK (kvD (dn ++ [(day, 0)]))) := by rw [upd_ne hdp]; exact e8 _ _ hd7
      generalize upd H8 p (.dK []) = H8' at x8 hd8
      -- repr(dates_with(..)) != kept
      refine q_when (b := false) (et_is (et_test (ev_op (ev_repR (R := fun v H9 => ∃ H10, sdV (sls n) (cs ++ Ld.apart f g (m + j - i)) H10 v H9) (d := dn) (evR_call (ear_of (ea_cons (ev_var rfl) (ea_cons (ev_var rfl) (ea_cons (ev_var rfl) (ea_cons (ev_var rfl) ea_nil))))) fun vs H9 e9 r Q9 k => by
        subst r
        exact kw (x8.trans e9) Q9 fun v H10 e10 hv => k v H10 e10 ⟨_, hv⟩) dsm fun v H9 ⟨H10, hv⟩ => sdV' hv) (ev_var rfl) (rv_ne rfl))) same_b) (fun z => nomatch z) (fun _ H9 e9 => ?_)
      have g1 := (x8.trans e9) _ _ h1
      have g2 := (x8.trans e9) _ _ h2
      refine s_ret (ev_is (ev_op (ev_op (ev_op (ev_op (ev_dget (k := Sum.inr f) (ev_var rfl) (ev_op (ev_var rfl) ev_c (rv_ixT (st_of g1) rfl)) (e9 _ _ hd8) (kz hf)) (ev_op (ev_var rfl) ev_c (rv_ixT (st_of g1) rfl)) (rv_I0 (g := fun i j => .int (i + j))))
        (ev_dget (k := Sum.inr g) (ev_var rfl) (ev_op (ev_var rfl) ev_c (rv_ixT (st_of g2) rfl)) (e9 _ _ hd8) (kz hg)) (rv_I0 (g := fun i j => .int (i - j)))) (ev_op (ev_var rfl) ev_c (rv_ixT (st_of g2) rfl)) (rv_I0 (g := fun i j => .int (i - j)))) (ev_var rfl) (rv_eq rfl)) (by rw [wm, decide_eq_true rfl])) fun H10 e10 => q H10 ((x8.trans e9).trans e10)
end
end LdP
/-! # LdPC -/
/-! for .. in enumerate(t), t an empty tuple. -/
namespace LdP
open PySem PySem.Spec PyProof.Rows L2 Evl LiI
theorem meets_enumT (l : Addr) (items : Array Value) : Meets (Builtin.«enumerate.__new__» ⟨[.type "enumerate", .ref l], []⟩) (fun _ R s => s.heap.IsTuple l items ∧
      R (.ok (.ret (.ref (s.heap.objs.size + 1)))) { s with heap := (s.heap.push { cls := .type "tuple_iterator", data := .fields #[.ref l, .int 0 0] }).push { cls := .type "enumerate", data := .fields #[.none, .bool false, .ref s.heap.objs.size, rawInt 0, .none, .none] } }) :=
  .of_wp fun progz wz Az R s hzz => by
    obtain ⟨hpz, gz, dz, tkz, osz⟩ := s
    obtain ⟨hl, hzz⟩ := hzz
    have hsub := sub_enumerate
    have hL : Heap.IsTuple (Shared.heap ⟨hpz, gz, dz, tkz, osz⟩) l items := hl
    obtain ⟨o, ho, hc, hn⟩ := id hL
    have hz : (hpz.push { cls := .type "tuple_iterator", data := .fields #[.ref l, .int 0 0] }).objs.size = hpz.objs.size + 1 := Heap.size_push ..
    wp_walk using AutoSeq1.wpAny_loadPart' ho
    refine wpAny_stack_any fun stz => wpAny_pure ?_
    split
    · rename_i c _ _ _ _ _
      cases c == Value.type "enumerate"
      · wp_walk using AutoSeq1.wpAny_loadPart' ho, wpAny_pyIter_tuple hL
        rw [hz]
        exact ⟨_, rfl, hzz⟩
      · wp_walk using AutoSeq1.wpAny_loadPart' ho, wpAny_pyIter_tuple hL
        rw [hz]
        exact ⟨_, rfl, hzz⟩
    · wp_walk using AutoSeq1.wpAny_loadPart' ho, wpAny_pyIter_tuple hL
      rw [hz]
      exact ⟨_, rfl, hzz⟩
section
variable {s : Shared} {prog : Program} {w : World} {A : Around} {E : Value → Shared → Prop}
theorem call_enumT {l : Addr} {items : Array Value} {Q : Value → Shared → Prop} (hL : s.heap.IsTuple l items)
    (h : ∀ h', IsEnum h' (s.heap.objs.size + 1) s.heap.objs.size 0 .none → h'.IsTupleIter s.heap.objs.size l 0 → (∀ b o, s.heap.get? b = some o → h'.get? b = some o) → Q (.ref (s.heap.objs.size + 1)) { s with heap := h' }) : wpAny (model prog w) A (call (.type "enumerate") [.ref l]) Q E s := by
  refine callType_new F.called_enumerate (by decide) (F.typeCall_enumerate_1 _) (F.newCall_enumerate_1 _) (fun obj => F.args_object_init_2 obj _) F.entry_enumerate_new (meets_enumT l items) ⟨hL, ?_⟩
  have hz : (s.heap.push { cls := .type "tuple_iterator", data := .fields #[.ref l, .int 0 0] }).objs.size = s.heap.objs.size + 1 := Heap.size_push ..
  have he := Heap.get?_push_size (s.heap.push { cls := .type "tuple_iterator", data := .fields #[.ref l, .int 0 0] }) (o := { cls := .type "enumerate", data := .fields #[.none, .bool false, .ref s.heap.objs.size, rawInt 0, .none, .none] }) rfl
  rw [hz] at he
  exact ⟨⟨_, he, rfl⟩, h _ he ⟨_, Heap.get?_push_of_some _ (Heap.get?_push_size _ rfl), rfl, rfl⟩ fun b o x => Heap.get?_push_of_some _ (Heap.get?_push_of_some _ x)⟩
end
def tEnum0 (K : PySem.W.Frag) (te : TE) : TS := fun D σ H => te σ H fun v H1 => ∃ p, v = .ref p ∧ SqT K H1 p [] ∧ D.nx σ H1
theorem ps_enum0 {X : Cx} {e tg : Expr} {te : TE} {body : List Stmt} {p pos fpos : Pos} (t : Tx X.K X.mg) (hc : X.calm = true) (he : PE X e te) (hg : Gl X "enumerate" := by rfl) (hs : starEach [e] X.env = [(false, eval e X.env)] := by rfl)
    (hf : ∀ x, foldedSetIterable (.Call (.Name "enumerate" p) [e] [] pos) X.env x = pure x := by intro _; rfl) : PS X (.For tg (.Call (.Name "enumerate" p) [e] [] pos) body [] fpos) (tEnum0 X.K te) := by
  refine ⟨fun pinsz sz σz Hz Dz Iz hz => ?_⟩
  refine wpAny_For (wpAny_Call_Name_kw (ld_blt Iz hg t.f_enumerate boot_enumerate (PyProof.Rows.callWith_type1 ?_ hs rfl))) hf
  rw [hs]
  show wpAny _ _ (spliced ((false, eval e X.env) :: [])) _ _ sz
  refine Calls.spliced_cons (thn (he.run pinsz sz σz Hz _ Iz hz) fun u s1 ⟨v, H1, I1, r1, q, ev, hq, qn⟩ => Calls.spliced_nil ?_)
  subst ev
  cases r1
  obtain ⟨its, rv, p1, _⟩ := I1.tuple hq
  cases rv
  have hT : s1.heap.IsTuple q #[] := p1
  refine call_enumT hT fun h' ze zi k => wpAny_pyIter_enum ze ?_
  have I2 : Inv X pinsz σz H1 { s1 with heap := h' } := I1.kept (t' := s1.toks) k
  have hn : H1 s1.heap.objs.size = none := I1.hok.fresh (Nat.le_refl _)
  obtain ⟨_, f1, f2, f3, f4, f5⟩ := I1.fpOk (Nat.le_refl _) hn
  have hT' : h'.IsTuple q #[] := let ⟨o, ho, r⟩ := hT; ⟨o, k _ _ ho, r⟩
  have hne : q ≠ s1.heap.objs.size := let ⟨o, ho, _⟩ := hT; Nat.ne_of_lt (Heap.lt_size ho)
  refine codeAny_forLoop_any (fun n s' => s' = { s1 with heap := h' }) ?_ 0 rfl
  rintro n s3 rfl
  refine wpAny_pyNext_enum_endD (Draws.tuple (A := X.A.in1) (I1.ok.hd hc) s1.heap.objs.size q hne #[]) ze ⟨zi, hT'⟩ fun h2 k2 => wpAny_execs_nil ⟨σz, H1, ?_, qn⟩
  exact I2.turned (t' := s1.toks) (fun b o hb e => k2 b o hb e) hn f1 f3 f4 f5
end LdP
/-! # LdPD -/
/-! Calendar([]): the clauses by default. -/
namespace LdP
open PySem PySem.Spec PyProof.Rows L2 Evl LiI
section
variable {base : Heap} {mg : Str → Option Value} {K : PySem.W.Frag} {w : World} {P : Program}
def spCaInit0 (K : PySem.W.Frag) : Sp := fun vs H Q _ => ∃ (H0 : Hp) (a dx m : Addr), vs = [.ref a, .ref m, .ref (dflC K)] ∧ Ex H0 H ∧ H0 a = none ∧ H a = some (.ins (He.ga K "Calendar") dx []) ∧ H0 m = some (.lst []) ∧ ∀ H', Ex H0 H' → CalAt K H' a [] [] → Q .non H'
theorem dfl_sq (t : Tx K mg) (H : Hp) : SqT K H (dflC K) [] := by
  obtain ⟨dd, n, sl, e⟩ := t.dfl
  exact .inr ⟨_, #[], n, e, rfl, rfl, Nat.zero_le _, .nil⟩
theorem q_enum0 {te : TE} {tz : TS} {D : Ends} {σ : L2.St} {H : Hp} {a : Addr} (h : Ev te σ H (.ref a)) (hq : ∀ H1, Ex H H1 → SqT K H1 a []) (k : ∀ H1, Ex H H1 → tz D σ H1) : tSeq (tEnum0 K te) tz D σ H := h H (Ex.refl H) _ fun H1 e1 => ⟨a, rfl, hq H1 e1, k H1 e1⟩
theorem el_list1T {te : TE} {σ : L2.St} {H : Hp} {p : Addr} {xs : List V} (ha : Ev te σ H (.ref p)) (h : ∀ H1, Ex H H1 → SqT K H1 p xs) : EvL (tCB (fun ys H Q => ∃ p xs, ys = [.ref p] ∧ (SqL K H p xs ∨ SqT K H p xs) ∧ ∀ l, H l = none → Q (.ref l) (upd H l (.lst xs))) (tCons te tNil)) σ H xs := fun H1 e Q q =>
  ha H1 e _ fun H2 e2 => ⟨p, xs, rfl, .inr (h H2 (e.trans e2)), fun l hl => q l _ (fresh_back e2 hl) (e2.trans (Ex.new hl)) upd_same⟩
theorem ok_CaInit0 (t : Tx K mg) : ∃ fd ds, FnOk P w K mg base CX0 6 (He.ma K (He.ga K "Calendar") "__init__") fd p_CaInit (spCaInit0 K) ∧ Vals [V.ref (dflC K)] ds ∧ Binds K fd p_CaInit ds := by
  have G1 := (ok_islist (P := P) (w := w) (base := base) t).mono (show 1 ≤ 5 by decide)
  have G2 := (ok_isname (P := P) (w := w) (base := base) t).mono (show 1 ≤ 5 by decide)
  obtain ⟨fd, F⟩ := t.def_CaInit
  have hbd := F.binds1 (ps := p_CaInit) 2 0 (List.cons_ne_nil _ _) rfl (fun T kV doc pm an cdv ct us its hl hi => match us, its, hl, hi with | [_, _], [_], _, _ => ⟨_, rfl, rfl⟩)
  obtain ⟨ds, hv, hb⟩ := hbd
  refine ⟨fd, ds, F.ok sc_CaInit (fun vs H Q E h => ?_) (fun cdv A outer s H vs Q E hr h => ?_), hv, hb⟩
  · obtain ⟨H0, a, dx, m, rfl, _⟩ := h
    rfl
  · obtain ⟨H0, a, dx, m, rfl, e0, ha0, ha, hm, q⟩ := h
    obtain ⟨u1, hu1⟩ := t.mostM
    obtain ⟨u2, hu2⟩ := t.mostC
    refine ⟨_, PSs.nox (pss_cons (ps_if (pt_not (pt_val (pe_fn G1 hr t.g_islist (pa_cons (pv 1) pa_nil)))) pss_never pss_nil)
      (pss_cons (ps_for PassesOwn.never rfl (pi_enum (by rfl) t.f_enumerate (pa_cons (pv 1) pa_nil)) (pg_tup rfl (pgs_cons (pg_name (i := 3) sc_CaInit.nd rfl (Or.inl rfl)) (pgs_cons (pg_name (i := 4) sc_CaInit.nd rfl (Or.inl rfl)) pgs_nil))) pss_never)
      (pss_cons (ps_fld (pv 0) (pe_callB cr_sortedS (by rfl) t.f_sorted boot_sorted' (pa_cons (pv 1) pa_nil)) rfl)
      (pss_cons (ps_if (pt_not (pt_val (pe_fn G1 hr t.g_islist (pa_cons (pv 2) pa_nil)))) pss_never pss_nil)
      (pss_cons (ps_enum0 t rfl (pv 2))
      (pss_cons (ps_fld (pv 0) (pe_callTy call_list_of (by rfl) t.f_list boot_list' (pa_cons (pv 2) pa_nil)) rfl)
      (pss_cons (ps_if (pt_cmpR op_gt (pe_callB call_len_seq (by rfl) t.f_len boot_len' (pa_cons (pe_fld (pv 0) rfl) pa_nil)) (pe_con (pv 0) rfl) (nomark _)) pss_never pss_nil)
      (pss_one (ps_if (pt_cmpR op_gt (pe_callB call_len_seq (by rfl) t.f_len boot_len' (pa_cons (pe_fld (pv 0) rfl) pa_nil)) (pe_con (pv 0) rfl) (nomark _)) pss_never pss_nil))))))))), ?_⟩
    refine q_when (b := false) (et_is (et_not (et_B (ev_call (z := .bl true) (ea_cons (ev_var rfl) ea_nil) (fun H2 e2 Q q E => ⟨.ref m, rfl, .inl ⟨m, [], rfl, (e0.trans e2) _ _ hm⟩, q⟩)))) rfl) (fun e => nomatch e) (fun _ H1 e1 => ?_)
    have x1 := e0.trans e1
    refine q_forE (xs := []) (ea_cons (ev_var rfl) ea_nil) (sq_of (x1 _ _ hm)) (fun i σ' H' => Ex H1 H' ∧ σ' = [some (.ref a), some (.ref m), some (.ref (dflC K)), none, none, none]) (fun H2 e2 => ⟨e2, rfl⟩) (fun i σ' H' _ p => sq_of (p.1 _ _ (x1 _ _ hm))) (fun i x T σ' H' hi => nomatch hi) ?_
    rintro σ' H' ⟨e2, rfl⟩
    have ha' : H' a = some (.ins (He.ga K "Calendar") dx []) := e2 _ _ (e1 _ _ ha)
    have x2 := x1.trans e2
    refine q_fldL (ev_sorted (xs := []) (ys := []) (ev_var rfl) (x2 _ _ hm) (by decide) (fun zs p1 p2 => List.Perm.eq_nil p1)) (ev_var rfl) ha' t.c_Calendar t.a_Calendar_ownmoments (by show 0 < 1000; decide) (fun m1 H3 hm1 e3 hM => ?_)
    have x3 : Ex H0 (upd H3 a (.ins (He.ga K "Calendar") dx (putF "own_moments" (.ref m1) []))) := (x2.trans e3).mut ha0
    have hma : m1 ≠ a := fun e => by
      rw [e, ha'] at hm1
      cases hm1
    generalize hH4 : upd H3 a (.ins (He.ga K "Calendar") dx (putF "own_moments" (.ref m1) [])) = H4 at x3 ⊢
    have ha4 : H4 a = some (.ins (He.ga K "Calendar") dx (putF "own_moments" (.ref m1) [])) := by rw [← hH4, upd_same]
    have hM4 : H4 m1 = some (.lst []) := by rw [← hH4, upd_ne hma]; exact hM
    refine q_when (b := false) (et_is (et_not (et_B (ev_call (z := .bl true) (ea_cons (ev_var rfl) ea_nil) (fun H2 e2 Q q E => ⟨.ref (dflC K), rfl, .inr (let ⟨dd, n, sl, e⟩ := t.dfl; ⟨_, _, rfl, e, rfl⟩), q⟩)))) rfl) (fun e => nomatch e) (fun _ H5 e5 => ?_)
    refine q_enum0 (ev_var rfl) (fun H1 _ => dfl_sq t H1) (fun H6 e6 => ?_)
    have x6 := (x3.trans e5).trans e6
    have ha6 := (e5.trans e6) _ _ ha4
    refine q_fldL (el_list1T (ev_var rfl) (fun H1 _ => dfl_sq t H1)) (ev_var rfl) ha6 t.c_Calendar t.a_Calendar_ownclauses (by show 1 < 1000; decide) (fun c1 H7 hc1 e7 hC => ?_)
    have x7 : Ex H0 (upd H7 a (.ins (He.ga K "Calendar") dx (caF m1 c1))) := (x6.trans e7).mut ha0
    have hca : c1 ≠ a := fun e => by
      rw [e, ha6] at hc1
      cases hc1
    show _
    generalize hH8 : upd H7 a (.ins (He.ga K "Calendar") dx (putF "own_clauses" (.ref c1) (putF "own_moments" (.ref m1) []))) = H8
    have x8 : Ex H0 H8 := by rw [← hH8]; exact x7
    have ha8 : H8 a = some (.ins (He.ga K "Calendar") dx (caF m1 c1)) := by rw [← hH8, upd_same]; rfl
    have hM8 : H8 m1 = some (.lst []) := by rw [← hH8, upd_ne hma]; exact e7 _ _ ((e5.trans e6) _ _ hM4)
    have hC8 : H8 c1 = some (.lst []) := by rw [← hH8, upd_ne hca]; exact hC
    have cal : CalAt K H8 a [] [] := ⟨dx, m1, c1, ha8, hM8, [], hC8, .nil⟩
    refine q_when (b := false) (et_is (et_test (ev_op (ev_len (ev_fld (ev_var rfl) ha8 t.c_Calendar t.a_Calendar_ownmoments (caF_m _ _)) (sq_of hM8)) (ev_con (ev_var rfl) ha8 t.c_Calendar hu1 (caF_no _ _ (by decide +kernel) (by decide +kernel))) (rv_I0 (g := fun i j => .bl (decide (j < i)))))) (by decide)) (fun e => nomatch e) (fun _ H9 e9 => ?_)
    have ha9 := e9 _ _ ha8
    refine s_when (b := false) (et_is (et_test (ev_op (ev_len (ev_fld (ev_var rfl) ha9 t.c_Calendar t.a_Calendar_ownclauses (caF_c _ _)) (sq_of (e9 _ _ hC8))) (ev_con (ev_var rfl) ha9 t.c_Calendar hu2 (caF_no _ _ (by decide +kernel) (by decide +kernel))) (rv_I0 (g := fun i j => .bl (decide (j < i)))))) (by decide)) (fun e => nomatch e) (fun _ H10 e10 => ?_)
    exact q _ ((x8.trans e9).trans e10) (cal.ex (e9.trans e10))
end
/-! Calendar(..), both -/
section
variable {X : Cx} {pos p : Pos} {e : Expr} {es : List Expr} {ta : TA}
theorem pe_cal (t : Tx X.K X.mg) (hr : Room 7 X.A) (ha : PA X (e :: es) ta) (hg : Gl X "Calendar" := by rfl) (he : starEach (e :: es) X.env = (false, eval e X.env) :: starEach es X.env := by rfl) (hpl : (backTo pos (starEach es X.env)).any (·.1) = false := by rfl) : PE X (.Call (.Name "Calendar" p) (e :: es) [] pos) (tMake (He.ga X.K "Calendar") (spCaInit X.K) [] E0 ta) := by
  obtain ⟨fd, F1, F2⟩ := ok_CaInit (P := X.prog) (w := X.w) (base := X.base) t
  exact pe_make t.mk_Calendar F1 hr hg t.g_Calendar F2 .nil pass0 ha (by decide) he hpl
theorem pe_cal0 (t : Tx X.K X.mg) (hr : Room 7 X.A) (ha : PA X (e :: es) ta) (hg : Gl X "Calendar" := by rfl) (he : starEach (e :: es) X.env = (false, eval e X.env) :: starEach es X.env := by rfl) (hpl : (backTo pos (starEach es X.env)).any (·.1) = false := by rfl) : PE X (.Call (.Name "Calendar" p) (e :: es) [] pos) (tMake (He.ga X.K "Calendar") (spCaInit0 X.K) [.ref (dflC X.K)] E0 ta) := by
  obtain ⟨fd, ds, F1, F2, F3⟩ := ok_CaInit0 (P := X.prog) (w := X.w) (base := X.base) t
  exact pe_make t.mk_Calendar F1 hr hg t.g_Calendar F3 F2 pass0 ha (by decide) he hpl
end
end LdP
/-! # LdPE -/
/-! _law_right: parts. -/
namespace LdP
open PySem PySem.Spec PyProof.Rows L2 Evl LiI
section
variable {X : Cx} {pins : List (Addr × Obj)} {s : Shared} {σ : L2.St} {H : Hp} {x : Expr} {es : List Expr} {ta : TA} {p pos p' pos' : Pos}
/-- all_dates(..) with any arguments -/
theorem ad_evalP (t : Tx X.K X.mg) (hr : Room 1 X.A) (ha : PA X (x :: es) ta) (I : Inv X pins σ H s) {Ψ : List V → Hp → Prop} (h : ta σ H Ψ) (hΨ : ∀ vs H1, Ψ vs H1 → ∃ a e l, vs = [V.ref a, .int e, .int l])
    (hg : Gl X "all_dates" := by rfl) (he : starEach (x :: es) X.env = (false, eval x X.env) :: starEach es X.env := by rfl) (hpl : (backTo pos (starEach es X.env)).any (·.1) = false := by rfl) :
    wpAny (model X.prog X.w) X.A (eval (.Call (.Name "all_dates" p) (x :: es) [] pos) X.env) (fun u s' => ∃ ga cd oL go sc H1 a e l, u = .ref ga ∧ Inv X pins σ H1 sc ∧ AMade X.K a e l cd sc s' oL go ga ∧ Ψ [.ref a, .int e, .int l] H1) X.xe s := by
  obtain ⟨fd, F⟩ := t.def_alldates
  refine wpAny_Call_Name_kw (ld_glob I hg t.g_alldates (PySem.W.callWith_K (h₀ := X.base) I.ok.mod.kin F.kp (thn (ha.run pos pins s σ H _ I h) fun us s1 ⟨vs, H1, I1, r, q⟩ => ⟨I1.kIn, ?_⟩) he hpl) (by decide))
  obtain ⟨a, e, l, ev⟩ := hΨ _ _ q
  subst ev
  have hb : BindsTo s1 fd ⟨us, []⟩ (p_alldates.zip us) := by
    cases r with
    | cons r1 r =>
    cases r with
    | cons r2 r =>
    cases r with
    | cons r3 r =>
    cases r with
    | nil => exact ad_pos F s1 _ _ _
  refine wpAny_call (codeAny_mono (call_ad hr I1.env0 F hb r) fun r' s' ⟨ga, cd, oL, go, er, m⟩ => ?_)
  subst er
  exact ⟨ga, cd, oL, go, s1, H1, a, e, l, rfl, I1, m, q⟩
theorem pe_listAdP (t : Tx X.K X.mg) (hr : Room 4 X.A) (ha : PA X (x :: es) ta) (hgl : Gl X "list" := by rfl) (hg : Gl X "all_dates" := by rfl)
    (he : starEach (x :: es) X.env = (false, eval x X.env) :: starEach es X.env := by rfl) (hpl : (backTo pos (starEach es X.env)).any (·.1) = false := by rfl)
    (he1 : starEach [.Call (.Name "all_dates" p) (x :: es) [] pos] X.env = [(false, eval (.Call (.Name "all_dates" p) (x :: es) [] pos) X.env)] := by rfl) :
    PE X (.Call (.Name "list" p') [.Call (.Name "all_dates" p) (x :: es) [] pos] [] pos') (tLAd X.K ta) := by
  refine ⟨fun pins s σ H Q I h => list_eval I t.f_list hgl he1 ?_⟩
  refine wpAny_mono (ad_evalP t (hr.mono (by decide)) ha I h (fun vs H1 ⟨a, e, l, sl, cs, ev, _⟩ => ⟨a, e, l, ev⟩) hg he hpl) (fun u s1 ⟨ga, cd, oL, go, sc, H1, a, e, l, eu, I1, m, q⟩ => ?_) fun _ _ z => z
  obtain ⟨a', e', l', sl, cs, ev, h1, q⟩ := q
  cases ev
  subst eu
  exact listAd_end t hr I1 m h1 q
end
section
variable {K : PySem.W.Frag} {σ : L2.St} {H : Hp} {ta tb te : TE} {tr : TA}
theorem en_fresh {R : Addr → Hp → Prop} (h : EvN te σ H R) : EvN te σ H (fun p H2 => R p H2 ∧ H p = none) := fun H1 e Q q => h H1 e Q fun p H2 a b c => q p H2 a b ⟨c, fresh_back e a⟩
/-- a call whose value is known, its arguments by a property -/
theorem ev_callR {sp : Sp} {E : XK} {R : List V → Hp → Prop} {z : V} (h : EvAR tr σ H R) (k : ∀ vs H1, Ex H H1 → R vs H1 → ∀ Q : VK, (∀ H2, Ex H1 H2 → Q z H2) → sp (vs ++ []) H1 Q E) : Ev (tCall sp [] E tr) σ H z := fun H1 e Q q =>
  h H1 e _ fun vs H2 e2 r => k vs H2 (e.trans e2) r Q fun H3 e3 => q H3 (e2.trans e3)
/-- lists of empty dicts by == -/
theorem ev_eqE {n : Nat} (h : EvN ta σ H (fun p H2 => ∃ as : List Addr, H2 p = some (.lst (as.map V.ref)) ∧ as.length = n ∧ ∀ a ∈ as, H2 a = some (.dK [])))
    (h2 : ∀ H1, Ex H H1 → EvN tb σ H1 (fun p H2 => ∃ bs : List Addr, H2 p = some (.lst (bs.map V.ref)) ∧ bs.length = n ∧ ∀ b ∈ bs, H2 b = some (.dK []) ∧ H1 b = none)) : Ev (tOp rEqE ta tb) σ H (.bl true) := fun H1 e Q q =>
  h H1 e _ fun p H2 hp e2 ⟨as, ha, la, hA⟩ => h2 H2 (e.trans e2) H2 (Ex.refl _) _ fun p2 H3 hp2 e3 ⟨bs, hb, lb, hB⟩ => ⟨p, p2, as, bs, rfl, rfl, e3 _ _ ha, hb, la.trans lb.symm, fun a h => e3 _ _ (hA a h), fun b h => (hB b h).1, (fun a h h' => absurd ((hB a h').2.symm.trans (hA a h)) nofun), q H3 (e2.trans e3)⟩
theorem en_make1 {C : Addr} {sp : Sp} {E : XK} {ds : List V} {R : List V → Hp → Prop} {R' : Addr → Hp → Prop} (h : EvAR tr σ H R)
    (k : ∀ vs H1 x dx, Ex H H1 → R vs H1 → H1 x = none → H1 dx = none → dx ≠ x → ∀ Q : VK, (∀ H2, Ex H1 H2 → R' x H2 → Q .non H2) → sp (.ref x :: (vs ++ ds)) (upd (upd H1 dx (.own x)) x (.ins C dx [])) Q E) : EvN (tMake C sp ds E tr) σ H R' := fun H1 e Q q =>
  h H1 e _ fun vs H2 e2 r x dx hx hdx hne => k vs H2 x dx (e.trans e2) r hx hdx hne _ fun H3 e3 r' => ⟨rfl, q x H3 (fresh_back e2 hx) (e2.trans e3) r'⟩
theorem ex_make {H1 : Hp} {x dx : Addr} {o o' : HO} (hx : H1 x = none) (hdx : H1 dx = none) (hne : dx ≠ x) : Ex H1 (upd (upd H1 dx o) x o') := (Ex.new hdx).trans (Ex.new (by rw [upd_ne (Ne.symm hne)]; exact hx))
/-- Calendar(labels, clauses) -/
theorem en_cal {labs sl : List Str} {cs : List Cl} {R : List V → Hp → Prop} (h : EvAR tr σ H R) (hR : ∀ vs H1, R vs H1 → ∃ m c : Addr, vs = [.ref m, .ref c] ∧ H1 m = some (.lst (labs.map V.str)) ∧ ClsAt H1 c cs) (h1 : SlW labs) (h2 : labs.Nodup) (h3 : labs.length ≤ 8) (h4 : Srt labs sl) (h5 : ∀ x ∈ cs, ClW labs x) (h6 : cs.Nodup) (h7 : cs.length ≤ 40) :
    EvN (tMake (He.ga K "Calendar") (spCaInit K) [] E0 tr) σ H (fun p H2 => CalAt K H2 p sl cs) := en_make1 h fun vs H1 x dx e1 r hx hdx hne Q q => by
  obtain ⟨m, c, ev, hm, ts, hc1, hc2⟩ := hR vs H1 r
  subst ev
  exact ⟨H1, x, dx, m, c, labs, sl, ts, cs, rfl, ex_make hx hdx hne, hx, upd_same, hm, hc1, hc2, h1, h2, h3, h4, h5, h6, h7, fun H2 e2 hc => q H2 e2 hc⟩
/-- Calendar([]) -/
theorem en_cal0 {te : TE} (h : EvL te σ H []) : EvN (tMake (He.ga K "Calendar") (spCaInit0 K) [.ref (dflC K)] E0 (tCons te tNil)) σ H (fun p H2 => CalAt K H2 p [] []) := en_make1 (R := fun vs H1 => ∃ m : Addr, vs = [.ref m] ∧ H1 m = some (.lst [])) (ear_consN (en_L h) fun m H1 e1 hm => ear_nil fun H2 e2 => ⟨m, rfl, e2 _ _ hm⟩) fun vs H1 x dx e1 r hx hdx hne Q q => by
  obtain ⟨m, ev, hm⟩ := r
  subst ev
  exact ⟨H1, x, dx, m, rfl, ex_make hx hdx hne, hx, upd_same, hm, fun H2 e2 hc => q H2 e2 hc⟩
/-- list(range(a, b)) -/
theorem el_listRg {a b : Int} (ha : Ev ta σ H (.int a)) (hb : Ev tb σ H (.int b)) (h : RgOk a b) : EvL (tLstRg (tRg2 ta tb)) σ H (rgV a b) := fun H1 e Q q =>
  ha H1 e _ fun H2 e2 => hb H2 (e.trans e2) _ fun H3 e3 => ⟨a, b, rfl, rfl, h, fun p hp => q p _ (fresh_back (e2.trans e3) hp) ((e2.trans e3).trans (Ex.new hp)) upd_same⟩
/-- min, max of a new list of ints -/
theorem evR_min {ns : List Int} (h : EvL te σ H (ns.map V.int)) (h0 : 0 < ns.length) : EvR (tCB (rMin K) (tCons te tNil)) σ H (fun v _ => ∃ m, m ∈ ns ∧ v = .int m) := fun H1 e Q q =>
  h H1 e _ fun p H2 hp e2 hx => ⟨p, ns, rfl, sq_of hx, h0, fun m hm _ => q _ H2 e2 ⟨m, hm, rfl⟩⟩
theorem evR_max {ns : List Int} (h : EvL te σ H (ns.map V.int)) (h0 : 0 < ns.length) : EvR (tCB (rMax K) (tCons te tNil)) σ H (fun v _ => ∃ m, m ∈ ns ∧ v = .int m) := fun H1 e Q q =>
  h H1 e _ fun p H2 hp e2 hx => ⟨p, ns, rfl, sq_of hx, h0, fun m hm _ => q _ H2 e2 ⟨m, hm, rfl⟩⟩
end
theorem dv_bd {d : Ld.Dt Str} (h : ∀ x ∈ d, -4 ≤ x.2 ∧ x.2 ≤ 6) (z : Str) : -4 ≤ Ld.dv d z ∧ Ld.dv d z ≤ 6 := by
  induction d with
  | nil => exact ⟨show (-4 : Int) ≤ 0 by decide, show (0 : Int) ≤ 6 by decide⟩
  | cons x r ih =>
    obtain ⟨k, n⟩ := x
    show -4 ≤ (if z = k then n else Ld.dv r z) ∧ (if z = k then n else Ld.dv r z) ≤ 6
    split
    · exact h (k, n) (by simp)
    · exact ih fun x hx => h x (by simp [hx])
theorem en_lAdR {K : PySem.W.Frag} {σ : L2.St} {H : Hp} {ta : TA} {e l : Int} {sl : List Str} {cs : List Cl} (h : EvAR ta σ H (fun vs H1 => ∃ a, vs = [.ref a, .int e, .int l] ∧ AdArg K H1 a e l sl cs)) : EvN (tLAd K ta) σ H (fun p H2 => ListO obD H2 p (adAll e l sl cs)) := fun H1 x Q q =>
  h H1 x _ fun vs H2 x2 ⟨a, ev, ag⟩ => ⟨a, e, l, sl, cs, ev, ag, fun S H3 hS x3 hL => q S H3 (fresh_back x2 hS) (x2.trans x3) hL⟩
theorem allO_empty {H : Hp} : ∀ {as : List Addr} {ds : List (Ld.Dt Str)}, AllO obD H as ds → (∀ d ∈ ds, d = []) → ∀ a ∈ as, H a = some (.dK [])
  | _, _, .nil, _, a, ha => absurd ha List.not_mem_nil
  | a :: as, d :: ds, .cons h t, hd, b, hb => by
    rcases (List.mem_cons.mp hb) with rfl | hb
    · rw [hd d (by simp)] at h
      exact h
    · exact allO_empty t (fun x hx => hd x (by simp [hx])) b hb
def tornC : List Cl := [⟨"a", day, 1⟩, ⟨day, "a", -2⟩]
theorem torn_none : adAll (-4) 6 ["a"] tornC = [] := by decide +kernel
theorem none_one : adAll 5 5 [] [] = [[]] := by decide +kernel
end LdP
/-! # LdPF -/
/-! _law_right. -/
namespace LdP
open PySem PySem.Spec PyProof.Rows L2 Evl LiI
section
variable {base : Heap} {mg : Str → Option Value} {K : PySem.W.Frag} {w : World} {P : Program}
def spLright : Sp := fun vs H Q _ => ∃ p : Addr, vs = [.ref p] ∧ H p = some (potO p) ∧ ∀ H', Ex H H' → Q (.bl true) H'
theorem ok_Lright (t : Tx K mg) : OkQ P w K mg base 10 (He.ga K "_law_right") p_Lright spLright := by
  obtain ⟨fd, F⟩ := t.def_Lright
  have G1 : Ok P w K mg base 9 _ _ _ := (ok_Ldraft (P := P) (w := w) (base := base) t).mono (by decide)
  have G2 : Ok P w K mg base 9 _ _ _ := (ok_Lall (P := P) (w := w) (base := base) t).mono (by decide)
  have G3 : OkQ P w K mg base 9 _ _ _ := (ok_Lgone (P := P) (w := w) (base := base) t).mono (by decide)
  have G4 : Ok P w K mg base 9 _ _ _ := (ok_Ldraw (P := P) (w := w) (base := base) t).mono (by decide)
  have G5 : Ok P w K mg base 9 _ _ _ := (ok_Lpick (P := P) (w := w) (base := base) t).mono (by decide)
  have G6 : Ok P w K mg base 9 _ _ _ := (ok_Lbetween (P := P) (w := w) (base := base) t).mono (by decide)
  have G7 := ok_Lnum (P := P) (w := w) (base := base) t
  refine okq_of F sc_Lright (fun _ _ _ _ _ _ us hl => match us, hl with | [_], _ => rfl) (fun vs H Q E h => ?_) (fun cdv A outer s H vs Q E hgd hr h => ?_)
  · obtain ⟨p, rfl, _⟩ := h
    rfl
  · obtain ⟨p, rfl, hp, q⟩ := h
    have hr7 := hr.mono (show 7 ≤ 9 by decide)
    have hr4 := hr.mono (show 4 ≤ 9 by decide)
    refine ⟨_, pss_cons (ps_set (i := 1) sc_Lright.nd rfl (Or.inl rfl) (pe_fn G1 hr t.g_lawdraft (pa_cons (pv 0) pa_nil)))
      (pss_cons (ps_par (i := 2) (j := 3) rfl sc_Lright.nd rfl rfl (by decide) rfl rfl (pa_cons (pe_cal t hr7 (pa_cons (pe_ix ix_tup (pv 1) pe_int (fun _ _ => rfl)) (pa_cons (pe_ix ix_tup (pv 1) pe_int (fun _ _ => rfl)) pa_nil)))
          (pa_cons (pe_fn G2 hr t.g_lawall (pa_cons (pe_ix ix_tup (pv 1) pe_int (fun _ _ => rfl)) (pa_cons (pe_ix ix_tup (pv 1) pe_int (fun _ _ => rfl)) (pa_cons (pe_un un_neg pe_int) (pa_cons pe_int pa_nil))))) pa_nil)) (by rfl))
      (pss_cons (ps_if (PW.pt (pw_or (pt_not (pt_val (pe_fq G3 hgd hr t.g_lawgonethrough (pa_cons (pv 2) (pa_cons (pv 1) (pa_cons (pe_un un_neg pe_int) (pa_cons pe_int pa_nil)))))))
          (pw_or1 (pt_not (pt_val (pe_fq G3 hgd hr t.g_lawgonethrough (pa_cons (pv 2) (pa_cons (pv 1) (pa_cons (pe_op op_sub (pe_fn G4 hr t.g_lawdraw (pa_cons (pv 0) (pa_cons pe_int pa_nil))) pe_int) (pa_cons pe_int pa_nil)))))))))) (pss_one (ps_ret pe_bl)) pss_nil)
      (pss_cons (ps_for PassesOwn.never rfl (pi_range1 (by rfl) t.f_range (pa_cons pe_int pa_nil)) (pg_name (i := 4) sc_Lright.nd rfl (Or.inl rfl))
          (pss_cons (ps_set (i := 5) sc_Lright.nd rfl (Or.inl rfl) (pe_op op_cat (pe_ix ix_tup (pv 1) pe_int (fun _ _ => rfl)) (pe_lst (pa_cons pe_str pa_nil))))
          (pss_cons (ps_asg (pe_tup (pa_cons (pe_tup (pa_cons (pe_fn G5 hr t.g_lawpick (pa_cons (pv 0) (pa_cons (pv 5) pa_nil))) (pa_cons (pe_op op_sub (pe_fn G4 hr t.g_lawdraw (pa_cons (pv 0) (pa_cons pe_int pa_nil))) pe_int) pa_nil)))
              (pa_cons (pe_tup (pa_cons (pe_fn G5 hr t.g_lawpick (pa_cons (pv 0) (pa_cons (pv 5) pa_nil))) (pa_cons (pe_op op_sub (pe_fn G4 hr t.g_lawdraw (pa_cons (pv 0) (pa_cons pe_int pa_nil))) pe_int) pa_nil))) pa_nil)))
              (pg_tup rfl (pgs_cons (pg_name (i := 6) sc_Lright.nd rfl (Or.inr rfl)) (pgs_cons (pg_name (i := 7) sc_Lright.nd rfl (Or.inr rfl)) pgs_nil))))
          (pss_cons (ps_set (i := 8) sc_Lright.nd rfl (Or.inl rfl) (pe_callB (cr_min rfl) (by rfl) t.f_min boot_min' (pa_cons (pe_lc (own := [("_law_near", 12)]) (g := gName 12) (tt := tYes) (te := tCall (spLbetween K) [] E0 (tCons (tVar 12) (tCons (tVar 6) (tCons (tVar 7) tNil)))) rfl sc_Lright.nd (pi_list (pv 3)) (blkOk_by (own := [("_law_near", 12)]) (N := n_Lright) (sc := defScope s_Lright) (by decide +kernel))
              (fun _ _ _ _ _ => pg_name (i := 12) sc_Lright.nd rfl (Or.inl rfl)) (fun _ _ _ _ _ => pts_nil) (fun _ _ _ _ _ => pe_fn G6 hr t.g_lawbetween (pa_cons (pv 12) (pa_cons (pv 6) (pa_cons (pv 7) pa_nil))))) pa_nil)))
          (pss_cons (ps_set (i := 9) sc_Lright.nd rfl (Or.inl rfl) (pe_callB (cr_max rfl) (by rfl) t.f_max boot_max' (pa_cons (pe_lc (own := [("_law_near", 12)]) (g := gName 12) (tt := tYes) (te := tCall (spLbetween K) [] E0 (tCons (tVar 12) (tCons (tVar 6) (tCons (tVar 7) tNil)))) rfl sc_Lright.nd (pi_list (pv 3)) (blkOk_by (own := [("_law_near", 12)]) (N := n_Lright) (sc := defScope s_Lright) (by decide +kernel))
              (fun _ _ _ _ _ => pg_name (i := 12) sc_Lright.nd rfl (Or.inl rfl)) (fun _ _ _ _ _ => pts_nil) (fun _ _ _ _ _ => pe_fn G6 hr t.g_lawbetween (pa_cons (pv 12) (pa_cons (pv 6) (pa_cons (pv 7) pa_nil))))) pa_nil)))
          (pss_one (ps_for PassesOwn.never rfl (pi_list (pe_op op_cat (pe_listRg rfl (by rfl) t.f_list (prg_2 (by rfl) t.f_range (pe_op op_sub (pv 8) pe_int) (pe_op op_add (pv 9) pe_int))) (pe_lst (pa_cons (pe_op op_sub pe_int (pe_op op_pow pe_int pe_int)) pa_nil)))) (pg_name (i := 10) sc_Lright.nd rfl (Or.inl rfl))
            (pss_one (ps_if (pt_not (pt_val (pe_fq G7 hgd hr t.g_lawnumberright (pa_cons (pv 1) (pa_cons (pv 2) (pa_cons (pv 3) (pa_cons (pv 6) (pa_cons (pv 7) (pa_cons (pv 10) pa_nil))))))))) (pss_one (ps_ret pe_bl)) pss_nil)))))))))
      (pss_cons (ps_set (i := 11) sc_Lright.nd rfl (Or.inl rfl) (pe_cal t hr7 (pa_cons (pe_lst (pa_cons pe_str pa_nil)) (pa_cons (pe_lst (pa_cons (pe_tup (pa_cons pe_str (pa_cons pe_str (pa_cons pe_int pa_nil)))) (pa_cons (pe_tup (pa_cons pe_str (pa_cons pe_str (pa_cons (pe_un un_neg pe_int) pa_nil)))) pa_nil))) pa_nil))))
      (pss_one (ps_ret (pe_and (pe_cmpR (op_eqE (hu64 hr)) (pe_listAdP t hr4 (pa_cons (pv 11) (pa_cons (pe_un un_neg pe_int) (pa_cons pe_int pa_nil)))) (pe_lst pa_nil) (nomark _))
          (pe_one (pe_cmpR (op_eqE (hu64 hr)) (pe_listAdP t hr4 (pa_cons (pe_cal0 t hr7 (pa_cons (pe_lst pa_nil) pa_nil)) (pa_cons pe_int (pa_cons pe_int pa_nil)))) (pe_lst (pa_cons pe_dnewK pa_nil)) (nomark _)))))))))), ?_⟩
    -- draft
    refine q_asgN (R := fun T H2 => ∃ n cs, DrAt H2 T n cs ∧ Drf n 4 cs) (en_call (ear_of (ea_cons (ev_var rfl) ea_nil)) fun vs H1 e1 r Q1 q1 => by
      subst r
      exact ⟨p, rfl, e1 _ _ hp, fun T la ca n cs H2 hT e2 hT' hla hca d => q1 T H2 hT e2 ⟨n, cs, ⟨la, ca, hT', hla, hca⟩, d⟩⟩) fun T H1 _ e1 ⟨n, cs, hdr, df⟩ => ?_
    obtain ⟨la, ca, hT, hla, hca⟩ := id hdr
    have hn := df.n3
    have C := df.cal
    have w := df.calW (Nat.le_refl _)
    have nds := sls_nd hn
    have al : (adAll (-4) 6 (sls n) cs).length ≤ 4096 := ad_len hn (by decide) (by decide)
    have keys : ∀ d ∈ adAll (-4) 6 (sls n) cs, d.map (·.1) = sls n := fun d hd => ((Ld.mem_allD _ _ _ rfl).mp (List.mem_filter.mp hd).1).1
    have e0 : Ev (tOp (rIxT K) (tVar 1) (tC (.int 0))) [some (.ref p), some (.ref T), none, none, none, none, none, none, none, none, none, none, none] H1 (.ref la) := ev_op (ev_var rfl) ev_c (rv_ixT (st_of hT) rfl)
    have e1' : Ev (tOp (rIxT K) (tVar 1) (tC (.int 1))) [some (.ref p), some (.ref T), none, none, none, none, none, none, none, none, none, none, none] H1 (.ref ca) := ev_op (ev_var rfl) ev_c (rv_ixT (st_of hT) rfl)
    -- chart, whole
    refine q_par (R := fun vs H2 => ∃ a wl : Addr, vs = [.ref a, .ref wl] ∧ CalAt K H2 a (sls n) cs ∧ ListO obD H2 wl (adAll (-4) 6 (sls n) cs))
      (ear_consN (en_cal (labs := lbs n) (sl := sls n) (cs := cs) (R := fun vs H2 => vs = [.ref la, .ref ca] ∧ H2 la = some (.lst ((lbs n).map V.str)) ∧ ClsAt H2 ca cs) (ear_cons e0 fun H2 x2 => ear_cons (e1'.mono x2) fun H3 x3 => ear_nil fun H4 x4 => ⟨rfl, ((x2.trans x3).trans x4) _ _ hla, hca.ex ((x2.trans x3).trans x4)⟩) (fun vs H2 ⟨h0, h1, h2⟩ => ⟨la, ca, h0, h1, h2⟩) (lbs_slw hn) (lbs_nd hn) (by rw [lbs_len hn]; omega) (lbs_srt hn) df.w df.nd w.c40) fun a H2 x2 hc =>
        ear_consN (en_all df (Nat.le_refl _) (e0.mono x2) (e1'.mono x2) (ev_un ev_c ru_neg) ev_c (x2 _ _ hla) (hca.ex x2) ⟨by decide, by decide, by decide⟩) fun wl H3 x3 hwl => ear_nil fun H4 x4 => ⟨a, wl, rfl, hc.ex (x3.trans x4), hwl.ex x4⟩) fun vs H2 e2 ⟨a, wl, ev, hc, hwl⟩ => ⟨_, _, ev, ?_⟩
    have x2 := e1.trans e2
    -- gone through
    refine q_when (b := false) (et_is (et_or (et_not (et_B (ev_callR (z := .bl true) (ear_of (ea_cons (ev_var rfl) (ea_cons (ev_var rfl) (ea_cons (ev_un ev_c ru_neg) (ea_cons ev_c ea_nil))))) fun vs H3 e3 r Q3 q3 => by
        subst r
        exact ⟨a, T, -4, 6, n, cs, rfl, hc.ex e3, hdr.ex (e2.trans e3), df, by decide, by decide, by decide, q3⟩))) fun _ => et_not (et_B (ev_callR (z := .bl true) (R := fun vs _ => ∃ e : Int, -3 ≤ e ∧ e ≤ 1 ∧ vs = [.ref a, .ref T, .int e, .int 2])
          (ear_cons (ev_var rfl) fun H3 e3 => ear_cons (ev_var rfl) fun H4 e4 => ear_consR (evR_subI (lo := 0) (hi := 5) (evR_draw (n := 5) (ev_var rfl) (((x2.trans e3).trans e4) _ _ hp) ev_c ⟨by decide, by decide⟩) fun _ _ => ev_c) fun v H5 e5 ⟨d, ev5, d0, d1⟩ => ear_cons ev_c fun H6 e6 => ear_nil fun H7 e7 => ⟨d, by omega, by omega, by rw [ev5]⟩) fun vs H3 e3 ⟨e, b0, b1, ev3⟩ Q3 q3 => by
        subst ev3
        exact ⟨a, T, e, 2, n, cs, rfl, hc.ex e3, hdr.ex (e2.trans e3), df, by omega, by omega, by decide, q3⟩))) rfl) (fun z => nomatch z) (fun _ H3 e3 => ?_)
    have x3 := x2.trans e3
    -- three turns
    refine q_forR1 (n := 3) (ea_cons ev_c ea_nil) ⟨by decide, by decide⟩ (fun i σ' H' => Ex H3 H' ∧ ∃ x4 x5 x6 x7 x8 x9 x10 : Option V, σ' = [some (.ref p), some (.ref T), some (.ref a), some (.ref wl), x4, x5, x6, x7, x8, x9, x10, none, none]) (fun H4 e4 => ⟨e4, none, none, none, none, none, none, none, rfl⟩) ?_ ?_
    · rintro turn σ' H' hturn ⟨e4, x4, x5, x6, x7, x8, x9, x10, rfl⟩
      have y4 := x3.trans e4
      have z4 := (e2.trans e3).trans e4
      -- places
      refine q_asgL (xs := (lbs n ++ [day]).map V.str) (by
        rw [List.map_append]
        exact el_cat (ev_op (ev_var rfl) ev_c (rv_ixT (st_of (z4 _ _ hT)) rfl)) (z4 _ _ hla) (el_lst (ea_cons ev_c ea_nil) (by show 1 ≤ 100000; decide)) (by rw [List.length_map, lbs_len hn]; show n + 1 ≤ 100000; omega)) fun pl H5 hpl e5 h5 => ?_
      have y5 := y4.trans e5
      have isstr : ∀ v, v ∈ (lbs n ++ [day]).map V.str → ∃ f, f ∈ sls n ++ [day] ∧ v = .str f := fun v hv => by
        obtain ⟨f, h1, h2⟩ := List.mem_map.mp hv
        exact ⟨f, sls_mem hn h1, h2.symm⟩
      have plen : 0 < ((lbs n ++ [day]).map V.str).length ∧ ((lbs n ++ [day]).map V.str).length < 1000 := by
        rw [List.length_map, List.length_append, lbs_len hn]
        show 0 < n + 1 ∧ n + 1 < 1000
        omega
      have pt : ∀ {σ : L2.St} {H6 : Hp}, σ[0]? = some (some (.ref p)) → σ[5]? = some (some (.ref pl)) → Ex H5 H6 → EvN (tTup (tCons (tCall spLpick [] E0 (tCons (tVar 0) (tCons (tVar 5) tNil))) (tCons (tOp (rI0 fun i j => .int (i - j)) (tCall spLdraw [] E0 (tCons (tVar 0) (tCons (tC (.int 9)) tNil))) (tC (.int 4))) tNil))) σ H6 (fun q H7 => ∃ vs, H7 q = some (.tup vs) ∧ ∃ f i, f ∈ sls n ++ [day] ∧ -4 ≤ i ∧ i ≤ 4 ∧ vs = [.str f, .int i]) := fun {σ H6} g0 g5 e6 =>
        en_tup (R := fun vs _ => ∃ f i, f ∈ sls n ++ [day] ∧ -4 ≤ i ∧ i ≤ 4 ∧ vs = [.str f, .int i]) (ear_consR (evR_pick (ev_var g0) ((y5.trans e6) _ _ hp) (ev_var g5) (e6 _ _ h5) plen) fun v H7 e7 hv => ear_consR (evR_subI (lo := 0) (hi := 9) (evR_draw (n := 9) (ev_var g0) (((y5.trans e6).trans e7) _ _ hp) ev_c ⟨by decide, by decide⟩) fun _ _ => ev_c) fun v2 H8 e8 ⟨d, ev8, d0, d1⟩ => ear_nil fun H9 e9 => by
          obtain ⟨f, hf, rfl⟩ := isstr v hv
          exact ⟨f, d, hf, by omega, by omega, by rw [ev8]⟩) (fun _ _ _ _ h => h) fun vs H7 ⟨f, i, _, _, _, h⟩ => by rw [h]; show 2 ≤ 100000; decide
      -- early, second
      refine q_any ((en_tup (R := fun vs H7 => ∃ (p1 p2 : Addr) (f g : Str) (i j : Int), vs = [.ref p1, .ref p2] ∧ PtAt H7 p1 f i ∧ PtAt H7 p2 g j ∧ f ∈ sls n ++ [day] ∧ g ∈ sls n ++ [day] ∧ (-4 ≤ i ∧ i ≤ 4) ∧ -4 ≤ j ∧ j ≤ 4)
        (ear_consN (pt rfl rfl (Ex.refl _)) fun p1 H6 e6 ⟨v1, g1, f, i, hf, i0, i1, ev1⟩ => ear_consN (pt rfl rfl e6) fun p2 H7 e7 ⟨v2, g2, g, j, hg, j0, j1, ev2⟩ => ear_nil fun H8 e8 => ⟨p1, p2, f, g, i, j, rfl, by rw [ev1] at g1; exact (e7.trans e8) _ _ g1, by rw [ev2] at g2; exact e8 _ _ g2, hf, hg, ⟨i0, i1⟩, j0, j1⟩)
        (fun vs H7 H8 e ⟨p1, p2, f, g, i, j, h0, h1, h2, h3⟩ => ⟨p1, p2, f, g, i, j, h0, e _ _ h1, e _ _ h2, h3⟩) (fun vs H7 ⟨p1, p2, f, g, i, j, h0, _⟩ => by rw [h0]; show 2 ≤ 100000; decide)) H5 (Ex.refl _) _ fun Tt H6 hTt e6 ⟨vs, h6, p1, p2, f, g, i, j, ev6, h1, h2, hf, hg, ⟨i0, i1⟩, j0, j1⟩ => ?_)
      subst ev6
      refine g_pair h6 ?_
      have y6 := y5.trans e6
      have w6 : Ex H2 H6 := ((e3.trans e4).trans e5).trans e6
      have dvb : ∀ d ∈ adAll (-4) 6 (sls n) cs, ∀ z, -4 ≤ Ld.dv d z ∧ Ld.dv d z ≤ 6 := fun d hd => dv_bd ((Ld.mem_allD _ _ _ rfl).mp (List.mem_filter.mp hd).1).2
      have nsb : ∀ m, m ∈ (adAll (-4) 6 (sls n) cs).map (fun d => btw d f g i j) → -100 ≤ m ∧ m ≤ 100 := fun m hm => by
        obtain ⟨d, hd, rfl⟩ := List.mem_map.mp hm
        have k1 := dvb d hd f
        have k2 := dvb d hd g
        unfold btw
        omega
      have ns0 : 0 < ((adAll (-4) 6 (sls n) cs).map (fun d => btw d f g i j)).length := by
        rw [List.length_map]
        exact List.length_pos_iff.mpr df.dt
      have lcb : ∀ {σ : L2.St} {H7 : Hp}, σ[3]? = some (some (.ref wl)) → (∀ x : V, ((wipe σ [12]).set 12 (some x))[12]? = some (some x) ∧ ((wipe σ [12]).set 12 (some x))[6]? = some (some (.ref p1)) ∧ ((wipe σ [12]).set 12 (some x))[7]? = some (some (.ref p2))) → (∀ x, wipe ((wipe σ [12]).set 12 (some x)) [12] = wipe σ [12]) → Ex H6 H7 →
          EvL (tLc (iList K (tVar 3)) (gName 12) tYes (tCall (spLbetween K) [] E0 (tCons (tVar 12) (tCons (tVar 6) (tCons (tVar 7) tNil)))) [12]) σ H7 (((adAll (-4) 6 (sls n) cs).map (fun d => btw d f g i j)).map V.int) := fun {σ H7} g3 gx gw e7 => by
        rw [List.map_map]
        exact el_lcM (fun d => V.int (btw d f g i j)) (ev_var g3) (hwl.ex (w6.trans e7)) (by omega) gw fun a' d H8 e8 ha' hd => ev_call (ea_cons (ev_var (gx _).1) (ea_cons (ev_var (gx _).2.1) (ea_cons (ev_var (gx _).2.2) ea_nil))) fun H9 e9 Q9 q9 E9 =>
          ⟨a', p1, p2, d, f, g, i, j, rfl, e9 _ _ ha', ((e7.trans e8).trans e9) _ _ h1, ((e7.trans e8).trans e9) _ _ h2, by rw [keys d hd]; exact nds, by
            have := congrArg List.length (keys d hd)
            rw [List.length_map] at this
            have := w.len
            omega, by rw [keys d hd]; exact hf, by rw [keys d hd]; exact hg, q9⟩
      -- low, high
      refine q_asgR (evR_min (lcb rfl (fun x => ⟨rfl, rfl, rfl⟩) (fun _ => rfl) (Ex.refl _)) ns0) fun v H7 e7 ⟨low, hlow, ev7⟩ => ?_
      subst ev7
      refine q_asgR (evR_max (lcb rfl (fun x => ⟨rfl, rfl, rfl⟩) (fun _ => rfl) e7) ns0) fun v H8 e8 ⟨high, hhigh, ev8⟩ => ?_
      subst ev8
      have b1 := nsb low hlow
      have b2 := nsb high hhigh
      have y8 := (y6.trans e7).trans e8
      have w8 := (w6.trans e7).trans e8
      -- many
      refine s_forNL (xs := rgV (low - 2) (high + 3) ++ [.int (0 - 10 ^ (20 : Int).toNat)]) (el_catN (el_listRg (ev_op (ev_var rfl) ev_c (rv_I0 (g := fun i j => .int (i - j)))) (ev_op (ev_var rfl) ev_c (rv_I0 (g := fun i j => .int (i + j)))) ⟨by omega, by omega, by omega, by omega, by omega⟩)
          (fun _ _ => el_lst (ea_cons (ev_op ev_c (ev_op ev_c ev_c (rv_I (C := CPow) (g := fun i j => .int (i ^ j.toNat)) ⟨by decide, by decide, by decide⟩)) (rv_I0 (g := fun i j => .int (i - j)))) ea_nil) (by show 1 ≤ 100000; decide)) (by rw [rgV_length]; show _ + 1 ≤ 100000; omega))
        (fun q k σ' H' => Ex H8 H' ∧ H' q = some (.lst (rgV (low - 2) (high + 3) ++ [.int (0 - 10 ^ (20 : Int).toNat)])) ∧ ∃ x10 : Option V, σ' = [some (.ref p), some (.ref T), some (.ref a), some (.ref wl), some (.int turn), some (.ref pl), some (.ref p1), some (.ref p2), some (.int low), some (.int high), x10, none, none]) (fun q H9 _ e9 h9 => ⟨e9, h9, _, rfl⟩) (fun q k σ' H' _ h => sq_of h.2.1) ?_ ?_
      · rintro q' k x σ' H9 hk ⟨e9, h9, x10', rfl⟩
        obtain ⟨m, rfl⟩ : ∃ m, x = .int m := by
          rcases List.mem_append.mp (List.mem_of_getElem? hk) with h | h
          · unfold rgV at h
            obtain ⟨_, _, h⟩ := List.mem_map.mp h
            exact ⟨_, h.symm⟩
          · exact ⟨_, List.mem_singleton.mp h⟩
        refine s_when (b := false) (et_is (et_not (et_B (ev_callR (z := .bl true) (ear_of (ea_cons (ev_var rfl) (ea_cons (ev_var rfl) (ea_cons (ev_var rfl) (ea_cons (ev_var rfl) (ea_cons (ev_var rfl) (ea_cons (ev_var rfl) ea_nil))))))) fun vs H10 e10 r Q10 q10 => by
          subst r
          have w10 := (w8.trans e9).trans e10
          have z10 := ((e7.trans e8).trans e9).trans e10
          exact ⟨T, a, wl, p1, p2, n, cs, f, g, i, j, m, rfl, hc.ex w10, hdr.ex (e2.trans w10), df, hwl.ex w10, z10 _ _ h1, z10 _ _ h2, hf, hg, q10⟩))) rfl) (fun z => nomatch z) fun _ H10 e10 => ⟨e9.trans e10, e10 _ _ h9, _, rfl⟩
      · rintro q' σ' H9 ⟨e9, _, x10', rfl⟩
        exact ⟨(((e4.trans e5).trans e6).trans (e7.trans e8)).trans e9, _, _, _, _, _, _, _, rfl⟩
    · rintro σ' H4 ⟨e4, x4, x5, x6, x7, x8, x9, x10, rfl⟩
      have y4 := x3.trans e4
      -- torn
      refine q_asgN (en_cal (labs := ["a"]) (sl := ["a"]) (cs := tornC) (R := fun vs H5 => ∃ m c t1 t2 : Addr, vs = [.ref m, .ref c] ∧ H5 m = some (.lst [.str "a"]) ∧ H5 c = some (.lst [.ref t1, .ref t2]) ∧ H5 t1 = some (clO ⟨"a", day, 1⟩) ∧ H5 t2 = some (clO ⟨day, "a", -2⟩))
        (ear_consN (en_L (el_lst (ea_cons ev_c ea_nil) (by show 1 ≤ 100000; decide))) fun m H5 e5 h5 => ear_consN (en_lst (R := fun vs H6 => ∃ t1 t2 : Addr, vs = [.ref t1, .ref t2] ∧ H6 t1 = some (clO ⟨"a", day, 1⟩) ∧ H6 t2 = some (clO ⟨day, "a", -2⟩))
          (ear_consN (en_U (eu_tup (ea_cons ev_c (ea_cons ev_c (ea_cons ev_c ea_nil))) (by show 3 ≤ 100000; decide))) fun t1 H6 e6 h6 => ear_consN (en_U (eu_tup (ea_cons ev_c (ea_cons ev_c (ea_cons (ev_un ev_c ru_neg) ea_nil))) (by show 3 ≤ 100000; decide))) fun t2 H7 e7 h7 => ear_nil fun H8 e8 => ⟨t1, t2, rfl, (e7.trans e8) _ _ h6, e8 _ _ h7⟩)
          (fun vs H6 H7 e ⟨t1, t2, h0, h1, h2⟩ => ⟨t1, t2, h0, e _ _ h1, e _ _ h2⟩) (fun vs H6 ⟨t1, t2, h0, _⟩ => by rw [h0]; show 2 ≤ 100000; decide)) fun c H6 e6 ⟨vs, h6, t1, t2, ev6, g1, g2⟩ => ear_nil fun H7 e7 => ⟨m, c, t1, t2, rfl, (e6.trans e7) _ _ h5, by rw [ev6] at h6; exact e7 _ _ h6, e7 _ _ g1, e7 _ _ g2⟩)
        (fun vs H5 ⟨m, c, t1, t2, ev, h1, h2, h3, h4⟩ => ⟨m, c, ev, h1, [t1, t2], h2, .cons h3 (.cons h4 .nil)⟩) ?_ (by decide +kernel) (by decide) ⟨by decide +kernel, by decide +kernel⟩ ?_ ?_ (by decide)) fun torn H5 _ e5 htorn => ?_
      · intro z hz
        rw [List.mem_singleton.mp hz]
        exact ⟨by decide +kernel, by decide +kernel, by decide +kernel⟩
      · unfold ClW tornC
        decide +kernel
      · unfold tornC
        decide +kernel
      have ag1 : ∀ H6, Ex H5 H6 → AdArg K H6 torn (-4) 6 ["a"] tornC := fun H6 e6 => ⟨htorn.ex e6, ⟨by decide +kernel, by decide, by decide, by unfold tornC; decide +kernel⟩, ⟨by decide, by decide, by decide⟩, fun k hk => by
        have hk : k ≤ 1 := hk
        rcases (show k = 0 ∨ k = 1 by omega) with rfl | rfl <;> decide⟩
      have ag2 : ∀ (c : Addr) (H6 : Hp), CalAt K H6 c [] [] → AdArg K H6 c 5 5 [] [] := fun c H6 hc => ⟨hc, ⟨by decide +kernel, by decide, by decide, fun x hx => absurd hx List.not_mem_nil⟩, ⟨by decide, by decide, by decide⟩, fun k hk => by
        have hk : k ≤ 0 := hk
        rw [show k = 0 by omega]
        decide⟩
      refine s_ret (ev_is (ev_andV (ev_eqE (n := 0) ((en_lAd (a := torn) (e := -4) (l := 6) (sl := ["a"]) (cs := tornC) (ea_cons (ev_var rfl) (ea_cons (ev_un ev_c ru_neg) (ea_cons ev_c ea_nil))) ag1).imp fun q6 H6 e6 ⟨as, k1, k2⟩ => ⟨as, k1, by rw [paired_len k2, torn_none]; rfl, allO_empty k2 fun d hd => by rw [torn_none] at hd; exact absurd hd List.not_mem_nil⟩) fun H6 e6 => (en_L (el_lst ea_nil (Nat.zero_le _))).imp fun q6 H7 e7 h7 => ⟨[], h7, rfl, fun b hb => absurd hb List.not_mem_nil⟩) fun _ =>
        ev_eqE (n := 1) ((en_lAdR (e := 5) (l := 5) (sl := []) (cs := []) (ear_consN (en_cal0 (el_lst ea_nil (Nat.zero_le _))) fun c6 H6 e6 cal6 => ear_cons ev_c fun H7 e7 => ear_cons ev_c fun H8 e8 => ear_nil fun H9 e9 => ⟨c6, rfl, ag2 c6 H9 (cal6.ex ((e7.trans e8).trans e9))⟩)).imp fun q6 H6 e6 ⟨as, k1, k2⟩ => ⟨as, k1, by rw [paired_len k2, none_one]; rfl, allO_empty k2 fun d hd => by rw [none_one] at hd; exact List.mem_singleton.mp hd⟩)
          fun H6 e6 => (en_lst (R := fun vs H7 => ∃ b : Addr, vs = [.ref b] ∧ H7 b = some (.dK []) ∧ H6 b = none) (ear_consN (en_fresh (en_D ed_new)) fun b H7 e7 ⟨hb, hb0⟩ => ear_nil fun H8 e8 => ⟨b, rfl, e8 _ _ hb, hb0⟩) (fun vs H7 H8 e ⟨b, h0, h1, h2⟩ => ⟨b, h0, e _ _ h1, h2⟩) (fun vs H7 ⟨b, h0, _⟩ => by rw [h0]; show 1 ≤ 100000; decide)).imp fun q6 H7 e7 ⟨vs, h7, b, ev7, hb, hb0⟩ => ⟨[b], by rw [ev7] at h7; exact h7, rfl, fun b' hb' => by rw [List.mem_singleton.mp hb']; exact ⟨hb, hb0⟩⟩) rfl) fun H9 e9 => q H9 ((y4.trans e5).trans e9)
end
end LdP
/-! # LdPG -/
/-! law. -/
namespace LdP
open PySem PySem.Spec PyProof.Rows L2 Evl LiI
section
variable {P : Program} {w : World} {K : PySem.W.Frag} {mg : Str → Option Value} {base : Heap} {k : Nat} {f : Addr} {ps : List Str} {sp sp2 : Sp}
/-- a promise about a pot that is told as bounded, of a pot that is told as a list -/
theorem okq_lst (F : OkQ P w K mg base k f ps sp) (len : ∀ vs H Q E, sp2 vs H Q E → vs.length = ps.length) (h : ∀ vs H Q E, sp2 vs H Q E → ∃ p x y, H p = some (.lst [.int x, .int y]) ∧ PotB x y ∧ sp vs (upd H p (potO p)) Q E) : OkQ P w K mg base k f ps sp2 := by
  obtain ⟨fd, F1, F2, F3⟩ := F.ex
  refine ⟨⟨fd, len, fun A outer s H args us vs Q E hg hr e0 hb r hsp => ?_, F3⟩, F.kp⟩
  obtain ⟨p, x, y, hp, hxy, q⟩ := h vs H Q E hsp
  have nH : ∀ b, H b = none → upd H p (potO p) b = none := fun b e => by rw [upd_ne (fun z => by rw [z, hp] at e; cases e)]; exact e
  have e1 : Env0 P w K mg base A outer s (upd H p (potO p)) := ⟨e0.frames, e0.mod, fun b o e => ⟨(e0.bs b o e).1, nH b (e0.bs b o e).2⟩, e0.bsz, e0.funs, fun b m => nH b (e0.frf b m), pot_back e0.hok hp hxy, e0.bare⟩
  refine codeAny_mono (F2 A outer s _ args us vs Q E hg hr e1 hb r q) fun res s' hq => ?_
  cases res with
  | error e => exact hq
  | ok fl =>
    cases fl with
    | ret u =>
      obtain ⟨v, H', os, bare, un, hok', rv, hQ⟩ := hq
      have ne : ∀ b o, H b = some o → (∀ xs, o ≠ .lst xs) → b ≠ p := fun b o e n z => by subst z; rw [hp] at e; exact n _ (Option.some.inj e).symm
      refine ⟨v, H', os, bare, ⟨fun b o e n => un.keep b o e (nH b n), fun b o e n => un.slot b o e (nH b n), fun b o e n hx => un.free b o e (nH b n) hx, fun b o e hx => un.there b o e hx, fun b xs e => ?_, fun b o u e => ?_, fun b pz e => ?_⟩, hok', rv, hQ⟩
      · exact un.tups b xs (by rw [upd_ne (ne b _ e nofun)]; exact e)
      · exact un.frzs b o u (by rw [upd_ne (ne b _ e nofun)]; exact e)
      · exact un.tbls b pz (by rw [upd_ne (ne b _ e nofun)]; exact e)
    | next => exact hq
    | brk => exact hq
    | cont => exact hq
def spLright2 : Sp := fun vs H Q _ => ∃ (p : Addr) (x y : Int), vs = [.ref p] ∧ H p = some (.lst [.int x, .int y]) ∧ PotB x y ∧ ∀ H', ExB p H H' → Q (.bl true) H'
theorem ok_Lright2 (t : Tx K mg) : OkQ P w K mg base 10 (He.ga K "_law_right") p_Lright spLright2 :=
  okq_lst (ok_Lright t) (fun vs H Q E ⟨p, x, y, ev, _⟩ => by rw [ev]; rfl) fun vs H Q E ⟨p, x, y, ev, hp, hb, q⟩ => ⟨p, x, y, hp, hb, p, ev, upd_same, fun H' ex => q H' fun b u hb hu => ex b u (by rw [upd_ne hb]; exact hu)⟩
def spLaw (K : PySem.W.Frag) : Sp := fun vs H Q _ => ∃ (a : Addr) (ns : List Int), vs = [.ref a] ∧ SqL K H a (ns.map V.int) ∧ ns.length ≤ 63 ∧ ∀ H', Ex H H' → Q (.bl true) H'
theorem ok_law (t : Tx K mg) : OkQ P w K mg base 11 (He.ga K "law") p_law (spLaw K) := by
  obtain ⟨fd, F⟩ := t.def_law
  have G1 : Ok P w K mg base 10 _ _ _ := (ok_Lpot (P := P) (w := w) (base := base) t).mono (by decide)
  have G2 := ok_Lright2 (P := P) (w := w) (base := base) t
  refine okq_of F sc_law (fun _ _ _ _ _ _ us hl => match us, hl with | [_], _ => rfl) (fun vs H Q E h => ?_) (fun cdv A outer s H vs Q E hgd hr h => ?_)
  · obtain ⟨a, ns, rfl, _⟩ := h
    rfl
  · obtain ⟨a, ns, rfl, ha, hz, q⟩ := h
    refine ⟨_, pss_one (ps_ret (pe_callB (cr_all rfl) (by rfl) t.f_all boot_all' (pa_cons (pe_lc (own := [("_law_k", 1)]) (g := gName 1) (tt := tYes) (te := tCall spLright2 [] E0 (tCons (tCall (spLpot K) [] E0 (tCons (tVar 0) (tCons (tVar 1) tNil))) tNil)) rfl sc_law.nd
        (pi_range1 (by rfl) t.f_range (pa_cons (pe_callB (call_max2 rfl) (by rfl) t.f_max boot_max' (pa_cons pe_int (pa_cons (pe_callB (call_min2 rfl) (by rfl) t.f_min boot_min' (pa_cons (pe_callB call_len_seq (by rfl) t.f_len boot_len' (pa_cons (pv 0) pa_nil)) (pa_cons pe_int pa_nil))) pa_nil))) pa_nil))
        (blkOk_by (own := [("_law_k", 1)]) (N := n_law) (sc := defScope s_law) (by decide +kernel)) (fun _ _ _ _ _ => pg_name (i := 1) sc_law.nd rfl (Or.inl rfl)) (fun _ _ _ _ _ => pts_nil)
        (fun _ _ _ _ _ => pe_fq G2 hgd hr t.g_lawright (pa_cons (pe_fn G1 hr t.g_lawpot (pa_cons (pv 0) (pa_cons (pv 1) pa_nil))) pa_nil))) pa_nil))), ?_⟩
    have hmin : Ev (tCB (fun xs H Q => ∃ i j, xs = [V.int i, .int j] ∧ Q (.int (if j < i then j else i)) H) (tCons (tCB (rLenS K) (tCons (tVar 0) tNil)) (tCons (tC (.int 4)) tNil))) (start n_law [.ref a]) H (.int (if (4 : Int) < (ns.map V.int).length then 4 else (ns.map V.int).length)) :=
      ev_cb (ea_cons (ev_len (ev_var rfl) ha) (ea_cons ev_c ea_nil)) fun H1 e1 Q1 q1 => ⟨_, _, rfl, q1 H1 (Ex.refl _)⟩
    have hmax := ev_max2 (σ := start n_law [.ref a]) (H := H) (ev_c (v := .int 1)) hmin
    generalize hm : (if (if (4 : Int) < (ns.map V.int).length then (4 : Int) else (ns.map V.int).length) > 1 then (if (4 : Int) < (ns.map V.int).length then (4 : Int) else (ns.map V.int).length) else 1) = m at hmax
    have hm4 : 1 ≤ m ∧ m ≤ 4 := by
      rw [← hm]
      split
      · split <;> omega
      · omega
    have key := el_lcR1 (t := tYes) (vs := [1]) (j := 1) (te := tCall spLright2 [] E0 (tCons (tCall (spLpot K) [] E0 (tCons (tVar 0) (tCons (tVar 1) tNil))) tNil)) (fun _ => true) (fun _ => V.bl true) (ea_cons hmax ea_nil) ⟨by omega, by omega⟩ (fun _ => rfl) ?_ ?_
    · rw [given_all] at key
      have e0 : (List.range m.toNat).map (fun _ => V.bl true) = ((List.range m.toNat).map fun _ => true).map V.bl := by
        rw [List.map_map]
        rfl
      rw [e0] at key
      refine s_ret (ev_is (ev_allN key) (by rw [all_true])) fun H1 e1 => q H1 e1
    · exact fun i H1 e hi => fun H2 _ Q1 q1 => q1 H2 (Ex.refl _)
    · refine fun i H1 e hi _ => fun H2 e2 Q1 q1 => ?_
      refine (en_call (R' := fun p H3 => ∃ x y : Int, PotB x y ∧ H3 p = some (.lst [.int x, .int y])) (ear_of (ea_cons (ev_var rfl) (ea_cons (ev_var rfl) ea_nil))) fun vs H3 e3 r Q3 q3 => by
        subst r
        exact ⟨a, ns, i, rfl, ex_l ((e.trans e2).trans e3) ha, by omega, by omega, by omega, fun p x y H4 hp e4 hb hu => q3 p H4 hp e4 ⟨x, y, hb, hu⟩⟩) H2 (Ex.refl _) _ fun p H3 hp e3 ⟨x, y, hb, hu⟩ => ⟨p, x, y, rfl, hu, hb, fun H4 ex => q1 H4 fun b u hbu => ex b u (ne_of_none hbu hp) (e3 _ _ hbu)⟩
end
end LdP
/-! # LdHead -/
set_option maxHeartbeats 0
/-! The head: the top's run, and what it leaves. -/
namespace LdP
open L2 PyProof.Rows PySem PySem.Spec
def hookL : PySem.W.Hook where
  α := AlL
  obs := fun s => obsL (He.frG s.heap.get? (He.asD s.heap.get? 5))
  val := fun _ => valL
  says := fun _ h => ∃ Kz : PySem.W.Frag, Kz.In h ∧ obsL Kz = valL
  of := fun _ _ e => ⟨_, He.frG_in, e⟩
  keeps := fun _ _ _ ⟨Kz, hKz, cz⟩ kz => ⟨Kz, PySem.W.Frag.In.keeps hKz kz, cz⟩
abbrev R : PySem.W.OpenRow := PySem.W.OpenLaw.row PySem.Challenge.rw_letdays_k18_whole_days_between
def obL (g : Addr → Option Obj) : AlL := obsL (He.frG g (He.asD g 5))
def ob (s : PySem.W.SharedT) : AlL := obL (HandSHeadRun.getT s)
theorem ob_eq (s : PySem.W.SharedT) : ob s = hookL.obs s.abs := by
  have e : HandSHeadRun.getT s = s.abs.heap.get? := funext (HandSHeadRun.getT_eq s)
  show obL (HandSHeadRun.getT s) = obL s.abs.heap.get?
  rw [e]
def loose1 : List PySem.Str := ["_wall", "LETTERS", "MOST_LETTERS", "ZERO", "is_integer", "is_list", "is_name", "is_moment", "is_point", "is_clause", "is_clause_basics", "DaysError", "InvalidPoint", "InvalidNumber", "InvalidMoment", "InvalidCalendar", "InvalidMoments", "InvalidClauses", "StateError", "NoDates", "LimitError", "TooMany", "Sums", "Days", "Closed"]
def loose2 : List PySem.Str := ["some_dates", "Calendar", "MOST_DATES", "want_point", "closed_of", "dates_apart", "dates_with", "day_lists", "all_dates", "_law_pot", "_law_draw", "_law_pick", "_law_all", "_law_keeps", "_law_draft", "_law_gone_through", "_law_number_right", "_law_right", "_law_between"]
def loose : List PySem.Str := loose1 ++ loose2
theorem run (w : World) : HandSHeadRun.RunEq R (PySem.W.view R.prog [50]) hookL ob 20000 loose w := by
  intro os
  kernel_rfl
end LdP
/-! # LdPH -/
set_option maxHeartbeats 4100000
/-! The law's call from the top; the end. -/
namespace LdP
open PySem PySem.Spec PyProof.Rows L2 Evl
section
variable {P : Program} {w : World} {K : PySem.W.Frag} {mg mb : Str → Option Value} {k : Nat} {f a : Addr} {x : Str} {sp : Sp} {s : Shared} {us : List Value} {ns : List Int}
abbrev sO (us : List Value) : Obj := { data := .seq us.toArray, cls := .type "list" }
/-- the script alone, where it is none of the module's own objects -/
def scr (K : PySem.W.Frag) (a : Addr) (us : List Value) (ns : List Int) : Hp := fun b =>
  if b = a ∧ K.lookup a = none then some (.frz (sO us) (.lst (ns.map V.int))) else none
theorem scr_at {b : Addr} {u : HO} (e : scr K a us ns b = some u) : b = a ∧ K.lookup a = none ∧ u = .frz (sO us) (.lst (ns.map V.int)) := by
  unfold scr at e
  split at e
  · rename_i q
    exact ⟨q.1, q.2, (Option.some.inj e).symm⟩
  · exact nomatch e
theorem scr_off {b : Addr} (h : ¬ (b = a ∧ K.lookup a = none)) : scr K a us ns b = none := if_neg h
theorem scr_ns {b : Addr} {m : Str → Option Value} (ho : s.heap.get? a = some (sO us)) (h : s.heap.Ns b m) : (hidT s.heap (scr K a us ns)).Ns b m := by
  obtain ⟨o, es, ep, h1, h2, h3⟩ := h
  refine ⟨o, es, ep, hidT_get h1 (scr_off fun q => ?_), h2, h3⟩
  rw [q.1] at h1
  have z := Option.some.inj (ho.symm.trans h1)
  rw [← z] at h2
  exact nomatch h2
theorem scr_in (hK : K.In s.heap) : K.In (hidT s.heap (scr K a us ns)) := fun b o e => hidT_get (hK b o e) (scr_off fun q => by
  rw [q.1, q.2] at e
  exact nomatch e)
theorem scr_sq (hK : K.In s.heap) (ho : s.heap.get? a = some (sO us)) (hv : IntsAre us ns) (hz : ns.length ≤ sizeLine) : SqL K (scr K a us ns) a (ns.map V.int) := by
  cases hk : K.lookup a with
  | none => exact .inl (.inr ⟨sO us, if_pos ⟨rfl, hk⟩⟩)
  | some o =>
    have e := hK a o hk
    rw [ho] at e
    cases e
    exact .inr ⟨_, us.toArray, _, hk, rfl, rfl, rfl, by rw [List.size_toArray, hv.length]; exact hz, by simpa using vals_ints hv⟩
theorem scr_hok (ho : s.heap.get? a = some (sO us)) (hv : IntsAre us ns) (hz : ns.length ≤ sizeLine) : HOk P w (scr K a us ns) s.heap := fun b u e => by
  obtain ⟨rfl, _, rfl⟩ := scr_at e
  exact ⟨ho, by rw [List.length_map]; exact hz, us, _, vals_ints hv, ho⟩
/-- the law's call -/
theorem law_callQ (hK : K.In s.heap) (hm : s.heap.Ns mainGlobals mg) (hb : s.heap.Ns builtinsNs mb) (hbb : ∀ x : Str, x ≠ "__name__" → mb x = bootBuiltins x) (hl : s.heap.NoLimit) (hg : s.gens = #[])
    (ho : s.heap.get? a = some (sO us)) (hv : IntsAre us ns) (hz : ns.length ≤ sizeLine) (hr : Room k callerA) (F : ∀ base : Heap, K.In base → base.Ns mainGlobals mg → OkQ P w K mg base k f [x] sp)
    (hs : ∀ H : Hp, SqL K H a (ns.map V.int) → sp [.ref a] H (fun v _ => v = .bl true) E0) :
    codeAny (model P w) callerA (.call (.ref f) ⟨[.ref a], []⟩) (fun r s' => r = .ok (.ret (.bool true)) ∧ OldK s.heap s'.heap ∧ s'.os = s.os ∧ AllBare s'.gens) s := by
  have KI := scr_in (a := a) (us := us) (ns := ns) hK
  have NS := scr_ns (K := K) (ns := ns) ho hm
  obtain ⟨fd, _, F2, F3⟩ := (F _ KI NS).ex
  obtain ⟨mc, l1, l2⟩ := hl
  have ev : Env0 P w K mg (hidT s.heap (scr K a us ns)) callerA [] s (scr K a us ns) :=
    { frames := rfl, mod := ⟨KI, NS, ⟨mb, scr_ns ho hb, hbb⟩, mc, scr_ns ho l1, l2⟩, bs := fun bz oz ez => of_hidT ez, bsz := Nat.le_of_eq (hidT_size s.heap _), funs := trivial, frf := fun bz q => (List.not_mem_nil q).elim, hok := scr_hok ho hv hz, bare := .of_eq hg }
  refine codeAny_mono (F2 callerA [] s _ ⟨[.ref a], []⟩ [.ref a] [.ref a] _ E0 rfl hr ev (F3 s [.ref a] hK rfl) (.cons rfl .nil) (hs _ (scr_sq hK ho hv hz))) fun r s' q => ?_
  match r, q with
  | .ok (.ret u), ⟨v, H', os, bare, un, ok', rv, qv⟩ =>
    obtain rfl : v = V.bl true := qv
    obtain rfl : u = Value.bool true := rv
    refine ⟨rfl, OldK.of_keep fun bz oz ez => ?_, os, bare⟩
    cases z : scr K a us ns bz with
    | none => exact un.keep bz oz ez z List.not_mem_nil List.not_mem_nil
    | some u =>
      obtain ⟨rfl, _, rfl⟩ := scr_at z
      have e2 := (ok' bz _ (un.frzs bz _ _ z)).1
      rw [ho] at ez
      cases ez
      exact e2
end
end LdP
/-! # LdPI -/
set_option maxHeartbeats 0
/-! The claim. -/
namespace LdP
open PySem PySem.Spec PyProof.Rows L2 Evl
theorem law_at {P : Program} {w : World} {mg mb : Str → Option Value} {f a : Addr} {s : Shared} {us : List Value} {ns : List Int} (Y : hookL.says w s.heap) (hm : s.heap.Ns mainGlobals mg) (hf : mg ("law" : Str) = some (.ref f)) (hb : s.heap.Ns builtinsNs mb) (hbb : ∀ x : Str, x ≠ "__name__" → mb x = bootBuiltins x)
    (hl : s.heap.NoLimit) (hg : s.gens = #[]) (ho : s.heap.get? a = some (sO us)) (hv : IntsAre us ns) (hz : ns.length ≤ 63) :
    codeAny (model P w) callerA (.call (.ref f) ⟨[.ref a], []⟩) (fun r s' => r = .ok (.ret (.bool true)) ∧ OldK s.heap s'.heap ∧ s'.os = s.os ∧ AllBare s'.gens) s := by
  obtain ⟨K, KX, c⟩ := Y
  have t : Tx K mg := ⟨c, _, KX, hm⟩
  obtain rfl : f = He.ga K "law" := by
    have e := hf.symm.trans t.g_law
    injection e with e
    injection e
  exact law_callQ (x := "_law_script") (sp := spLaw K) KX hm hb hbb hl hg ho hv (Nat.le_trans hz (by decide)) ⟨rfl, by decide, by decide⟩ (fun base _ _ => ok_law t) fun H hS => ⟨a, ns, rfl, hS, hz, fun _ _ => rfl⟩
end LdP
open PyProof.Rows PySem PySem.Calls PySem.W
theorem PySem.Challenge.cw_letdays_k18_whole_days_between_holds : PySem.Challenge.rw_letdays_k18_whole_days_between.Holds := by
  w_on; o_law
  refine HandSHeadRun.head_any (r := OpenLaw.row PySem.Challenge.rw_letdays_k18_whole_days_between) (q := view (OpenLaw.row PySem.Challenge.rw_letdays_k18_whole_days_between).prog [50]) (H := LdP.hookL) (ob := LdP.ob) (M := 20000) (loose := LdP.loose)
    (d := HandSHeadRun.topDef (OpenLaw.row PySem.Challenge.rw_letdays_k18_whole_days_between).prog 50) (kwd := []) LdP.ob_eq (by kernel_rfl) (fun s => by kernel_rfl) LdP.run (by kernel_rfl) (by kernel_rfl) (by kernel_rfl) (by rfl) (by first | assumption | decide +kernel) (by decide +kernel) ⟨rfl, rfl, rfl, rfl, rfl, by decide +kernel⟩ ?hw ?hc
  case hw => w_witness2
  case hc =>
    have nm : (HandSHeadRun.topDef (OpenLaw.row PySem.Challenge.rw_letdays_k18_whole_days_between).prog 50).name = ("law" : PySem.Str) := by kernel_rfl
    exact Att.attach_call (n := 63) rfl (by kernel_rfl) fun w s₀ s₁ mg mb f o pm cd doc a us ns G Y ho hd hcd hf hobj hv hz hg => LdP.law_at Y G.T.g (by rw [← nm]; exact hf) G.T.b G.T.builtins G.T.nolimit hg hobj hv hz
